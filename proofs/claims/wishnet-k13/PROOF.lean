import PyProof.Rows.All
import Wide.All
import OpenK.AllK
import Wide.FinOn
import HandS.ForMost
import HandS.Walk
import HandS.Wide
import HandS.WideBits
import HandS.StrMore
import HandS.SortInts
import HandS.Strs
import HandS.IsInst
import HandS.Defaults
import HandS.MakeKwOnly
import HandS.Head0
import HandS.Head1
import HandS.Head2
import HandS.HeadEnd
import HandS.HeadHook1
import HandS.HeadHook2
import HandS.Style
import HandS.SetFor
import KE.KDictZip
import KE.KTurns
import HandS.Iter
import HandS.SortRule
import PyProof.Rows.SortShellAny
import HandS.TupAny
import HandS.Deep
import HandS.Conv
import HandS.TupSets
import HandS.Dict
import HandS.DictTup
import KE.KDictDisplayH
import KE.KSortTupG
import KE.KDictList
import KE.KDictPairs
import KE.DataCmp
import KE.SortData
import PyProof.ListRange
import HandS.DictComp
import HandS.WordsExc
import PyProof.ReprRoads
import HandS.Zip
import KE.DataMinMax
import HandS.ReplaceDef
import HandS.ReplaceLit
import HandS.ReplaceList
import PyProof.Rows.ReprShort
import PyProof.FitsInt
import Lean
import PySem.Challenge.RW_wishnet_k13_what_holds_a_letter
set_option Elab.async false
set_option linter.all false
set_option maxRecDepth 100000
set_option maxHeartbeats 4000000
/-! My base, part 1: data, their standing in a heap, growth of heaps. -/
namespace G
open PySem PySem.Spec L2 PyProof.Rows TL

/-! ### data by type -/
class Enc (α : Type) where
  d : α → PyData
instance : Enc Int := ⟨.int⟩
instance : Enc Bool := ⟨.bool⟩
instance : Enc Str := ⟨.str⟩
instance : Enc Unit := ⟨fun _ => .none⟩
def encO {α : Type} (f : α → PyData) : Option α → PyData
  | none => .none
  | some x => f x
instance {α : Type} [Enc α] : Enc (Option α) := ⟨encO Enc.d⟩
instance {α : Type} [Enc α] : Enc (List α) := ⟨fun xs => .list (xs.map Enc.d)⟩
instance {α β : Type} [Enc α] [Enc β] : Enc (α × β) := ⟨fun p => .tuple [Enc.d p.1, Enc.d p.2]⟩
structure T3 (α β γ : Type) where
  a : α
  b : β
  c : γ
  deriving DecidableEq
structure T4 (α β γ δ : Type) where
  a : α
  b : β
  c : γ
  e : δ
  deriving DecidableEq
structure T5 (α β γ δ ε : Type) where
  a : α
  b : β
  c : γ
  e : δ
  f : ε
  deriving DecidableEq
structure VT (α : Type) where
  l : List α
  deriving DecidableEq
instance {α β γ : Type} [Enc α] [Enc β] [Enc γ] : Enc (T3 α β γ) := ⟨fun p => .tuple [Enc.d p.a, Enc.d p.b, Enc.d p.c]⟩
instance {α β γ δ : Type} [Enc α] [Enc β] [Enc γ] [Enc δ] : Enc (T4 α β γ δ) := ⟨fun p => .tuple [Enc.d p.a, Enc.d p.b, Enc.d p.c, Enc.d p.e]⟩
instance {α β γ δ ε : Type} [Enc α] [Enc β] [Enc γ] [Enc δ] [Enc ε] : Enc (T5 α β γ δ ε) := ⟨fun p => .tuple [Enc.d p.a, Enc.d p.b, Enc.d p.c, Enc.d p.e, Enc.d p.f]⟩
instance {α : Type} [Enc α] : Enc (VT α) := ⟨fun p => .tuple (p.l.map Enc.d)⟩

/-- a text that may be handled: no longer than the line, of signs -/
structure GS (x : Str) : Prop where
  len : x.length ≤ sizeLine
  ok : PyData.strOk x = true

mutual
inductive Rp (K : PySem.W.Frag) (F : Hp) : V → PyData → Prop
  | non : Rp K F .non .none
  | bl (b : Bool) : Rp K F (.bl b) (.bool b)
  | int (i : Int) : Rp K F (.int i) (.int i)
  | str (x : Str) : GS x → Rp K F (.str x) (.str x)
  | lst {a : Addr} {xs : List V} {ds : List PyData} : SqL K F a xs → xs.length ≤ sizeLine → RpA K F xs ds → Rp K F (.ref a) (.list ds)
  | tup {a : Addr} {xs : List V} {ds : List PyData} : F a = some (.tup xs) → xs.length ≤ sizeLine → RpA K F xs ds → Rp K F (.ref a) (.tuple ds)
inductive RpA (K : PySem.W.Frag) (F : Hp) : List V → List PyData → Prop
  | nil : RpA K F [] []
  | cons {v : V} {vs : List V} {d : PyData} {ds : List PyData} : Rp K F v d → RpA K F vs ds → RpA K F (v :: vs) (d :: ds)
end
/-- v stands for x -/
abbrev R {α : Type} [Enc α] (K : PySem.W.Frag) (F : Hp) (v : V) (x : α) : Prop := Rp K F v (Enc.d x)
/-- the values vs stand for the things xs -/
abbrev RL {α : Type} [Enc α] (K : PySem.W.Frag) (F : Hp) (vs : List V) (xs : List α) : Prop := RpA K F vs (xs.map Enc.d)

section
variable {K : PySem.W.Frag} {F F' H H' : Hp} {v : V} {vs : List V} {d : PyData} {ds : List PyData} {a p : Addr} {xs : List V}
theorem SqT_mono (e : Same H H') (h : SqT K H a xs) : SqT K H' a xs := by
  rcases h with (h | ⟨o, h⟩) | h
  · exact .inl (.inl (e _ _ h))
  · exact .inl (.inr ⟨o, e _ _ h⟩)
  · exact .inr h
mutual
theorem Rp.mono (e : Same F F') : ∀ (d : PyData) (v : V), Rp K F v d → Rp K F' v d
  | .none, _, h => by cases h; exact .non
  | .bool b, _, h => by cases h; exact .bl b
  | .int i, _, h => by cases h; exact .int i
  | .str x, _, h => by cases h with | str _ g => exact .str x g
  | .list ds, _, h => by cases h with | lst hs hl ha => exact .lst (e.seq hs) hl (RpA.mono e ds _ ha)
  | .tuple ds, _, h => by cases h with | tup hs hl ha => exact .tup (e _ _ hs) hl (RpA.mono e ds _ ha)
  | .dict _, _, h => by cases h
theorem RpA.mono (e : Same F F') : ∀ (ds : List PyData) (vs : List V), RpA K F vs ds → RpA K F' vs ds
  | [], _, h => by cases h; exact .nil
  | d :: ds, _, h => by cases h with | cons h1 h2 => exact .cons (Rp.mono e d _ h1) (RpA.mono e ds _ h2)
end
theorem Rp.up (h : Rp K F v d) (e : Same F F') : Rp K F' v d := Rp.mono e d v h
theorem RpA.up (h : RpA K F vs ds) (e : Same F F') : RpA K F' vs ds := RpA.mono e ds vs h
mutual
theorem Rp.dp : ∀ (d : PyData) (v : V), Rp K F v d → Dp K F v d
  | .none, _, h => by cases h; exact .non
  | .bool b, _, h => by cases h; exact .bl b
  | .int i, _, h => by cases h; exact .int i
  | .str x, _, h => by cases h; exact .str x
  | .list ds, _, h => by cases h with | lst hs hl ha => exact .lst hs (RpA.dp ds _ ha)
  | .tuple ds, _, h => by cases h with | tup hs hl ha => exact .tup (.inl (.inl hs)) (RpA.dp ds _ ha)
  | .dict _, _, h => by cases h
theorem RpA.dp : ∀ (ds : List PyData) (vs : List V), RpA K F vs ds → DpAll K F vs ds
  | [], _, h => by cases h; exact .nil
  | d :: ds, _, h => by cases h with | cons h1 h2 => exact .cons (Rp.dp d _ h1) (RpA.dp ds _ h2)
end
mutual
theorem Rp.lay : ∀ (d : PyData) (v : V), Rp K F v d → d.canLay0 = true
  | .none, _, _ => rfl
  | .bool b, _, _ => rfl
  | .int i, _, _ => rfl
  | .str x, _, h => by cases h with | str _ g => exact g.ok
  | .list ds, _, h => by cases h with | lst hs hl ha => exact RpA.lay ds _ ha
  | .tuple ds, _, h => by cases h with | tup hs hl ha => exact RpA.lay ds _ ha
  | .dict _, _, h => by cases h
theorem RpA.lay : ∀ (ds : List PyData) (vs : List V), RpA K F vs ds → PyData.canLayAll0 ds = true
  | [], _, _ => rfl
  | d :: ds, _, h => by cases h with | cons h1 h2 => exact Bool.and_eq_true_iff.mpr ⟨Rp.lay d _ h1, RpA.lay ds _ h2⟩
end

/-! ### what stands at a value, by its type -/
theorem RpA.length : ∀ {ds : List PyData} {vs : List V}, RpA K F vs ds → vs.length = ds.length
  | [], _, h => by cases h; rfl
  | d :: ds, _, h => by cases h with | cons h1 h2 => exact congrArg Nat.succ h2.length
theorem RpA.get : ∀ {ds : List PyData} {vs : List V} {i : Nat} {v : V}, RpA K F vs ds → vs[i]? = some v → ∃ d, ds[i]? = some d ∧ Rp K F v d
  | [], _, _, _, h, e => by cases h; simp at e
  | d :: ds, _, 0, _, h, e => by cases h with | cons h1 h2 => exact ⟨d, rfl, by simpa using (Option.some.inj e) ▸ h1⟩
  | d :: ds, _, i + 1, v, h, e => by
    cases h with
    | cons h1 h2 =>
      obtain ⟨d', e1, e2⟩ := h2.get (i := i) (v := v) (by simpa using e)
      exact ⟨d', by simpa using e1, e2⟩
theorem RpA.back : ∀ {ds : List PyData} {vs : List V} {i : Nat} {d : PyData}, RpA K F vs ds → ds[i]? = some d → ∃ v, vs[i]? = some v ∧ Rp K F v d
  | [], _, _, _, h, e => by simp at e
  | d :: ds, _, 0, _, h, e => by
    cases h with
    | cons h1 h2 =>
      have e' := Option.some.inj e
      subst e'
      exact ⟨_, rfl, h1⟩
  | d :: ds, _, i + 1, d', h, e => by
    cases h with
    | cons h1 h2 =>
      obtain ⟨v, e1, e2⟩ := h2.back (i := i) (d := d') (by simpa using e)
      exact ⟨v, by simpa using e1, e2⟩
theorem RpA.append : ∀ {ds es : List PyData} {vs us : List V}, RpA K F vs ds → RpA K F us es → RpA K F (vs ++ us) (ds ++ es)
  | [], _, _, _, h, g => by cases h; exact g
  | d :: ds, _, _, _, h, g => by cases h with | cons h1 h2 => exact .cons h1 (h2.append g)
theorem RpA.take : ∀ {ds : List PyData} {vs : List V} (n : Nat), RpA K F vs ds → RpA K F (vs.take n) (ds.take n)
  | _, _, 0, _ => .nil
  | _, _, _ + 1, .nil => .nil
  | _, _, n + 1, .cons h t => .cons h (RpA.take n t)
theorem RpA.drop : ∀ {ds : List PyData} {vs : List V} (n : Nat), RpA K F vs ds → RpA K F (vs.drop n) (ds.drop n)
  | _, _, 0, h => h
  | _, _, _ + 1, .nil => .nil
  | _, _, n + 1, .cons _ t => RpA.drop n t
theorem RpA.set : ∀ {ds : List PyData} {vs : List V} (n : Nat), Rp K F v d → RpA K F vs ds → RpA K F (vs.set n v) (ds.set n d)
  | _, _, _, _, .nil => .nil
  | _, _, 0, r, .cons _ t => .cons r t
  | _, _, n + 1, r, .cons h t => .cons h (RpA.set n r t)
theorem RpA.dropLast {ds : List PyData} {vs : List V} (h : RpA K F vs ds) : RpA K F vs.dropLast ds.dropLast := by
  rw [List.dropLast_eq_take, List.dropLast_eq_take, h.length]
  exact h.take _
theorem RpA.reverse : ∀ {ds : List PyData} {vs : List V}, RpA K F vs ds → RpA K F vs.reverse ds.reverse
  | [], _, h => by cases h; exact .nil
  | d :: ds, _, h => by
    cases h with
    | cons h1 h2 =>
      rw [List.reverse_cons, List.reverse_cons]
      exact h2.reverse.append (.cons h1 .nil)

section
variable {α β γ δ ε : Type} [Enc α] [Enc β] [Enc γ] [Enc δ] [Enc ε]
theorem R.int_v {i : Int} (h : R K F v i) : v = .int i := by cases h; rfl
theorem R.bl_v {b : Bool} (h : R K F v b) : v = .bl b := by cases h; rfl
theorem R.str_v {x : Str} (h : R K F v x) : v = .str x ∧ GS x := by cases h with | str _ g => exact ⟨rfl, g⟩
theorem R.non_v (h : R K F v (none : Option α)) : v = .non := by
  have h' : Rp K F v .none := h
  cases h'
  rfl
theorem R.lst_v {xs : List α} (h : R K F v xs) : ∃ p ws, v = .ref p ∧ SqL K F p ws ∧ ws.length ≤ sizeLine ∧ RL K F ws xs := by
  have h' : Rp K F v (.list (xs.map Enc.d)) := h
  cases h' with | lst h1 h2 h3 => exact ⟨_, _, rfl, h1, h2, h3⟩
theorem R.vt_v {x : VT α} (h : R K F v x) : ∃ p ws, v = .ref p ∧ SqT K F p ws ∧ ws.length ≤ sizeLine ∧ RL K F ws x.l := by
  have h' : Rp K F v (.tuple (x.l.map Enc.d)) := h
  cases h' with | tup h1 h2 h3 => exact ⟨_, _, rfl, .inl (.inl h1), h2, h3⟩
theorem RpA.one {d1 : PyData} (h : RpA K F vs [d1]) : ∃ v1, vs = [v1] ∧ Rp K F v1 d1 := by
  cases h with | cons h1 h2 => cases h2; exact ⟨_, rfl, h1⟩
theorem RpA.two {d1 d2 : PyData} (h : RpA K F vs [d1, d2]) : ∃ v1 v2, vs = [v1, v2] ∧ Rp K F v1 d1 ∧ Rp K F v2 d2 := by
  cases h with | cons h1 h2 => obtain ⟨v2, rfl, r⟩ := h2.one; exact ⟨_, _, rfl, h1, r⟩
theorem RpA.three {d1 d2 d3 : PyData} (h : RpA K F vs [d1, d2, d3]) : ∃ v1 v2 v3, vs = [v1, v2, v3] ∧ Rp K F v1 d1 ∧ Rp K F v2 d2 ∧ Rp K F v3 d3 := by
  cases h with | cons h1 h2 => obtain ⟨v2, v3, rfl, r⟩ := h2.two; exact ⟨_, _, _, rfl, h1, r⟩
theorem RpA.four {d1 d2 d3 d4 : PyData} (h : RpA K F vs [d1, d2, d3, d4]) : ∃ v1 v2 v3 v4, vs = [v1, v2, v3, v4] ∧ Rp K F v1 d1 ∧ Rp K F v2 d2 ∧ Rp K F v3 d3 ∧ Rp K F v4 d4 := by
  cases h with | cons h1 h2 => obtain ⟨v2, v3, v4, rfl, r⟩ := h2.three; exact ⟨_, _, _, _, rfl, h1, r⟩
theorem RpA.five {d1 d2 d3 d4 d5 : PyData} (h : RpA K F vs [d1, d2, d3, d4, d5]) : ∃ v1 v2 v3 v4 v5, vs = [v1, v2, v3, v4, v5] ∧ Rp K F v1 d1 ∧ Rp K F v2 d2 ∧ Rp K F v3 d3 ∧ Rp K F v4 d4 ∧ Rp K F v5 d5 := by
  cases h with | cons h1 h2 => obtain ⟨v2, v3, v4, v5, rfl, r⟩ := h2.four; exact ⟨_, _, _, _, _, rfl, h1, r⟩
theorem R.p2_v {x : α × β} (h : R K F v x) : ∃ p v1 v2, v = .ref p ∧ SqT K F p [v1, v2] ∧ R K F v1 x.1 ∧ R K F v2 x.2 := by
  have h' : Rp K F v (.tuple [Enc.d x.1, Enc.d x.2]) := h
  cases h' with | tup h1 h2 h3 => obtain ⟨v1, v2, rfl, r1, r2⟩ := h3.two; exact ⟨_, _, _, rfl, .inl (.inl h1), r1, r2⟩
theorem R.p3_v {x : T3 α β γ} (h : R K F v x) : ∃ p v1 v2 v3, v = .ref p ∧ SqT K F p [v1, v2, v3] ∧ R K F v1 x.a ∧ R K F v2 x.b ∧ R K F v3 x.c := by
  have h' : Rp K F v (.tuple [Enc.d x.a, Enc.d x.b, Enc.d x.c]) := h
  cases h' with | tup h1 h2 h3 => obtain ⟨v1, v2, v3, rfl, r⟩ := h3.three; exact ⟨_, _, _, _, rfl, .inl (.inl h1), r⟩
theorem R.p4_v {x : T4 α β γ δ} (h : R K F v x) : ∃ p v1 v2 v3 v4, v = .ref p ∧ SqT K F p [v1, v2, v3, v4] ∧ R K F v1 x.a ∧ R K F v2 x.b ∧ R K F v3 x.c ∧ R K F v4 x.e := by
  have h' : Rp K F v (.tuple [Enc.d x.a, Enc.d x.b, Enc.d x.c, Enc.d x.e]) := h
  cases h' with | tup h1 h2 h3 => obtain ⟨v1, v2, v3, v4, rfl, r⟩ := h3.four; exact ⟨_, _, _, _, _, rfl, .inl (.inl h1), r⟩
theorem R.p5_v {x : T5 α β γ δ ε} (h : R K F v x) : ∃ p v1 v2 v3 v4 v5, v = .ref p ∧ SqT K F p [v1, v2, v3, v4, v5] ∧ R K F v1 x.a ∧ R K F v2 x.b ∧ R K F v3 x.c ∧ R K F v4 x.e ∧ R K F v5 x.f := by
  have h' : Rp K F v (.tuple [Enc.d x.a, Enc.d x.b, Enc.d x.c, Enc.d x.e, Enc.d x.f]) := h
  cases h' with | tup h1 h2 h3 => obtain ⟨v1, v2, v3, v4, v5, rfl, r⟩ := h3.five; exact ⟨_, _, _, _, _, _, rfl, .inl (.inl h1), r⟩
theorem R.vt_s {x : VT α} (h : R K F v x) : ∃ p ws, v = .ref p ∧ F p = some (.tup ws) ∧ ws.length ≤ sizeLine ∧ RL K F ws x.l := by
  have h' : Rp K F v (.tuple (x.l.map Enc.d)) := h
  cases h' with | tup h1 h2 h3 => exact ⟨_, _, rfl, h1, h2, h3⟩
theorem R.p2_s {x : α × β} (h : R K F v x) : ∃ p v1 v2, v = .ref p ∧ F p = some (.tup [v1, v2]) ∧ R K F v1 x.1 ∧ R K F v2 x.2 := by
  have h' : Rp K F v (.tuple [Enc.d x.1, Enc.d x.2]) := h
  cases h' with | tup h1 h2 h3 => obtain ⟨v1, v2, rfl, r1, r2⟩ := h3.two; exact ⟨_, _, _, rfl, h1, r1, r2⟩
theorem R.p3_s {x : T3 α β γ} (h : R K F v x) : ∃ p v1 v2 v3, v = .ref p ∧ F p = some (.tup [v1, v2, v3]) ∧ R K F v1 x.a ∧ R K F v2 x.b ∧ R K F v3 x.c := by
  have h' : Rp K F v (.tuple [Enc.d x.a, Enc.d x.b, Enc.d x.c]) := h
  cases h' with | tup h1 h2 h3 => obtain ⟨v1, v2, v3, rfl, r⟩ := h3.three; exact ⟨_, _, _, _, rfl, h1, r⟩
theorem R.p4_s {x : T4 α β γ δ} (h : R K F v x) : ∃ p v1 v2 v3 v4, v = .ref p ∧ F p = some (.tup [v1, v2, v3, v4]) ∧ R K F v1 x.a ∧ R K F v2 x.b ∧ R K F v3 x.c ∧ R K F v4 x.e := by
  have h' : Rp K F v (.tuple [Enc.d x.a, Enc.d x.b, Enc.d x.c, Enc.d x.e]) := h
  cases h' with | tup h1 h2 h3 => obtain ⟨v1, v2, v3, v4, rfl, r⟩ := h3.four; exact ⟨_, _, _, _, _, rfl, h1, r⟩
theorem R.p5_s {x : T5 α β γ δ ε} (h : R K F v x) : ∃ p v1 v2 v3 v4 v5, v = .ref p ∧ F p = some (.tup [v1, v2, v3, v4, v5]) ∧ R K F v1 x.a ∧ R K F v2 x.b ∧ R K F v3 x.c ∧ R K F v4 x.e ∧ R K F v5 x.f := by
  have h' : Rp K F v (.tuple [Enc.d x.a, Enc.d x.b, Enc.d x.c, Enc.d x.e, Enc.d x.f]) := h
  cases h' with | tup h1 h2 h3 => obtain ⟨v1, v2, v3, v4, v5, rfl, r⟩ := h3.five; exact ⟨_, _, _, _, _, _, rfl, h1, r⟩
/-- making them -/
theorem R.mkl {xs : List α} (h1 : SqL K F p vs) (h2 : vs.length ≤ sizeLine) (h3 : RL K F vs xs) : R K F (.ref p) xs := .lst h1 h2 h3
theorem R.mkvt {xs : List α} (h1 : F p = some (.tup vs)) (h2 : vs.length ≤ sizeLine) (h3 : RL K F vs xs) : R K F (.ref p) (VT.mk xs) := .tup h1 h2 h3
theorem R.mk2 {v1 v2 : V} {x : α} {y : β} (h1 : F p = some (.tup [v1, v2])) (r1 : R K F v1 x) (r2 : R K F v2 y) : R K F (.ref p) (x, y) := .tup h1 (by show 2 ≤ sizeLine; decide) (.cons r1 (.cons r2 .nil))
theorem R.mk3 {v1 v2 v3 : V} {x : α} {y : β} {z : γ} (h1 : F p = some (.tup [v1, v2, v3])) (r1 : R K F v1 x) (r2 : R K F v2 y) (r3 : R K F v3 z) : R K F (.ref p) (T3.mk x y z) := .tup h1 (by show 3 ≤ sizeLine; decide) (.cons r1 (.cons r2 (.cons r3 .nil)))
theorem R.mk4 {v1 v2 v3 v4 : V} {x : α} {y : β} {z : γ} {u : δ} (h1 : F p = some (.tup [v1, v2, v3, v4])) (r1 : R K F v1 x) (r2 : R K F v2 y) (r3 : R K F v3 z) (r4 : R K F v4 u) : R K F (.ref p) (T4.mk x y z u) := .tup h1 (by show 4 ≤ sizeLine; decide) (.cons r1 (.cons r2 (.cons r3 (.cons r4 .nil))))
theorem R.mk5 {v1 v2 v3 v4 v5 : V} {x : α} {y : β} {z : γ} {u : δ} {t : ε} (h1 : F p = some (.tup [v1, v2, v3, v4, v5])) (r1 : R K F v1 x) (r2 : R K F v2 y) (r3 : R K F v3 z) (r4 : R K F v4 u) (r5 : R K F v5 t) : R K F (.ref p) (T5.mk x y z u t) := .tup h1 (by show 5 ≤ sizeLine; decide) (.cons r1 (.cons r2 (.cons r3 (.cons r4 (.cons r5 .nil)))))
theorem RL.nil : RL K F [] ([] : List α) := RpA.nil
theorem RL.cons {x : α} {xs : List α} (r : R K F v x) (rs : RL K F vs xs) : RL K F (v :: vs) (x :: xs) := RpA.cons r rs
theorem RL.snoc {x : α} {xs : List α} (rs : RL K F vs xs) (r : R K F v x) : RL K F (vs ++ [v]) (xs ++ [x]) := by
  show RpA K F _ _
  rw [List.map_append]
  exact RpA.append rs (.cons r .nil)
theorem RL.app {us : List V} {xs ys : List α} (rs : RL K F vs xs) (r : RL K F us ys) : RL K F (vs ++ us) (xs ++ ys) := by
  show RpA K F _ _
  rw [List.map_append]
  exact RpA.append rs r
theorem RL.len {xs : List α} (rs : RL K F vs xs) : vs.length = xs.length := by
  have h := RpA.length rs
  rwa [List.length_map] at h
theorem RL.get {xs : List α} {i : Nat} (rs : RL K F vs xs) (e : vs[i]? = some v) : ∃ x, xs[i]? = some x ∧ R K F v x := by
  obtain ⟨d, e1, r⟩ := RpA.get rs e
  rw [List.getElem?_map] at e1
  cases h : xs[i]? with
  | none => rw [h] at e1; cases e1
  | some x =>
    rw [h] at e1
    have e2 : Enc.d x = d := Option.some.inj e1
    subst e2
    exact ⟨x, rfl, r⟩
theorem RL.back {xs : List α} {i : Nat} {x : α} (rs : RL K F vs xs) (e : xs[i]? = some x) : ∃ v, vs[i]? = some v ∧ R K F v x :=
  RpA.back rs (by rw [List.getElem?_map, e]; rfl)
theorem RL.at {xs : List α} {i : Int} {x : α} (rs : RL K F vs xs) (e : atI xs i = some x) : ∃ v, atI vs i = some v ∧ R K F v x := by
  unfold atI at e ⊢
  rw [rs.len]
  cases h : ixN xs.length i with
  | none => rw [h] at e; cases e
  | some j =>
    rw [h] at e
    exact rs.back e
theorem RL.cut {xs : List α} (lo hi : Option Int) (rs : RL K F vs xs) : RL K F (cutV vs lo hi) ((xs.drop (HT.sIx xs.length 0 lo)).take (HT.sIx xs.length xs.length hi - HT.sIx xs.length 0 lo)) := by
  unfold cutV
  rw [rs.len]
  show RpA K F _ _
  rw [List.map_take, List.map_drop]
  exact RpA.take _ (RpA.drop _ rs)
theorem RL.set {xs : List α} {x : α} (i : Nat) (r : R K F v x) (rs : RL K F vs xs) : RL K F (vs.set i v) (xs.set i x) := by
  show RpA K F _ _
  rw [List.map_set]
  exact RpA.set i r rs
theorem RL.rev {xs : List α} (rs : RL K F vs xs) : RL K F vs.reverse xs.reverse := by
  show RpA K F _ _
  rw [List.map_reverse]
  exact RpA.reverse rs
theorem RL.init {xs : List α} (rs : RL K F vs xs) : RL K F vs.dropLast xs.dropLast := by
  show RpA K F _ _
  rw [List.map_dropLast]
  exact RpA.dropLast rs
theorem RL.ints {xs : List Int} (rs : RL K F vs xs) : vs = xs.map V.int := by
  induction xs generalizing vs with
  | nil => cases rs; rfl
  | cons x xs ih => cases rs with | cons r t => rw [R.int_v r, ih t]; rfl
theorem RL.ofInts (xs : List Int) : RL K F (xs.map V.int) xs := by
  induction xs with
  | nil => exact .nil
  | cons x xs ih => exact .cons (.int x) ih
theorem RL.bls {xs : List Bool} (rs : RL K F vs xs) : vs = xs.map V.bl := by
  induction xs generalizing vs with
  | nil => cases rs; rfl
  | cons x xs ih => cases rs with | cons r t => rw [R.bl_v r, ih t]; rfl
theorem RL.strs {xs : List Str} (rs : RL K F vs xs) : vs = xs.map V.str ∧ ∀ x ∈ xs, GS x := by
  induction xs generalizing vs with
  | nil => cases rs; exact ⟨rfl, fun _ h => nomatch h⟩
  | cons x xs ih =>
    cases rs with
    | cons r t =>
      obtain ⟨e, g⟩ := R.str_v r
      obtain ⟨e2, g2⟩ := ih t
      refine ⟨by rw [e, e2]; rfl, fun y hy => ?_⟩
      rcases List.mem_cons.mp hy with rfl | hy
      · exact g
      · exact g2 y hy
theorem RL.ofStrs (xs : List Str) (h : ∀ x ∈ xs, GS x) : RL K F (xs.map V.str) xs := by
  induction xs with
  | nil => exact .nil
  | cons x xs ih => exact .cons (.str x (h x (List.mem_cons_self ..))) (ih fun y hy => h y (List.mem_cons_of_mem _ hy))
end
end

/-! ### how deep a type's data go -/
class Dep (α : Type) [Enc α] where
  n : Nat
  le : ∀ x : α, (Enc.d x).depth ≤ n
instance : Dep Int := ⟨0, fun _ => Nat.le_refl _⟩
instance : Dep Bool := ⟨0, fun _ => Nat.le_refl _⟩
instance : Dep Str := ⟨0, fun _ => Nat.le_refl _⟩
instance {α : Type} [Enc α] [Dep α] : Dep (Option α) := ⟨Dep.n α, fun o => by
  cases o with
  | none => exact Nat.zero_le _
  | some x => exact Dep.le x⟩
theorem depthAll_le {α : Type} [Enc α] [Dep α] : ∀ xs : List α, PyData.depthAll (xs.map Enc.d) ≤ Dep.n α
  | [] => Nat.zero_le _
  | x :: xs => Nat.max_le.mpr ⟨Dep.le x, depthAll_le xs⟩
instance {α : Type} [Enc α] [Dep α] : Dep (List α) := ⟨Dep.n α + 1, fun xs => Nat.succ_le_succ (depthAll_le xs)⟩
instance {α : Type} [Enc α] [Dep α] : Dep (VT α) := ⟨Dep.n α + 1, fun xs => Nat.succ_le_succ (depthAll_le xs.l)⟩
instance {α β : Type} [Enc α] [Enc β] [Dep α] [Dep β] : Dep (α × β) := ⟨max (Dep.n α) (Dep.n β) + 1, fun p => by
  have h1 := Dep.le p.1
  have h2 := Dep.le p.2
  show PyData.depthAll [Enc.d p.1, Enc.d p.2] + 1 ≤ _
  simp only [PyData.depthAll]
  omega⟩
instance {α β γ : Type} [Enc α] [Enc β] [Enc γ] [Dep α] [Dep β] [Dep γ] : Dep (T3 α β γ) := ⟨max (Dep.n α) (max (Dep.n β) (Dep.n γ)) + 1, fun p => by
  have h1 := Dep.le p.a
  have h2 := Dep.le p.b
  have h3 := Dep.le p.c
  show PyData.depthAll [Enc.d p.a, Enc.d p.b, Enc.d p.c] + 1 ≤ _
  simp only [PyData.depthAll]
  omega⟩
instance {α β γ δ : Type} [Enc α] [Enc β] [Enc γ] [Enc δ] [Dep α] [Dep β] [Dep γ] [Dep δ] : Dep (T4 α β γ δ) := ⟨max (Dep.n α) (max (Dep.n β) (max (Dep.n γ) (Dep.n δ))) + 1, fun p => by
  have h1 := Dep.le p.a
  have h2 := Dep.le p.b
  have h3 := Dep.le p.c
  have h4 := Dep.le p.e
  show PyData.depthAll [Enc.d p.a, Enc.d p.b, Enc.d p.c, Enc.d p.e] + 1 ≤ _
  simp only [PyData.depthAll]
  omega⟩
instance {α β γ δ ε : Type} [Enc α] [Enc β] [Enc γ] [Enc δ] [Enc ε] [Dep α] [Dep β] [Dep γ] [Dep δ] [Dep ε] : Dep (T5 α β γ δ ε) := ⟨max (Dep.n α) (max (Dep.n β) (max (Dep.n γ) (max (Dep.n δ) (Dep.n ε)))) + 1, fun p => by
  have h1 := Dep.le p.a
  have h2 := Dep.le p.b
  have h3 := Dep.le p.c
  have h4 := Dep.le p.e
  have h5 := Dep.le p.f
  show PyData.depthAll [Enc.d p.a, Enc.d p.b, Enc.d p.c, Enc.d p.e, Enc.d p.f] + 1 ≤ _
  simp only [PyData.depthAll]
  omega⟩
theorem R.shaped {α : Type} [Enc α] [Dep α] {K : PySem.W.Frag} {F : Hp} {v : V} {x : α} (r : R K F v x) (h : Dep.n α ≤ 64 := by decide) : SeqAt.shaped (Enc.d x) = true :=
  Bool.and_eq_true_iff.mpr ⟨Rp.lay _ _ r, decide_eq_true (Nat.le_trans (Dep.le x) h)⟩
/-- equal, as Python compares -/
def eqD {α : Type} [Enc α] (x y : α) : Bool := PyData.eqv (Enc.d x) (Enc.d y)

/-! ### growth: F is what stays as it is, H all that stands; M may be changed -/
structure Gr (M : Addr → Prop) (F0 H0 F H : Hp) : Prop where
  fh : Same F H
  ff : Same F0 F
  keep : ∀ a o, ¬ M a → H0 a = some o → H a = some o
  there : ∀ a, H0 a ≠ none → H a ≠ none
  new : ∀ a, H0 a ≠ none → F0 a = none → F a = none ∨ ∃ ts, H a = some (.tup ts)
abbrev M0 : Addr → Prop := fun _ => False
section
variable {M : Addr → Prop} {F0 H0 F H F' H' : Hp} {p a : Addr} {o : HO} {K : PySem.W.Frag} {xs : List V}
theorem Gr.refl (h : Same F H) : Gr M F H F H := ⟨h, Same.refl _, fun _ _ _ e => e, fun _ e => e, fun _ _ e => .inl e⟩
theorem Gr.trans (g : Gr M F0 H0 F H) (k : Gr M F H F' H') : Gr M F0 H0 F' H' :=
  ⟨k.fh, g.ff.trans k.ff, fun a o n e => k.keep a o n (g.keep a o n e), fun a e => k.there a (g.there a e), fun a e n => by
    cases q : F a with
    | none => exact k.new a (g.there a e) q
    | some o =>
      rcases g.new a e n with z | ⟨ts, z⟩
      · rw [z] at q; cases q
      · have := g.fh a o q
        rw [z] at this; cases this
        exact .inr ⟨ts, k.fh _ _ (k.ff _ _ q)⟩⟩
theorem Gr.of0 (g : Gr M0 F H F' H') : Gr M F H F' H' := ⟨g.fh, g.ff, fun a o _ e => g.keep a o id e, g.there, g.new⟩
theorem Gr.none0 (g : Gr M F0 H0 F H) (h : H a = none) : H0 a = none := by
  cases e : H0 a with
  | none => rfl
  | some o => exact absurd h (g.there a (by rw [e]; simp))
theorem Gr.noneF (g : Gr M F0 H0 F H) (h : H a = none) : F a = none := by
  cases e : F a with
  | none => rfl
  | some o => rw [g.fh a o e] at h; cases h
theorem same_new (h : F p = none) : Same F (upd F p o) := fun b u e => by rw [upd_ne (ne_of_none e h)]; exact e
theorem same_upd2 (h : Same F H) (hp : F p = none) : Same (upd F p o) (upd H p o) := fun b u e => by
  by_cases hb : b = p
  · subst hb; rw [upd_same] at e ⊢; exact e
  · rw [upd_ne hb] at e ⊢; exact h b u e
theorem same_out (h : Same F H) (hp : F p = none) : Same F (upd H p o) := fun b u e => by
  rw [upd_ne (ne_of_none e hp)]
  exact h b u e
/-- a new thing that stays as it is -/
theorem Gr.frz (g : Gr M F0 H0 F H) (h : H p = none) : Gr M F0 H0 (upd F p o) (upd H p o) :=
  ⟨same_upd2 g.fh (g.noneF h), g.ff.trans (same_new (g.noneF h)), fun a u n e => by rw [upd_ne (ne_of_none (g.keep a u n e) h)]; exact g.keep a u n e,
    fun a e => by
      by_cases ha : a = p
      · subst ha; rw [upd_same]; simp
      · rw [upd_ne ha]; exact g.there a e,
    fun a e n => by
      have ha : a ≠ p := fun z => by subst z; exact e (g.none0 h)
      rw [upd_ne ha, upd_ne ha]; exact g.new a e n⟩
/-- a new thing that may be changed -/
theorem Gr.own (g : Gr M F0 H0 F H) (h : H p = none) : Gr M F0 H0 F (upd H p o) :=
  ⟨same_out g.fh (g.noneF h), g.ff, fun a u n e => by rw [upd_ne (ne_of_none (g.keep a u n e) h)]; exact g.keep a u n e,
    fun a e => by
      by_cases ha : a = p
      · subst ha; rw [upd_same]; simp
      · rw [upd_ne ha]; exact g.there a e, fun a e n => by
      have ha : a ≠ p := fun z => by subst z; exact e (g.none0 h)
      rw [upd_ne ha]; exact g.new a e n⟩
/-- a thing of ours is changed -/
theorem Gr.mut (g : Gr M F0 H0 F H) (n : F p = none) (n0 : H0 p = none ∨ M p) : Gr M F0 H0 F (upd H p o) :=
  ⟨same_out g.fh n, g.ff, fun a u m e => by
      have ha : a ≠ p := fun z => by
        subst z
        rcases n0 with z | z
        · rw [z] at e; cases e
        · exact m z
      rw [upd_ne ha]; exact g.keep a u m e,
    fun a e => by
      by_cases ha : a = p
      · subst ha; rw [upd_same]; simp
      · rw [upd_ne ha]; exact g.there a e, fun a e z => by
      by_cases ha : a = p
      · subst ha; exact .inl n
      · rw [upd_ne ha]; exact g.new a e z⟩
/-- a thing of ours stays as it is from now on -/
theorem Gr.freeze (g : Gr M F0 H0 F H) (h : H p = some o) (n0 : H0 p = none) : Gr M F0 H0 (upd F p o) H :=
  ⟨fun b u e => by
      by_cases hb : b = p
      · subst hb; rw [upd_same] at e; cases e; exact h
      · rw [upd_ne hb] at e; exact g.fh b u e,
    fun b u e => by
      by_cases hb : b = p
      · subst hb
        have := g.fh b u (g.ff b u e)
        rw [h] at this; cases this
        exact upd_same
      · rw [upd_ne hb]; exact g.ff b u e, g.keep, g.there,
    fun a e n => by
      have ha : a ≠ p := fun z => by subst z; exact e n0
      rw [upd_ne ha]; exact g.new a e n⟩
/-- a tuple that stands, taken among what stays -/
theorem Gr.adopt (g : Gr M F0 H0 F H) {ts : List V} (h : H p = some (.tup ts)) : Gr M F0 H0 (upd F p (.tup ts)) H :=
  ⟨fun b u e => by
      by_cases hb : b = p
      · subst hb; rw [upd_same] at e; cases e; exact h
      · rw [upd_ne hb] at e; exact g.fh b u e,
    fun b u e => by
      by_cases hb : b = p
      · subst hb
        have := g.fh b u (g.ff b u e)
        rw [h] at this; cases this
        exact upd_same
      · rw [upd_ne hb]; exact g.ff b u e, g.keep, g.there,
    fun a e n => by
      by_cases ha : a = p
      · subst ha; exact .inr ⟨ts, h⟩
      · rw [upd_ne ha]; exact g.new a e n⟩
theorem Gr.same_adopt (g : Gr M F0 H0 F H) {ts : List V} (h : H p = some (.tup ts)) : Same F (upd F p (.tup ts)) := fun b u e => by
  by_cases hb : b = p
  · subst hb
    have := g.fh b u e
    rw [h] at this; cases this
    exact upd_same
  · rw [upd_ne hb]; exact e
theorem Gr.newL (g : Gr M F0 H0 F H) (h : H0 a ≠ none) (n : F0 a = none) (ht : ∀ ts, H a ≠ some (.tup ts)) : F a = none := by
  rcases g.new a h n with z | ⟨ts, z⟩
  · exact z
  · exact absurd z (ht ts)
theorem Gr.seq (g : Gr M F0 H0 F H) (m : ¬ M a) (h : SqL K H0 a xs) : SqL K H a xs := by
  rcases h with (h | ⟨o, h⟩) | h
  · exact .inl (.inl (g.keep _ _ m h))
  · exact .inl (.inr ⟨o, g.keep _ _ m h⟩)
  · exact .inr h
theorem same_frz (h : H p = some o) (n : F p = none) : Same F (upd F p o) := same_new n
end

/-! ### the makings, step by step -/
def bind2 {α β γ : Type} (o : Option (α × β)) (f : α → β → Option γ) : Option γ := o.bind fun p => f p.1 p.2
def bind3 {α β γ δ : Type} (o : Option (α × β × γ)) (f : α → β → γ → Option δ) : Option δ := o.bind fun p => f p.1 p.2.1 p.2.2
def bind4 {α β γ δ ε : Type} (o : Option (α × β × γ × δ)) (f : α → β → γ → δ → Option ε) : Option ε := o.bind fun p => f p.1 p.2.1 p.2.2.1 p.2.2.2
def bind5 {α β γ δ ε ζ : Type} (o : Option (α × β × γ × δ × ε)) (f : α → β → γ → δ → ε → Option ζ) : Option ζ := o.bind fun p => f p.1 p.2.1 p.2.2.1 p.2.2.2.1 p.2.2.2.2
theorem bnd {α β : Type} {o : Option α} {f : α → Option β} {r : β} (h : Option.bind o f = some r) : ∃ x, o = some x ∧ f x = some r := Option.bind_eq_some_iff.mp h
theorem bnd2 {α β γ : Type} {o : Option (α × β)} {f : α → β → Option γ} {r : γ} (h : bind2 o f = some r) : ∃ x y, o = some (x, y) ∧ f x y = some r :=
  let ⟨p, e, k⟩ := Option.bind_eq_some_iff.mp h
  ⟨p.1, p.2, e, k⟩
theorem bnd3 {α β γ δ : Type} {o : Option (α × β × γ)} {f : α → β → γ → Option δ} {r : δ} (h : bind3 o f = some r) : ∃ x y z, o = some (x, y, z) ∧ f x y z = some r :=
  let ⟨p, e, k⟩ := Option.bind_eq_some_iff.mp h
  ⟨p.1, p.2.1, p.2.2, e, k⟩
theorem bnd4 {α β γ δ ε : Type} {o : Option (α × β × γ × δ)} {f : α → β → γ → δ → Option ε} {r : ε} (h : bind4 o f = some r) : ∃ x y z u, o = some (x, y, z, u) ∧ f x y z u = some r :=
  let ⟨p, e, k⟩ := Option.bind_eq_some_iff.mp h
  ⟨p.1, p.2.1, p.2.2.1, p.2.2.2, e, k⟩
theorem bnd5 {α β γ δ ε ζ : Type} {o : Option (α × β × γ × δ × ε)} {f : α → β → γ → δ → ε → Option ζ} {r : ζ} (h : bind5 o f = some r) : ∃ x y z u t, o = some (x, y, z, u, t) ∧ f x y z u t = some r :=
  let ⟨p, e, k⟩ := Option.bind_eq_some_iff.mp h
  ⟨p.1, p.2.1, p.2.2.1, p.2.2.2.1, p.2.2.2.2, e, k⟩
/-- a loop's end: gone on, or handed back -/
inductive Lp (S R : Type) where
  | go (s : S)
  | ret (r : R)
def bindL {S R T : Type} (o : Option (Lp S R)) (f : S → Option T) (g : R → Option T) : Option T := o.bind fun l => match l with
  | .go s => f s
  | .ret r => g r
theorem ifT {α : Type} {c : Bool} {a b : α} {r : α} (h : c = true) (e : (if c = true then a else b) = r) : a = r := by rw [if_pos h] at e; exact e
theorem ifF {α : Type} {c : Bool} {a b : α} {r : α} (h : c = false) (e : (if c = true then a else b) = r) : b = r := by rw [if_neg (by rw [h]; decide)] at e; exact e
theorem iteB {c : Bool} {A B : Prop} (h1 : c = true → A) (h2 : c = false → B) : if c = true then A else B := by
  cases c with
  | true => exact h1 rfl
  | false => exact h2 rfl
theorem drop_at {α : Type} {xs : List α} {i : Nat} {x : α} (h : xs[i]? = some x) : xs.drop i = x :: xs.drop (i + 1) := by
  obtain ⟨h1, h2⟩ := List.getElem?_eq_some_iff.mp h
  rw [List.drop_eq_getElem_cons h1, h2]
theorem drop_end {α : Type} {xs : List α} {n : Nat} (h : n = xs.length) : xs.drop n = [] := by subst h; exact List.drop_length
end G
/-! My base, part 2: operations of the makings, and their rules. -/
namespace G
open PySem PySem.Spec PyProof.Rows L2 TL

/-! ### ints, truths -/
def eqI (a b : Int) : Bool := decide (V.int a = V.int b)
def neI (a b : Int) : Bool := !decide (V.int a = V.int b)
def eqB (a b : Bool) : Bool := decide (V.bl a = V.bl b)
def neB (a b : Bool) : Bool := !decide (V.bl a = V.bl b)
def eqS (a b : Str) : Bool := decide (V.str a = V.str b)
def neS (a b : Str) : Bool := !decide (V.str a = V.str b)
theorem eqI_iff {a b : Int} : eqI a b = decide (a = b) := by unfold eqI; simp
theorem neI_iff {a b : Int} : neI a b = !decide (a = b) := by unfold neI; simp
theorem eqB_iff {a b : Bool} : eqB a b = decide (a = b) := by unfold eqB; simp
theorem neB_iff {a b : Bool} : neB a b = !decide (a = b) := by unfold neB; simp
theorem eqS_iff {a b : Str} : eqS a b = decide (a = b) := by unfold eqS; simp
theorem neS_iff {a b : Str} : neS a b = !decide (a = b) := by unfold neS; simp
def toI (b : Bool) : Int := if b then 1 else 0
def mulI (a b : Int) : Option Int := if a.natAbs.log2 + b.natAbs.log2 < 1000000 then some (a * b) else none
def divI (a b : Int) : Option Int := if 0 < b ∧ b.natAbs.log2 < 9000 then some (a / b) else none
def modI (a b : Int) : Option Int := if 0 < b then some (a % b) else none
def shlI (a b : Int) : Option Int := if 0 ≤ b ∧ b ≤ 1000000 ∧ a.natAbs < 2 ^ 64 then some (a * 2 ^ b.toNat) else none
def shrI (a b : Int) : Option Int := if 0 ≤ b then some (a / 2 ^ b.toNat) else none
theorem mulI_ok {a b r : Int} (h : mulI a b = some r) : CMulW a b ∧ a * b = r := by
  unfold mulI at h
  split at h
  · exact ⟨by assumption, Option.some.inj h⟩
  · cases h
theorem divI_ok {a b r : Int} (h : divI a b = some r) : CDivW a b ∧ a / b = r := by
  unfold divI at h
  split at h
  · exact ⟨by assumption, Option.some.inj h⟩
  · cases h
theorem modI_ok {a b r : Int} (h : modI a b = some r) : 0 < b ∧ a % b = r := by
  unfold modI at h
  split at h
  · exact ⟨by assumption, Option.some.inj h⟩
  · cases h
theorem shlI_ok {a b r : Int} (h : shlI a b = some r) : CPow a b ∧ a * 2 ^ b.toNat = r := by
  unfold shlI at h
  split at h
  · exact ⟨by assumption, Option.some.inj h⟩
  · cases h
theorem shrI_ok {a b r : Int} (h : shrI a b = some r) : 0 ≤ b ∧ a / 2 ^ b.toNat = r := by
  unfold shrI at h
  split at h
  · exact ⟨by assumption, Option.some.inj h⟩
  · cases h
theorem maxI_eq {i j : Int} : (if j > i then j else i) = max i j := by omega
theorem minI_eq {i j : Int} : (if j < i then j else i) = min i j := by omega

/-! ### texts -/
def sgn (c : Nat) : Str := ⟨#[c]⟩
theorem GS.of {x : Str} (h1 : (tl x).length ≤ sizeLine) (h2 : ∀ c ∈ tl x, c < 0x110000) : GS x := by
  refine ⟨by rw [len_tl]; exact h1, ?_⟩
  show x.cps.all (fun c => decide (c < 0x110000)) = true
  rw [Array.all_eq_true']
  intro c hc
  exact decide_eq_true (h2 c (by simpa [tl] using hc))
theorem GS.mem {x : Str} (g : GS x) : ∀ c ∈ tl x, c < 0x110000 := by
  intro c hc
  have h : x.cps.all (fun c => decide (c < 0x110000)) = true := g.ok
  rw [Array.all_eq_true'] at h
  exact of_decide_eq_true (h c (by simpa [tl] using hc))
theorem GS.tll {x : Str} (g : GS x) : (tl x).length ≤ sizeLine := by rw [← len_tl]; exact g.len
theorem GS.sg {x : Str} {c : Nat} (g : GS x) (h : c ∈ tl x) : GS (sgn c) := GS.of (by show 1 ≤ sizeLine; decide) (fun d hd => by
  have e : d = c := by simpa [tl, sgn] using hd
  rw [e]
  exact g.mem c h)
theorem GS.cut {x : Str} (g : GS x) (lo hi : Option Int) : GS (cutS x lo hi) := GS.of (by
    rw [← len_tl]
    exact Nat.le_trans (cutS_length x lo hi) g.len)
  fun c hc => g.mem c (List.mem_of_mem_drop (List.mem_of_mem_take (show c ∈ ((tl x).drop _).take _ from hc)))
def catS (a b : Str) : Option Str := if a.length + b.length ≤ sizeLine then some (a ++ b) else none
theorem catS_ok {a b r : Str} (h : catS a b = some r) : a.length + b.length ≤ sizeLine ∧ a ++ b = r := by
  unfold catS at h
  split at h
  · exact ⟨by assumption, Option.some.inj h⟩
  · cases h
theorem GS.cat {a b r : Str} (ga : GS a) (gb : GS b) (h : catS a b = some r) : GS r := by
  obtain ⟨h1, rfl⟩ := catS_ok h
  refine GS.of ?_ fun c hc => ?_
  · rw [tl_append, List.length_append, ← len_tl, ← len_tl]
    exact h1
  · rw [tl_append] at hc
    rcases List.mem_append.mp hc with k | k
    · exact ga.mem c k
    · exact gb.mem c k
/-- the sign at a place -/
def codeAt (x : Str) (i : Int) : Option Nat := atI (tl x) i
theorem codeAt_mem {x : Str} {i : Int} {c : Nat} (h : codeAt x i = some c) : c ∈ tl x := by
  unfold codeAt atI at h
  cases e : ixN (tl x).length i with
  | none => rw [e] at h; cases h
  | some j => rw [e] at h; exact List.mem_of_getElem? h
def mulS (x : Str) (n : Int) : Option Str := if -(2 ^ 63 : Int) ≤ n ∧ n ≤ 16777216 ∧ x.length * n.toNat ≤ 16777216 then some (Txt.mul x n) else none
theorem mulS_ok {x r : Str} {n : Int} (h : mulS x n = some r) : MulOk x n ∧ Txt.mul x n = r := by
  unfold mulS at h
  split at h
  · rename_i q
    exact ⟨mulOk_of x.length n.toNat (Nat.le_refl _) (by omega) q.1 (by omega) q.2.2, Option.some.inj h⟩
  · cases h
theorem foldl_app (cs : Array Nat) : ∀ (k : Nat) (acc : Array Nat), ((List.replicate k cs).foldl (· ++ ·) acc).toList = acc.toList ++ (List.replicate k cs.toList).flatten
  | 0, acc => by simp
  | k + 1, acc => by
    rw [List.replicate_succ, List.foldl_cons, foldl_app cs k, List.replicate_succ, List.flatten_cons, Array.toList_append, List.append_assoc]
theorem tl_mul (x : Str) (n : Int) : tl (Txt.mul x n) = (List.replicate n.toNat (tl x)).flatten := by
  unfold Txt.mul
  split
  · have e : n.toNat = 0 := by omega
    rw [e]
    rfl
  · split
    · rename_i h1 h2
      rcases Bool.or_eq_true_iff.mp h2 with h | h
      · have e : n = 1 := eq_of_beq h
        subst e
        show tl x = [tl x].flatten
        simp
      · have e : x.length = 0 := eq_of_beq h
        have e2 : tl x = [] := List.eq_nil_of_length_eq_zero (by rw [← len_tl]; exact e)
        rw [e2]
        simp
    · show ((List.replicate n.toNat x.cps).foldl (· ++ ·) #[]).toList = _
      rw [foldl_app]
      rfl
theorem GS.mul {x r : Str} {n : Int} (g : GS x) (h : mulS x n = some r) : GS r := by
  have h0 := h
  unfold mulS at h0
  split at h0
  · rename_i q
    obtain ⟨_, rfl⟩ := mulS_ok h
    refine GS.of ?_ fun c hc => ?_
    · rw [tl_mul, List.length_flatten, List.map_replicate, List.sum_replicate_nat, ← len_tl, sizeLine_eq, Nat.mul_comm]
      exact q.2.2
    · rw [tl_mul] at hc
      obtain ⟨l, hl, hc⟩ := List.mem_flatten.mp hc
      rw [(List.mem_replicate.mp hl).2] at hc
      exact g.mem c hc
  · cases h0
def joinS (sep : Str) (ys : List Str) : Option Str := if (ys.map (·.length)).sum + ys.length * sep.length ≤ 16777216 then some (Txt.join sep ys) else none
theorem joinS_ok {sep r : Str} {ys : List Str} (h : joinS sep ys = some r) : (ys.map (·.length)).sum + ys.length * sep.length ≤ 16777216 ∧ Txt.join sep ys = r := by
  unfold joinS at h
  split at h
  · exact ⟨by assumption, Option.some.inj h⟩
  · cases h
theorem tl_joinS (sep : Str) (ys : List Str) : tl (Txt.join sep ys) = joinL (tl sep) (ys.map tl) := by
  have e : Txt.join sep ys = Str.join sep ys := by
    unfold Txt.join; exact StrLaws.glued_eq_join sep ys
  rw [e, tl_join]
end G
/-! My base, part 3: rules. -/
namespace G
open PySem PySem.Spec PyProof.Rows L2 TL

section
variable {X : Cx}
theorem CallR.imp {f : Value} {r r' : List V → Hp → VK → Prop} (h : CallR X f r) (k : ∀ xs H Q, r' xs H Q → r xs H Q) : CallR X f r' :=
  fun pins s σ H xs us Q I rx q => h pins s σ H xs us Q I rx (k _ _ _ q)
theorem OpR.imp {f : Value → Value → Sem Value} {r r' : R2} (h : OpR X f r) (k : ∀ x y H Q, r' x y H Q → r x y H Q) : OpR X f r' :=
  fun pins s σ H x y v u Q I rx ry q => h pins s σ H x y v u Q I rx ry (k _ _ _ _ q)
/-- int(a truth) -/
theorem call_toI : CallR X (.type "int") (fun xs H Q => ∃ k, xs = [.bl k] ∧ Q (.int (toI k)) H) := CallR.imp call_int1 fun xs H Q ⟨k, e, q⟩ => .inr ⟨k, e, q⟩
/-- len(a list or tuple), told -/
theorem call_lenL : CallR X (.builtin "len") (fun xs H Q => ∃ p ys n, xs = [.ref p] ∧ (SqL X.K H p ys ∨ SqT X.K H p ys) ∧ ys.length = n ∧ Q (.int (n : Nat)) H) :=
  CallR.imp call_len_seq fun xs H Q ⟨p, ys, n, e, h, e2, q⟩ => ⟨p, ys, e, h, by rw [e2]; exact q⟩
/-- is None, told -/
theorem op_isO : OpR X (compareOp .Is) (fun x y H Q => ∃ b, y = .non ∧ decide (x = .non) = b ∧ Q (.bl b) H) := OpR.imp op_isN fun x y H Q ⟨b, e, e2, q⟩ => ⟨e, by rw [e2]; exact q⟩
theorem op_notO : OpR X (compareOp .IsNot) (fun x y H Q => ∃ b, y = .non ∧ decide (x = .non) = b ∧ Q (.bl (!b)) H) := OpR.imp op_notN fun x y H Q ⟨b, e, e2, q⟩ => ⟨e, by rw [e2]; exact q⟩
theorem op_mulS : OpR X (binaryOp .Mult) (fun x y H Q => ∃ z n, x = .str z ∧ y = .int n ∧ MulOk z n ∧ Q (.str (Txt.mul z n)) H) := by
  intro pins s σ H x y v u Q I rx ry h
  obtain ⟨z, n, rfl, rfl, ok, q⟩ := h
  obtain ⟨t, rfl⟩ := rx
  obtain ⟨t', rfl⟩ := ry
  exact SB.mul ok fun t' k => ⟨.str _, H, I.tok k, ⟨t', rfl⟩, q⟩
/-- xs + ys, lists that are read -/
def rCatL (K : PySem.W.Frag) : R2 := fun x y H Q => ∃ l b xs zs, x = .ref l ∧ y = .ref b ∧ SqL K H l xs ∧ SqL K H b zs ∧ xs.length + zs.length ≤ sizeLine ∧ ∀ p, H p = none → Q (.ref p) (upd H p (.lst (xs ++ zs)))
theorem op_catL : OpR X (binaryOp .Add) (rCatL X.K) := by
  intro pins s σ H x y v u Q I rx ry h
  obtain ⟨l, b, xs, zs, rfl, rfl, hH, hB, hz, q⟩ := h
  cases rx
  cases ry
  obtain ⟨its, r, p1, hl⟩ := I.list hH
  obtain ⟨its2, r2, p2, hl2⟩ := I.list hB
  obtain ⟨⟨cls, dd, data, sl⟩, ho, hc, n, hd⟩ := p1.isList
  obtain ⟨⟨cls2, dd2, data2, sl2⟩, ho2, hc2, n2, hd2⟩ := p2.isList
  simp only at hc hd hc2 hd2
  subst hc hd hc2 hd2
  have ea : its.toArray ++ its2.toArray = (its ++ its2).toArray := by simp
  have e1 := r.length
  have e2 := r2.length
  refine concat_meets ⟨_, ho, rfl⟩ ⟨_, ho2, rfl⟩ noFill_list_add seq_list_add PySem.F.slot_list_add PySem.F.entry_list_add (PySem.F.args_list_add_2 _ _) (PyProof.Rows.list_addW l b its.toArray its2.toArray n n2 dd dd2 sl sl2 (by simp; omega)) ⟨ho, ho2, ?_⟩
  rw [ea]
  exact ⟨.ref _, _, I.lnew (t' := s.toks) (r.append r2) (by rw [List.length_append]; omega), rfl, q _ I.fresh⟩
end

/-! ### parts of an expression, closed: what they come to, whatever follows -/
section
variable {M : Addr → Prop} {F H : Hp} {σ : L2.St} {ta tb tc : TE} {Q : VK} {a c k : Bool}
/-- t comes to the truth c -/
def EvB (M : Addr → Prop) (F H : Hp) (t : VK → Prop) (c : Bool) : Prop := ∀ Q : VK, (∀ F' H', Gr M F H F' H' → Q (.bl c) H') → t Q
def EvT (M : Addr → Prop) (F H : Hp) (t : (Bool → Hp → Prop) → Prop) (c : Bool) : Prop := ∀ Q : Bool → Hp → Prop, (∀ F' H', Gr M F H F' H' → Q c H') → t Q
theorem andV_g (h1 : EvB M F H (fun Q => ta σ H Q) a) (h2 : a = true → ∀ F1 H1, Gr M F H F1 H1 → EvB M F1 H1 (fun Q => tb σ H1 Q) c) (h3 : a = false → c = false)
    (q : ∀ F' H', Gr M F H F' H' → Q (.bl c) H') : tAndV ta tb σ H Q := h1 _ fun F1 H1 g1 => ⟨a, rfl, by
  cases e : a with
  | true => exact iteT (h2 e F1 H1 g1 _ fun F2 H2 g2 => q F2 H2 (g1.trans g2))
  | false =>
    have ec := h3 e
    subst ec
    exact iteF (q F1 H1 g1)⟩
theorem orV_g (h1 : EvB M F H (fun Q => ta σ H Q) a) (h2 : a = false → ∀ F1 H1, Gr M F H F1 H1 → EvB M F1 H1 (fun Q => tb σ H1 Q) c) (h3 : a = true → c = true)
    (q : ∀ F' H', Gr M F H F' H' → Q (.bl c) H') : tOrV ta tb σ H Q := h1 _ fun F1 H1 g1 => ⟨a, rfl, by
  cases e : a with
  | false => exact iteF (h2 e F1 H1 g1 _ fun F2 H2 g2 => q F2 H2 (g1.trans g2))
  | true =>
    have ec := h3 e
    subst ec
    exact iteT (q F1 H1 g1)⟩
theorem andT_g {ta tb : TT} {Q : Bool → Hp → Prop} (h1 : EvT M F H (fun Q => ta σ H Q) a) (h2 : a = true → ∀ F1 H1, Gr M F H F1 H1 → EvT M F1 H1 (fun Q => tb σ H1 Q) c) (h3 : a = false → c = false)
    (q : ∀ F' H', Gr M F H F' H' → Q c H') : tAnd ta tb σ H Q := h1 _ fun F1 H1 g1 => by
  cases e : a with
  | true => exact iteT (h2 e F1 H1 g1 _ fun F2 H2 g2 => q F2 H2 (g1.trans g2))
  | false =>
    have ec := h3 e
    subst ec
    exact iteF (q F1 H1 g1)
theorem orT_g {ta tb : TT} {Q : Bool → Hp → Prop} (h1 : EvT M F H (fun Q => ta σ H Q) a) (h2 : a = false → ∀ F1 H1, Gr M F H F1 H1 → EvT M F1 H1 (fun Q => tb σ H1 Q) c) (h3 : a = true → c = true)
    (q : ∀ F' H', Gr M F H F' H' → Q c H') : tOr ta tb σ H Q := h1 _ fun F1 H1 g1 => by
  cases e : a with
  | false => exact iteF (h2 e F1 H1 g1 _ fun F2 H2 g2 => q F2 H2 (g1.trans g2))
  | true =>
    have ec := h3 e
    subst ec
    exact iteT (q F1 H1 g1)
/-- a < b < c -/
theorem chainV_g {r r' : R2} (h1 : EvB M F H (fun Q => ta σ H fun x H1 => tb σ H1 fun y H2 => r x y H2 Q) a) (h : tChain r r' ta tb tc σ H Q) : tChain r r' ta tb tc σ H Q := h
/-- e if t else e': it comes to what P says -/
theorem ifE_g {tt : TT} {P : V → Hp → Hp → Prop} (h1 : EvT M F H (fun Q => tt σ H Q) a)
    (h2 : a = true → ∀ F1 H1, Gr M F H F1 H1 → ∀ Q : VK, (∀ v F' H', Gr M F1 H1 F' H' → P v F' H' → Q v H') → ta σ H1 Q)
    (h3 : a = false → ∀ F1 H1, Gr M F H F1 H1 → ∀ Q : VK, (∀ v F' H', Gr M F1 H1 F' H' → P v F' H' → Q v H') → tb σ H1 Q)
    (q : ∀ v F' H', Gr M F H F' H' → P v F' H' → Q v H') : tIf tt ta tb σ H Q := h1 _ fun F1 H1 g1 => by
  cases e : a with
  | true => exact iteT (h2 e F1 H1 g1 _ fun v F2 H2 g2 => q v F2 H2 (g1.trans g2))
  | false => exact iteF (h3 e F1 H1 g1 _ fun v F2 H2 g2 => q v F2 H2 (g1.trans g2))
end

/-! ### peeling a statement -/
section
variable {D : Ends} {σ : L2.St} {H : Hp} {t u : TS} {te : TE} {g : TG} {c : TT}
theorem p_seq (h : t { D with nx := u D } σ H) : tSeq t u D σ H := h
theorem p_asg (h : te σ H (fun x H1 => g x σ H1 D.nx)) : tAsg te g D σ H := h
theorem p_ret (h : te σ H D.rt) : tRet te D σ H := h
theorem p_if (h : c σ H (fun b H1 => if b = true then t D σ H1 else u D σ H1)) : tIfS c t u D σ H := h
theorem p_drop (h : te σ H (fun _ H1 => D.nx σ H1)) : tDrop te D σ H := h
/-- a statement, then the rest, with a word between them -/
def tCut (t u : TS) : TS := fun D σ H => ∃ Mid : L2.St → Hp → Prop, t { D with nx := Mid } σ H ∧ ∀ σ' H', Mid σ' H' → u D σ' H'
theorem pss_cut {X : Cx} {st : Stmt} {rest : List Stmt} (h1 : PS X st t) (h2 : PSs X rest u) : PSs X (st :: rest) (tCut t u) := by
  refine ⟨fun pins s σ H D I h => ?_⟩
  obtain ⟨Mid, hm, hu⟩ := h
  refine wpAny_execs_cons (thn (h1.run pins s σ H { D with nx := Mid } I hm) fun f s1 q => ?_)
  cases f with
  | next =>
    obtain ⟨σ', H', I', q⟩ := q
    exact h2.run pins s1 σ' H' D I' (hu σ' H' q)
  | ret v => exact q
  | brk => exact q
  | cont => exact q
end

/-! ### a call by names alone -/
section
variable {X : Cx} {CX : CXT} {k : Nat} {f : Addr} {fd : FuncData} {ps ks : List Str} {sp : Sp} {E : XK} {x : Str} {p pos : Pos} {kws : List Keyword} {tk : TA} {g : List Value → List Value → List Value} {gV : List V → List V → List V}
theorem pe_callK0 (F : FnOk X.prog X.w X.K X.mg X.base CX k f fd ps sp) (hr : Room k X.A) (hg : Gl X x) (hm : X.mg x = some (.ref f)) (hk : PySem.W.keepIn X.K (.ref f) = true) (hb : KBinds X.K fd ps ks g gV) (hx : Passes CX X E)
    (hkw : PK X kws tk) (hall : (backToKw pos (keywordEach kws X.env)).all (·.1.isSome) = true := by rfl) (hks : (backToKw pos (keywordEach kws X.env)).filterMap (·.1) = ks := by rfl)
    (hdb : (x == ("__debug__" : Str)) = false := by decide)
    (hpl : ((backTo pos (starEach [] X.env)).any (·.1) || (backToKw pos (keywordEach kws X.env)).any (·.1.isNone)) = false := by rfl) :
    PE X (.Call (.Name x p) [] kws pos) (tCallK sp gV E tNil tk) := by
  refine ⟨fun pins s σ H Q I h => ?_⟩
  refine wpAny_Call_Name_kw (ld_glob I hg hm ?_ hdb)
  refine PySem.W.callWith_KW0 (h₀ := X.base) I.ok.mod.kin hk hall ?_ hpl
  refine thn (hkw.run pos pins s σ H _ I h) fun ws s2 ⟨zs, H2, I2, rz, q2⟩ => ⟨I2.kIn, ?_⟩
  rw [hks]
  exact run_fnk F hr hb hx I2 .nil rz q2
end

/-! ### texts kept in a written table -/
def dgetS (kvs : List (Str × Str)) (k d : Str) : Str := ((kvs.find? fun kv => decide (kv.1 = k)).map (·.2)).getD d
def kvS (kvs : List (Str × Str)) : List (Key × V) := kvs.map fun kv => (Sum.inr kv.1, V.str kv.2)
theorem valS (k : Str) : ∀ kvs : List (Str × Str), valV (kvS kvs) (Sum.inr k) = ((kvs.find? fun kv => decide (kv.1 = k)).map (·.2)).map V.str
  | [] => rfl
  | kv :: r => by
    unfold valV kvS
    rw [List.map_cons, List.find?_cons, List.find?_cons]
    by_cases h : kv.1 = k
    · have h' : (Sum.inr kv.1 : Key) = Sum.inr k := by rw [h]
      simp only [decide_eq_true h, decide_eq_true h', Option.map_some]
    · have h' : ¬ (Sum.inr kv.1 : Key) = Sum.inr k := fun e => h (Sum.inr.inj e)
      simp only [decide_eq_false h, decide_eq_false h']
      exact valS k r
theorem rd_dgets {ty tx : TE} {σ : L2.St} {H : Hp} {Q : VK} {k d : Str} (trs : List (TE × TE)) (kvs : List (Str × Str)) (he : trs = kvs.map fun kv => (tC (.str kv.1), tC (.str kv.2))) (h15 : kvs.length ≤ 15) (hm : mergeK [] (kvS kvs) = kvS kvs)
    (hy : ∀ H1 Q', Q' (.str k) H1 → ty σ H1 Q') (hx : ∀ H1 Q', Q' (.str d) H1 → tx σ H1 Q') (q : ∀ p, H p = none → Q (.str (dgetS kvs k d)) (upd H p (.dK (kvS kvs)))) : tDGet2 (tDisp trs) ty tx σ H Q := by
  intro p hp
  have walk : ∀ (l : List (Str × Str)) (R : List (V × V) → Hp → Prop) (H1 : Hp), R (l.map fun kv => (V.str kv.1, V.str kv.2)) H1 → tPairs (l.map fun kv => (tC (.str kv.1), tC (.str kv.2))) σ H1 R := by
    intro l
    induction l with
    | nil => intro R H1 h; exact h
    | cons kv l ih => intro R H1 h; exact ih (fun ps H3 => R ((V.str kv.1, V.str kv.2) :: ps) H3) H1 h
  rw [he]
  refine walk kvs _ _ ⟨upd_same, kvS kvs, ?_, ?_, ?_⟩
  · unfold kvS
    rw [List.map_map]
    rfl
  · unfold kvS
    rw [List.length_map]
    exact h15
  · rw [hm, upd_upd]
    refine ⟨p, rfl, .inl ⟨_, .inl upd_same⟩, hy _ _ (hx _ _ ⟨_, DGet.k (k := Sum.inr k) upd_same, ?_⟩)⟩
    rw [valS]
    have e : (((kvs.find? fun kv => decide (kv.1 = k)).map (·.2)).map V.str).getD (.str d) = .str (dgetS kvs k d) := by
      unfold dgetS
      cases (kvs.find? fun kv => decide (kv.1 = k)) <;> rfl
    rw [e]
    exact q p hp
theorem GS.dg {kvs : List (Str × Str)} {k d : Str} (h : ∀ kv ∈ kvs, GS kv.2) (hd : GS d) : GS (dgetS kvs k d) := by
  unfold dgetS
  cases e : (kvs.find? fun kv => decide (kv.1 = k)) with
  | none => exact hd
  | some kv => exact h kv (List.mem_of_find?_eq_some e)
end G
/-! My base, part 4: lists of one's own, the bag. -/
namespace G
open PySem PySem.Spec PyProof.Rows L2 TL

/-- a list of one's own at p: made behind the entry (H0), not among what stays (F) -/
structure Ow (H0 F H : Hp) (p : Addr) (ws : List V) : Prop where
  h : H p = some (.lst ws)
  nF : F p = none
  n0 : H0 p = none
section
variable {M : Addr → Prop} {F0 H0 F H F' H' : Hp} {p q : Addr} {o : HO} {K : PySem.W.Frag} {xs ws us : List V}
theorem Ow.new (g : Gr M F0 H0 F H) (hp : H p = none) : Ow H0 F (upd H p (.lst ws)) p ws := ⟨upd_same, g.noneF hp, g.none0 hp⟩
theorem Ow.frz (w : Ow H0 F H p ws) (hq : H q = none) : Ow H0 (upd F q o) (upd H q o) p ws :=
  have ne := ne_of_none w.h hq
  ⟨(upd_ne ne).trans w.h, (upd_ne ne).trans w.nF, w.n0⟩
theorem Ow.own (w : Ow H0 F H p ws) (hq : H q = none) : Ow H0 F (upd H q o) p ws :=
  have ne := ne_of_none w.h hq
  ⟨(upd_ne ne).trans w.h, w.nF, w.n0⟩
theorem Ow.put (w : Ow H0 F H p ws) : Ow H0 F (upd H p (.lst us)) p us := ⟨upd_same, w.nF, w.n0⟩
theorem Ow.other (w : Ow H0 F H p ws) (ne : p ≠ q) : Ow H0 F (upd H q o) p ws := ⟨(upd_ne ne).trans w.h, w.nF, w.n0⟩
theorem Ow.ne (w : Ow H0 F H p ws) (hq : H q = none) : p ≠ q := ne_of_none w.h hq
theorem Ow.gr (w : Ow H0 F H p ws) (g : Gr M F H F' H') (m : ¬ M p) : Ow H0 F' H' p ws :=
  ⟨g.keep _ _ m w.h, g.newL (by rw [w.h]; simp) w.nF (fun ts z => by rw [g.keep _ _ m w.h] at z; cases z), w.n0⟩
theorem Ow.gr0 (w : Ow H0 F H p ws) (g : Gr M0 F H F' H') : Ow H0 F' H' p ws := w.gr g id
theorem Ow.fz (w : Ow H0 F H p ws) (ne : p ≠ q) : Ow H0 (upd F q o) H p ws := ⟨w.h, (upd_ne ne).trans w.nF, w.n0⟩
theorem Gr.put (g : Gr M F0 H0 F H) (w : Ow H0 F H p ws) : Gr M F0 H0 F (upd H p o) := g.mut w.nF (.inl w.n0)
theorem Gr.fz (g : Gr M F0 H0 F H) (w : Ow H0 F H p ws) : Gr M F0 H0 (upd F p (.lst ws)) H := g.freeze w.h w.n0
theorem Ow.sq (w : Ow H0 F H p ws) : SqL K H p ws := .inl (.inl w.h)
theorem Ow.sf (w : Ow H0 F H p ws) : Same F (upd F p (.lst ws)) := same_new w.nF
theorem fzS : SqL K (upd F p (.lst ws)) p ws := .inl (.inl upd_same)
theorem fzT : (upd F p (.tup ws)) p = some (.tup ws) := upd_same
end

/-- the bag of a law: its cells, which is next, the seed, how many were stirred -/
structure Bag where
  cells : List Int
  at_ : Nat
  seed : Int
  cnt : Int
structure BagOk (b : Bag) : Prop where
  lo : 0 ≤ b.seed
  hi : b.seed < 2 ^ 31
abbrev Bc (B C : Addr) : Addr → Prop := fun a => a = B ∨ a = C
structure BagAt (F H : Hp) (B C : Addr) (b : Bag) : Prop where
  hB : H B = some (.lst [.ref C, .int (b.at_ : Nat), .int b.seed, .int b.cnt])
  hC : H C = some (.lst (b.cells.map V.int))
  ne : B ≠ C
  fB : F B = none
  fC : F C = none
section
variable {M : Addr → Prop} {F0 H0 F H F' H' : Hp} {p q B C : Addr} {o : HO} {b b' : Bag} {ws : List V}
theorem BagAt.frz (a : BagAt F H B C b) (hq : H q = none) : BagAt (upd F q o) (upd H q o) B C b :=
  have n1 := ne_of_none a.hB hq
  have n2 := ne_of_none a.hC hq
  ⟨(upd_ne n1).trans a.hB, (upd_ne n2).trans a.hC, a.ne, (upd_ne n1).trans a.fB, (upd_ne n2).trans a.fC⟩
theorem BagAt.own (a : BagAt F H B C b) (hq : H q = none) : BagAt F (upd H q o) B C b :=
  have n1 := ne_of_none a.hB hq
  have n2 := ne_of_none a.hC hq
  ⟨(upd_ne n1).trans a.hB, (upd_ne n2).trans a.hC, a.ne, a.fB, a.fC⟩
theorem BagAt.nb (a : BagAt F H B C b) (hq : H q = none) : ¬ Bc B C q := fun z => by
  rcases z with z | z
  · exact ne_of_none a.hB hq z.symm
  · exact ne_of_none a.hC hq z.symm
theorem BagAt.other (a : BagAt F H B C b) (m : ¬ Bc B C q) : BagAt F (upd H q o) B C b :=
  have n1 : B ≠ q := fun z => m (.inl z.symm)
  have n2 : C ≠ q := fun z => m (.inr z.symm)
  ⟨(upd_ne n1).trans a.hB, (upd_ne n2).trans a.hC, a.ne, a.fB, a.fC⟩
theorem BagAt.fz (a : BagAt F H B C b) (m : ¬ Bc B C q) : BagAt (upd F q o) H B C b :=
  have n1 : B ≠ q := fun z => m (.inl z.symm)
  have n2 : C ≠ q := fun z => m (.inr z.symm)
  ⟨a.hB, a.hC, a.ne, (upd_ne n1).trans a.fB, (upd_ne n2).trans a.fC⟩
theorem BagAt.gr0 (a : BagAt F H B C b) (g : Gr M0 F H F' H') : BagAt F' H' B C b :=
  ⟨g.keep _ _ id a.hB, g.keep _ _ id a.hC, a.ne, g.newL (by rw [a.hB]; simp) a.fB (fun ts z => by rw [g.keep _ _ id a.hB] at z; cases z), g.newL (by rw [a.hC]; simp) a.fC (fun ts z => by rw [g.keep _ _ id a.hC] at z; cases z)⟩
/-- a promise over the whole heap as what stays: the caller's own part stays apart -/
theorem Gr.apart (g : Gr M F0 H0 F H) (k : Gr M0 H H F' H') : Gr M F0 H0 F H' :=
  ⟨g.fh.trans fun a o e => k.keep a o id e, g.ff, fun a o m e => k.keep a o id (g.keep a o m e), fun a e => k.there a (g.there a e), fun a e n => (g.new a e n).imp id fun ⟨ts, z⟩ => ⟨ts, k.keep _ _ id z⟩⟩
theorem Ow.apart (w : Ow H0 F H p ws) (k : Gr M0 H H F' H') : Ow H0 F H' p ws := ⟨k.keep _ _ id w.h, w.nF, w.n0⟩
theorem BagAt.apart (a : BagAt F H B C b) (k : Gr M0 H H F' H') : BagAt F H' B C b := ⟨k.keep _ _ id a.hB, k.keep _ _ id a.hC, a.ne, a.fB, a.fC⟩
end
end G
namespace G
open PySem PySem.Spec PyProof.Rows L2 TL
/-! ### loops' ends in the makings -/
def lpK {S R T : Type} (l : Lp S R) (f : S → Option T) (g : R → Option T) : Option T := match l with
  | .go s => f s
  | .ret r => g r
def bindL0 {R T : Type} (o : Option (Lp Unit R)) (f : Option T) (g : R → Option T) : Option T := o.bind fun l => lpK l (fun _ => f) g
def bindL1 {α R T : Type} (o : Option (Lp α R)) (f : α → Option T) (g : R → Option T) : Option T := o.bind fun l => lpK l f g
def bindL2 {α β R T : Type} (o : Option (Lp (α × β) R)) (f : α → β → Option T) (g : R → Option T) : Option T := o.bind fun l => lpK l (fun s => f s.1 s.2) g
def bindL3 {α β γ R T : Type} (o : Option (Lp (α × β × γ) R)) (f : α → β → γ → Option T) (g : R → Option T) : Option T := o.bind fun l => lpK l (fun s => f s.1 s.2.1 s.2.2) g
def bindL4 {α β γ δ R T : Type} (o : Option (Lp (α × β × γ × δ) R)) (f : α → β → γ → δ → Option T) (g : R → Option T) : Option T := o.bind fun l => lpK l (fun s => f s.1 s.2.1 s.2.2.1 s.2.2.2) g
section
variable {α β γ δ R T : Type} {g : R → Option T} {r : R} {t : T}
theorem bndL0 {o : Option (Lp Unit R)} {f : Option T} (h : bindL0 o f g = some t) : ∃ l, o = some l ∧ lpK l (fun _ => f) g = some t := Option.bind_eq_some_iff.mp h
theorem bndL1 {o : Option (Lp α R)} {f : α → Option T} (h : bindL1 o f g = some t) : ∃ l, o = some l ∧ lpK l f g = some t := Option.bind_eq_some_iff.mp h
theorem bndL2 {o : Option (Lp (α × β) R)} {f : α → β → Option T} (h : bindL2 o f g = some t) : ∃ l, o = some l ∧ lpK l (fun s => f s.1 s.2) g = some t := Option.bind_eq_some_iff.mp h
theorem bndL3 {o : Option (Lp (α × β × γ) R)} {f : α → β → γ → Option T} (h : bindL3 o f g = some t) : ∃ l, o = some l ∧ lpK l (fun s => f s.1 s.2.1 s.2.2) g = some t := Option.bind_eq_some_iff.mp h
theorem bndL4 {o : Option (Lp (α × β × γ × δ) R)} {f : α → β → γ → δ → Option T} (h : bindL4 o f g = some t) : ∃ l, o = some l ∧ lpK l (fun s => f s.1 s.2.1 s.2.2.1 s.2.2.2) g = some t := Option.bind_eq_some_iff.mp h
theorem bgo0 {f : Option T} (h : lpK (.go ()) (fun _ => f) g = some t) : f = some t := h
theorem bgo1 {f : α → Option T} {a : α} (h : lpK (.go a) f g = some t) : f a = some t := h
theorem bgo2 {f : α → β → Option T} {a : α} {b : β} (h : lpK (.go (a, b)) (fun s => f s.1 s.2) g = some t) : f a b = some t := h
theorem bgo3 {f : α → β → γ → Option T} {a : α} {b : β} {c : γ} (h : lpK (.go (a, b, c)) (fun s => f s.1 s.2.1 s.2.2) g = some t) : f a b c = some t := h
theorem bgo4 {f : α → β → γ → δ → Option T} {a : α} {b : β} {c : γ} {d : δ} (h : lpK (.go (a, b, c, d)) (fun s => f s.1 s.2.1 s.2.2.1 s.2.2.2) g = some t) : f a b c d = some t := h
theorem bret {S : Type} {f : S → Option T} (h : lpK (.ret r) f g = some t) : g r = some t := h
end
/-- ranges -/
def rangeL (lo : Int) (n : Nat) : List Int := (List.range n).map fun k => lo + (k : Nat)
theorem rangeL_at {lo : Int} {n i : Nat} (h : i < n) : (rangeL lo n)[i]? = some (lo + (i : Nat)) := by
  unfold rangeL
  rw [List.getElem?_map, List.getElem?_range h]
  rfl
theorem rangeL_len (lo : Int) (n : Nat) : (rangeL lo n).length = n := by unfold rangeL; simp
def rangeO (lo hi : Int) : Option (List Int) := if (-(2 ^ 62) ≤ lo ∧ lo < 2 ^ 62 ∧ -(2 ^ 62) ≤ hi ∧ hi < 2 ^ 62) ∧ (hi - lo).toNat ≤ sizeLine then some (rangeL lo (hi - lo).toNat) else none
theorem rangeO_ok {lo hi : Int} {l : List Int} (h : rangeO lo hi = some l) : ((-(2 ^ 62) ≤ lo ∧ lo < 2 ^ 62 ∧ -(2 ^ 62) ≤ hi ∧ hi < 2 ^ 62) ∧ (hi - lo).toNat ≤ sizeLine) ∧ rangeL lo (hi - lo).toNat = l := by
  unfold rangeO at h
  split at h
  · exact ⟨by assumption, Option.some.inj h⟩
  · cases h
def appL {α : Type} (xs : List α) (x : α) : Option (List α) := if xs.length < sizeLine then some (xs ++ [x]) else none
theorem appL_ok {α : Type} {xs r : List α} {x : α} (h : appL xs x = some r) : xs.length < sizeLine ∧ xs ++ [x] = r := by
  unfold appL at h
  split at h
  · exact ⟨by assumption, Option.some.inj h⟩
  · cases h
def conL {α : Type} (xs ys : List α) : Option (List α) := if xs.length + ys.length ≤ sizeLine then some (xs ++ ys) else none
theorem conL_ok {α : Type} {xs ys r : List α} (h : conL xs ys = some r) : xs.length + ys.length ≤ sizeLine ∧ xs ++ ys = r := by
  unfold conL at h
  split at h
  · exact ⟨by assumption, Option.some.inj h⟩
  · cases h
def cutL {α : Type} (xs : List α) (lo hi : Option Int) : List α := (xs.drop (HT.sIx xs.length 0 lo)).take (HT.sIx xs.length xs.length hi - HT.sIx xs.length 0 lo)
theorem str_at {x : Str} {i c : Nat} (h : x.cps[i]? = some c) : (tl x)[i]? = some c := by simpa [tl] using h
theorem str_size {x : Str} : x.cps.size = (tl x).length := by simp [tl]
theorem lt_line {a i n : Nat} (h : a ≤ i) (h2 : i < n) (h3 : n ≤ sizeLine) : a < sizeLine := by omega
theorem snoc_rest {α : Type} {ds rest res : List α} {x : α} (h : ds ++ (x :: rest) = res) : (ds ++ [x]) ++ rest = res := by rw [← h, List.append_assoc]; rfl
theorem sjoin {α : Type} {a b : α} (h : some a = some b) : a = b := Option.some.inj h
end G
/-! My base, part 5: more peeling, walks over texts, lists' operations. -/
namespace G
open PySem PySem.Spec PyProof.Rows L2 TL

section
variable {D : Ends} {σ : L2.St} {H : Hp} {t u : TS} {te : TE} {g : TG} {c : TT} {wi : TI} {i : Nat} {v : V} {k : L2.St → Hp → Prop}
theorem p_next (h : D.nx σ H) : tNext D σ H := h
theorem p_cont (h : D.ct σ H) : tCont D σ H := h
theorem p_brk (h : D.bk σ H) : tBreak D σ H := h
theorem p_name (h : k (σ.set i (some v)) H) : gName i v σ H k := h
theorem p_nm {v' : V} (e : v = v') (h : k (σ.set i (some v')) H) : gName i v σ H k := by subst e; exact h
theorem p_nx {f : L2.St → Hp → Prop} {r : VK} {bk ct : L2.St → Hp → Prop} (h : f σ H) : (Ends.mk f r bk ct).nx σ H := h
theorem p_yes {A B : Hp → Prop} (h : A H) : tYes σ H (fun b H3 => if b = true then A H3 else B H3) := h
theorem p_for (h : tFor wi g t D σ H) : tFor wi g t D σ H := h
theorem p_id (h : t D σ H) : t D σ H := h
end
theorem pjoin {α β : Type} {a c : α} {b d : β} (h : some (a, b) = some (c, d)) : a = c ∧ b = d := by
  injection h with h
  injection h with h1 h2
  exact ⟨h1, h2⟩
theorem pjoin3 {α β γ : Type} {a a' : α} {b b' : β} {c c' : γ} (h : some (a, b, c) = some (a', b', c')) : a = a' ∧ b = b' ∧ c = c' := by
  injection h with h
  injection h with h1 h2
  injection h2 with h2 h3
  exact ⟨h1, h2, h3⟩
theorem pjoin4 {α β γ δ : Type} {a a' : α} {b b' : β} {c c' : γ} {d d' : δ} (h : some (a, b, c, d) = some (a', b', c', d')) : a = a' ∧ b = b' ∧ c = c' ∧ d = d' := by
  injection h with h
  injection h with h1 h2
  injection h2 with h2 h3
  injection h3 with h3 h4
  exact ⟨h1, h2, h3, h4⟩
theorem pjoin5 {α β γ δ ε : Type} {a a' : α} {b b' : β} {c c' : γ} {d d' : δ} {e e' : ε} (h : some (a, b, c, d, e) = some (a', b', c', d', e')) : a = a' ∧ b = b' ∧ c = c' ∧ d = d' ∧ e = e' := by
  injection h with h
  injection h with h1 h2
  injection h2 with h2 h3
  injection h3 with h3 h4
  injection h4 with h4 h5
  exact ⟨h1, h2, h3, h4, h5⟩

/-! ### parts whose value is told -/
def tVal (t : TE) : TE := fun σ H Q => ∃ v, (∀ Q' : VK, Q' v H → t σ H Q') ∧ Q v H
def tValT (t : TT) : TT := fun σ H Q => ∃ b, (∀ Q' : Bool → Hp → Prop, Q' b H → t σ H Q') ∧ Q b H
section
variable {X : Cx}
theorem pe_val {e : Expr} {t : TE} (h : PE X e t) : PE X e (tVal t) := ⟨fun pins s σ H Q I q => by
  obtain ⟨v, k, q⟩ := q
  exact h.run pins s σ H Q I (k Q q)⟩
theorem pt_valT {e : Expr} {t : TT} (h : PT X e t) : PT X e (tValT t) := ⟨fun pins s σ H Q I q => by
  obtain ⟨v, k, q⟩ := q
  exact h.run pins s σ H Q I (k Q q)⟩
end
section
variable {a b : Bool} {H : Hp}
theorem qTv {Q : VK} (h : a = true) (q : Q (.bl (a && b)) H) : Q (.bl b) H := by subst h; exact q
theorem qFv {Q : VK} (h : a = false) (q : Q (.bl (a && b)) H) : Q (.bl false) H := by subst h; exact q
theorem qTb {Q : Bool → Hp → Prop} (h : a = true) (q : Q (a && b) H) : Q b H := by subst h; exact q
theorem qFb {Q : Bool → Hp → Prop} (h : a = false) (q : Q (a && b) H) : Q false H := by subst h; exact q
end
section
variable {F H : Hp} {σ : L2.St} {ta tb : TE} {Q : VK} {a b : Bool}
theorem andV_t (h1 : EvB M0 F H (fun Q => ta σ H Q) a) (h2 : a = true → ∀ F1 H1, Gr M0 F H F1 H1 → EvB M0 F1 H1 (fun Q => tb σ H1 Q) b)
    (q : ∀ F' H', Gr M0 F H F' H' → Q (.bl (a && b)) H') : tAndV ta tb σ H Q :=
  andV_g (c := a && b) h1 (fun e F1 H1 g => by rw [e]; exact h2 e F1 H1 g) (fun e => by rw [e]; rfl) q
theorem orV_t (h1 : EvB M0 F H (fun Q => ta σ H Q) a) (h2 : a = false → ∀ F1 H1, Gr M0 F H F1 H1 → EvB M0 F1 H1 (fun Q => tb σ H1 Q) b)
    (q : ∀ F' H', Gr M0 F H F' H' → Q (.bl (a || b)) H') : tOrV ta tb σ H Q :=
  orV_g (c := a || b) h1 (fun e F1 H1 g => by rw [e]; exact h2 e F1 H1 g) (fun e => by rw [e]; rfl) q
theorem andT_t {ta tb : TT} {Q : Bool → Hp → Prop} (h1 : EvT M0 F H (fun Q => ta σ H Q) a) (h2 : a = true → ∀ F1 H1, Gr M0 F H F1 H1 → EvT M0 F1 H1 (fun Q => tb σ H1 Q) b)
    (q : ∀ F' H', Gr M0 F H F' H' → Q (a && b) H') : tAnd ta tb σ H Q :=
  andT_g (c := a && b) h1 (fun e F1 H1 g => by rw [e]; exact h2 e F1 H1 g) (fun e => by rw [e]; rfl) q
theorem orT_t {ta tb : TT} {Q : Bool → Hp → Prop} (h1 : EvT M0 F H (fun Q => ta σ H Q) a) (h2 : a = false → ∀ F1 H1, Gr M0 F H F1 H1 → EvT M0 F1 H1 (fun Q => tb σ H1 Q) b)
    (q : ∀ F' H', Gr M0 F H F' H' → Q (a || b) H') : tOr ta tb σ H Q :=
  orT_g (c := a || b) h1 (fun e F1 H1 g => by rw [e]; exact h2 e F1 H1 g) (fun e => by rw [e]; rfl) q
end

/-! ### e if c else e', behind its test -/
section
variable {M : Addr → Prop} {F H : Hp} {σ : L2.St} {ta tb : TE} {Q : VK} {c : Bool}
theorem ifJ {P : V → Hp → Hp → Prop} (h2 : c = true → ∀ Q : VK, (∀ v F' H', Gr M F H F' H' → P v F' H' → Q v H') → ta σ H Q)
    (h3 : c = false → ∀ Q : VK, (∀ v F' H', Gr M F H F' H' → P v F' H' → Q v H') → tb σ H Q)
    (q : ∀ v F' H', Gr M F H F' H' → P v F' H' → Q v H') : if c = true then ta σ H Q else tb σ H Q := by
  cases e : c with
  | true => exact iteT (h2 e Q q)
  | false => exact iteF (h3 e Q q)
end

section
variable {M : Addr → Prop} {F H : Hp} {σ : L2.St} {tb : TE} {ub : TT} {Q : VK} {U : Bool → Hp → Prop} {a c : Bool} {P : Hp → Hp → Prop}
theorem andJV (h2 : a = true → ∀ Q : VK, (∀ F' H', Gr M F H F' H' → P F' H' → Q (.bl c) H') → tb σ H Q) (h3 : a = false → c = false ∧ P F H) (fh : Same F H)
    (q : ∀ F' H', Gr M F H F' H' → P F' H' → Q (.bl c) H') : if a = true then tb σ H Q else Q (.bl false) H := by
  cases e : a with
  | true => exact iteT (h2 e Q q)
  | false =>
    obtain ⟨ec, p⟩ := h3 e
    subst ec
    exact iteF (q _ _ (Gr.refl fh) p)
theorem orJV (h2 : a = false → ∀ Q : VK, (∀ F' H', Gr M F H F' H' → P F' H' → Q (.bl c) H') → tb σ H Q) (h3 : a = true → c = true ∧ P F H) (fh : Same F H)
    (q : ∀ F' H', Gr M F H F' H' → P F' H' → Q (.bl c) H') : if a = true then Q (.bl true) H else tb σ H Q := by
  cases e : a with
  | false => exact iteF (h2 e Q q)
  | true =>
    obtain ⟨ec, p⟩ := h3 e
    subst ec
    exact iteT (q _ _ (Gr.refl fh) p)
theorem andJT (h2 : a = true → ∀ U : Bool → Hp → Prop, (∀ F' H', Gr M F H F' H' → P F' H' → U c H') → ub σ H U) (h3 : a = false → c = false ∧ P F H) (fh : Same F H)
    (q : ∀ F' H', Gr M F H F' H' → P F' H' → U c H') : if a = true then ub σ H U else U false H := by
  cases e : a with
  | true => exact iteT (h2 e U q)
  | false =>
    obtain ⟨ec, p⟩ := h3 e
    subst ec
    exact iteF (q _ _ (Gr.refl fh) p)
theorem orJT (h2 : a = false → ∀ U : Bool → Hp → Prop, (∀ F' H', Gr M F H F' H' → P F' H' → U c H') → ub σ H U) (h3 : a = true → c = true ∧ P F H) (fh : Same F H)
    (q : ∀ F' H', Gr M F H F' H' → P F' H' → U c H') : if a = true then U true H else ub σ H U := by
  cases e : a with
  | false => exact iteF (h2 e U q)
  | true =>
    obtain ⟨ec, p⟩ := h3 e
    subst ec
    exact iteT (q _ _ (Gr.refl fh) p)
end
theorem qOv {a b : Bool} {H : Hp} {Q : VK} (h : a = false) (q : Q (.bl (a || b)) H) : Q (.bl b) H := by subst h; exact q
theorem qOb {a b : Bool} {H : Hp} {Q : Bool → Hp → Prop} (h : a = false) (q : Q (a || b) H) : Q b H := by subst h; exact q
theorem anF {a b : Bool} (h : a = false) : (a && b) = false := by rw [h]; rfl
theorem orTt {a b : Bool} (h : a = true) : (a || b) = true := by rw [h]; rfl
theorem ifTr {c : Bool} {A B : Prop} (h : c = true) (q : A) : if c = true then A else B := by rw [if_pos h]; exact q
theorem ifFr {c : Bool} {A B : Prop} (h : c = false) (q : B) : if c = true then A else B := by rw [if_neg (by rw [h]; decide)]; exact q

/-! ### None -/
class NN (α : Type) [Enc α] : Prop where
  ne : ∀ x : α, Enc.d x ≠ .none
instance : NN Int := ⟨fun _ => nofun⟩
instance : NN Bool := ⟨fun _ => nofun⟩
instance : NN Str := ⟨fun _ => nofun⟩
instance {α : Type} [Enc α] : NN (List α) := ⟨fun _ => nofun⟩
instance {α : Type} [Enc α] : NN (VT α) := ⟨fun _ => nofun⟩
instance {α β : Type} [Enc α] [Enc β] : NN (α × β) := ⟨fun _ => nofun⟩
instance {α β γ : Type} [Enc α] [Enc β] [Enc γ] : NN (T3 α β γ) := ⟨fun _ => nofun⟩
instance {α β γ δ : Type} [Enc α] [Enc β] [Enc γ] [Enc δ] : NN (T4 α β γ δ) := ⟨fun _ => nofun⟩
instance {α β γ δ ε : Type} [Enc α] [Enc β] [Enc γ] [Enc δ] [Enc ε] : NN (T5 α β γ δ ε) := ⟨fun _ => nofun⟩
theorem isN_eq {α : Type} [Enc α] [NN α] {K : PySem.W.Frag} {F : Hp} {v : V} {o : Option α} (r : R K F v o) : decide (v = .non) = o.isNone := by
  cases o with
  | none =>
    have e := R.non_v r
    subst e
    rfl
  | some x =>
    have r' : Rp K F v (Enc.d x) := r
    have h : v ≠ .non := fun e => by
      subst e
      have n := NN.ne x
      revert r' n
      generalize Enc.d x = d
      intro r' n
      cases r'
      exact n rfl
    exact decide_eq_false h

/-! ### walks over texts -/
theorem str_lt {x : Str} {i c : Nat} (h : x.cps[i]? = some c) : i < x.cps.size := (Array.getElem?_eq_some_iff.mp h).1
theorem for_str {z : Str} {g : TG} {tb : TS} {D : Ends} {σ : L2.St} {H : Hp} (Pv : Nat → L2.St → Hp → Prop) (h0 : Pv 0 σ H)
    (hs : ∀ i c σ H, z.cps[i]? = some c → Pv i σ H → g (.str (sgn c)) σ H fun σ2 H2 => tb { D with nx := Pv (i + 1), ct := Pv (i + 1), bk := D.nx } σ2 H2) (hd : ∀ σ H, Pv z.cps.size σ H → D.nx σ H) :
    ∃ W : Nat → Nat → L2.St → Hp → Prop, (∃ m, W 0 m σ H) ∧ ∀ i m σ H, W i m σ H →
      ((Its z).stop i H ∧ D.nx σ H) ∨ ((Its z).go i H ∧ ∃ N : L2.St → Hp → Prop, (∀ σ' H', N σ' H' → ∃ m', m' < m ∧ W (i + 1) m' σ' H') ∧ ∀ x H', (Its z).yld i H x H' → g x σ H' fun σ2 H2 => tb { D with nx := N, ct := N, bk := D.nx } σ2 H2) :=
  for_it walk_str Pv h0 (fun _ _ _ _ _ => trivial) (fun i x σ H H' _ p y => by
    obtain ⟨rfl, c, hc, rfl⟩ := y
    exact hs i c σ _ hc p) hd
theorem lc_str {z : Str} {g : TG} {tt : TT} {te : TE} {vs : List Nat} {σ : L2.St} {H1 : Hp} {D : Addr} {Qd : Hp → Prop} (Pv : Nat → Hp → Prop) (h0 : Pv 0 (upd H1 D (.lst [])))
    (hs : ∀ i c H, z.cps[i]? = some c → Pv i H → g (.str (sgn c)) (wipe σ vs) H fun σ2 H2 => wipe σ2 vs = wipe σ vs ∧ tt σ2 H2 fun b H3 =>
      if b = true then te σ2 H3 fun y H4 => ∃ acc, H4 D = some (.lst acc) ∧ acc.length < sizeLine ∧ Pv (i + 1) (upd H4 D (.lst (acc ++ [y]))) else Pv (i + 1) H3) (hd : ∀ H, Pv z.cps.size H → Qd H) :
    ∃ W : Nat → Nat → Hp → Prop, (∃ m, W 0 m (upd H1 D (.lst []))) ∧ ∀ i m H, W i m H →
      ((Its z).stop i H ∧ Qd H) ∨ ((Its z).go i H ∧ ∃ Nx : Hp → Prop, (∀ H', Nx H' → ∃ m', m' < m ∧ W (i + 1) m' H') ∧ ∀ x H', (Its z).yld i H x H' → g x (wipe σ vs) H' fun σ2 H2 => wipe σ2 vs = wipe σ vs ∧ tt σ2 H2 fun b H3 =>
        if b = true then te σ2 H3 fun y H4 => ∃ acc, H4 D = some (.lst acc) ∧ acc.length < sizeLine ∧ Nx (upd H4 D (.lst (acc ++ [y]))) else Nx H3) :=
  lc_it walk_str Pv h0 (fun _ _ _ _ => trivial) (fun i x H H' _ p y => by
    obtain ⟨rfl, c, hc, rfl⟩ := y
    exact hs i c _ hc p) hd

/-! ### ranges from nought, lists -/
def rangeO1 (hi : Int) : Option (List Int) := if (-(2 ^ 62) ≤ hi ∧ hi < 2 ^ 62) ∧ hi.toNat ≤ sizeLine then some (rangeL 0 hi.toNat) else none
theorem rangeO1_ok {hi : Int} {l : List Int} (h : rangeO1 hi = some l) : ((-(2 ^ 62) ≤ hi ∧ hi < 2 ^ 62) ∧ hi.toNat ≤ sizeLine) ∧ rangeL 0 hi.toNat = l := by
  unfold rangeO1 at h
  split at h
  · exact ⟨by assumption, Option.some.inj h⟩
  · cases h
def setL {α : Type} (xs : List α) (i : Int) (x : α) : Option (List α) := (ixN xs.length i).map fun j => xs.set j x
theorem setL_ok {α : Type} {xs r : List α} {i : Int} {x : α} (h : setL xs i x = some r) : ∃ j, ixN xs.length i = some j ∧ xs.set j x = r := by
  unfold setL at h
  cases e : ixN xs.length i with
  | none => rw [e] at h; cases h
  | some j =>
    rw [e] at h
    exact ⟨j, rfl, Option.some.inj h⟩
/-- sorted whole numbers -/
def sortI (xs : List Int) : List Int := xs.mergeSort fun a b => decide (a ≤ b)
theorem sortI_perm (xs : List Int) : (sortI xs).Perm xs := List.mergeSort_perm _ _
theorem sortI_sorted (xs : List Int) : (sortI xs).Pairwise (· ≤ ·) := by
  have h := List.pairwise_mergeSort (le := fun a b : Int => decide (a ≤ b)) (fun a b c h1 h2 => decide_eq_true (Int.le_trans (of_decide_eq_true h1) (of_decide_eq_true h2)))
    (fun a b => by
      rcases Int.le_total a b with h | h
      · rw [decide_eq_true h]; rfl
      · rw [decide_eq_true h, Bool.or_true]) xs
  exact h.imp fun h => of_decide_eq_true h
theorem sortI_len (xs : List Int) : (sortI xs).length = xs.length := (sortI_perm xs).length_eq
theorem sorted_uniq : ∀ {xs ys : List Int}, xs.Perm ys → xs.Pairwise (· ≤ ·) → ys.Pairwise (· ≤ ·) → xs = ys
  | xs, ys, h, h1, h2 => h.eq_of_pairwise (le := (· ≤ ·)) (fun a b _ _ h3 h4 => Int.le_antisymm h3 h4) h1 h2
theorem sortI_uniq {ns ys : List Int} (h : ys.Perm ns) (h2 : ys.Pairwise (· ≤ ·)) : sortI ns = ys :=
  sorted_uniq ((sortI_perm ns).trans h.symm) (sortI_sorted ns) h2

/-! ### texts: what is stripped, joined -/
theorem GS.sub {x y : Str} (g : GS x) (h : ∀ c ∈ tl y, c ∈ tl x) (hl : (tl y).length ≤ (tl x).length) : GS y := GS.of (Nat.le_trans hl g.tll) fun c hc => g.mem c (h c hc)
theorem GS.join {sep r : Str} {ys : List Str} (gs : GS sep) (gy : ∀ y ∈ ys, GS y) (h : joinS sep ys = some r) : GS r := by
  obtain ⟨h1, rfl⟩ := joinS_ok h
  refine GS.of ?_ fun c hc => ?_
  · rw [← len_tl]
    have e : Txt.join sep ys = Str.join sep ys := by unfold Txt.join; exact StrLaws.glued_eq_join sep ys
    rw [e]
    refine Nat.le_trans (StrLaws.join_length_le sep ys) ?_
    rw [sizeLine_eq]
    exact h1
  · rw [tl_joinS] at hc
    have mem : ∀ (l : List (List Nat)), c ∈ joinL (tl sep) l → c ∈ tl sep ∨ ∃ p ∈ l, c ∈ p := by
      intro l
      induction l with
      | nil => intro h; cases h
      | cons p r ih =>
        cases r with
        | nil => intro h; exact .inr ⟨p, List.mem_singleton.mpr rfl, h⟩
        | cons q r =>
          intro h
          rcases List.mem_append.mp (show c ∈ p ++ (tl sep ++ joinL (tl sep) (q :: r)) from h) with h | h
          · exact .inr ⟨p, List.mem_cons_self .., h⟩
          · rcases List.mem_append.mp h with h | h
            · exact .inl h
            · rcases ih h with h | ⟨p', hp, h⟩
              · exact .inl h
              · exact .inr ⟨p', List.mem_cons_of_mem _ hp, h⟩
    rcases mem _ hc with h | ⟨p, hp, h⟩
    · exact gs.mem c h
    · obtain ⟨y, hy, rfl⟩ := List.mem_map.mp hp
      exact (gy y hy).mem c h
theorem GS.strip {x : Str} (g : GS x) (y : Str) : GS (Txt.stripChars x y) := by
  unfold Txt.stripChars Txt.stripBy
  split
  · exact g
  · have e : ∀ i j, tl (Builtin.Str.strSub x i j) = ((tl x).take j).drop i := fun i j => by
      show (x.cps.extract i j).toList = _
      rw [List.drop_take]
      simp [tl]
    refine g.sub (fun c hc => ?_) ?_
    · unfold stripped at hc
      rw [e] at hc
      exact List.mem_of_mem_take (List.mem_of_mem_drop hc)
    · unfold stripped
      rw [e, List.length_drop, List.length_take]
      omega
end G
/-! My base, part 6: defs by data. -/
namespace G
open PySem PySem.Spec PyProof.Rows L2 TL
abbrev FnP (K : PySem.W.Frag) (x : Str) (st : Stmt) (f : Addr) (fd : FuncData) : Prop := FunD K x x (defArgs st) (defBody st) (defScope st) [] [] f fd
section
variable {P : Program} {w : World} {K : PySem.W.Frag} {mg : Str → Option Value} {base : Heap} {x qual : Str} {params : Arguments} {body : List Stmt} {scope : Scope} {f : Addr} {fd : FuncData}
theorem fd_ok {N ps : List Str} {k : Nat} {sp : Sp} (F : FunD K x qual params body scope [] [] f fd) (S : FnScope N ps scope) (len : ∀ vs H Q E, sp vs H Q E → vs.length = ps.length)
    (hbody : ∀ (cdv : Value) (A : Around) (outer : List Env) (s : Shared) (H : Hp) (vs : List V) (Q : VK) (E : XK), Room k (A.deeper (envOfC qual scope s.heap.objs.size f cdv)) → sp vs H Q E →
      ∃ t, PSs (cxOf CX0 P w K mg base N qual scope f cdv A outer s H E).nox body t ∧ t { nx := fun _ H' => Q .non H', rt := Q } (start N vs) H) : FnOk P w K mg base CX0 (k + 1) f fd ps sp :=
  FunD.ok F S len fun cdv A outer s H vs Q E hr hsp =>
    let ⟨t, h, q⟩ := hbody cdv A outer s H vs Q E hr hsp
    ⟨t, h.nox, q⟩
theorem fd_plain (F : FunD K x qual params body scope [] [] f fd) : ∃ kV doc pm an cdv ct, fd = PySem.W.fnOf x qual params body scope .none kV doc pm an cdv ct := by
  obtain ⟨oc, od, dV, kV, doc, pm, an, cdv, ct, osl, rfl, lk, hcd, hD, hK⟩ := F.ex
  rcases hD with ⟨_, rfl⟩ | ⟨e, _⟩
  · exact ⟨kV, doc, pm, an, cdv, ct, rfl⟩
  · exact absurd rfl e
end
end G
/-! My base, part 7: a text turned round. -/
namespace G
open PySem PySem.Spec PyProof.Rows L2 TL
def revS (x : Str) : Str := ⟨(tl x).reverse.toArray⟩
theorem tl_revS (x : Str) : tl (revS x) = (tl x).reverse := by unfold revS tl; simp
theorem revS_len (x : Str) : (revS x).length = x.length := by rw [len_tl, tl_revS, List.length_reverse, ← len_tl]
theorem GS.rev {x : Str} (g : GS x) : GS (revS x) := g.sub (fun c hc => by rw [tl_revS] at hc; exact List.mem_reverse.mp hc) (by rw [tl_revS, List.length_reverse]; exact Nat.le_refl _)
theorem rev_pick (z : Str) : (⟨((Builtin.Str.strSliceIndices none none (-1) z.length).filterMap (z.cps[·]?)).toArray⟩ : Str) = revS z := by
  have h := step_rev_list z default
  unfold Txt.sliceBy slicePicked at h
  rw [if_neg (by intro h; exact absurd (Bool.and_eq_true_iff.mp h).1 (by decide))] at h
  unfold revS
  have e2 : (tl z).reverse = (List.range z.length).map fun k => z.cps.getD (z.length - 1 - k) 0 := by
    refine List.ext_getElem (by rw [List.length_reverse, List.length_map, List.length_range, ← len_tl]) fun i h1 h2 => ?_
    rw [List.getElem_reverse, List.getElem_map, List.getElem_range]
    have hi : i < z.length := by rw [List.length_reverse, ← len_tl] at h1; exact h1
    have hz : z.cps.size = z.length := rfl
    simp only [tl, Array.getElem_toList, Array.length_toList]
    rw [Array.getD, dif_pos (show z.length - 1 - i < z.cps.size by omega)]
    rfl
  rw [e2, ← h]
  rfl
def tRevS (te : TE) : TE := fun σ H Q => te σ H fun x H1 => ∃ z, x = .str z ∧ z.length ≤ sizeLine ∧ Q (.str (revS z)) H1
theorem pe_revS {X : Cx} {e : Expr} {te : TE} {k : Nat} {p1 p2 p3 pos : Pos} (he : PE X e te) : PE X (.Subscript e (.Slice none none (some (.UnaryOp .USub (.Constant (.int 1) k p1) p2)) p3) pos) (tRevS te) := by
  refine ⟨fun pins s σ H Q I h => ?_⟩
  refine Subscript_ (thn (he.run pins s σ H _ I h) fun v s1 ⟨x, H1, I1, r1, q1⟩ => ?_)
  obtain ⟨z, ex, hz, q⟩ := q1
  subst ex
  obtain ⟨t, rfl⟩ := r1
  have hst : PO X (some (.UnaryOp .USub (.Constant (.int 1) k p1) p2)) (tPart (tUn (rU fun i => .int (-i)) (tC (.int 1)))) := po_some (pe_un un_neg pe_int)
  refine wpAny_Slice (thn (po_none.run pins s1 σ H1 (fun o H2 => o = none ∧ H2 = H1) I1 ⟨rfl, rfl⟩) fun vl s2 ⟨l, H2, I2, pl, el, e2⟩ => ?_)
  subst el e2
  refine thn (po_none.run pins s2 σ H2 (fun o H3 => o = none ∧ H3 = H2) I2 ⟨rfl, rfl⟩) fun vu s3 ⟨u, H3, I3, pu, eu, e3⟩ => ?_
  subst eu e3
  refine thn (hst.run pins s3 σ H3 (fun o H4 => o = some (-1) ∧ H4 = H3) I3 ⟨1, rfl, -1, rfl, rfl, rfl⟩) fun vs s4 ⟨o, H4, I4, ps, eo, e4⟩ => ?_
  subst eo e4
  have I5 : Inv X pins σ H4 { s4 with heap := s4.heap.push { cls := .type "slice", data := .fields #[vl, vu, vs] } } := I4.kept (t' := s4.toks) fun b ob q => Heap.get?_push_of_some _ q
  cases pl
  cases pu
  cases ps with | int _ t2 => ?_
  show wpAny (model X.prog X.w) X.A (subscriptTail e (.Slice none none (some (.UnaryOp .USub (.Constant (.int 1) k p1) p2)) p3) (.str z t) (.ref s4.heap.objs.size)) (EP X pins σ Q) X.xe { s4 with heap := s4.heap.push { cls := .type "slice", data := .fields #[.none, .none, .int (-1) t2] } }
  refine tail_any (ops := [.str z t, .ref s4.heap.objs.size]) (typeIs_str _ _ _) F.slot_str_getitem.lookup ?_ (by with_unfolding_all rfl)
  obtain ⟨os, hos, hcs, hds⟩ := Heap.IsSliceOf.new s4.heap Value.none Value.none (Value.int (-1) t2)
  refine wpAny_getItem_str_slice (l := none) (u := none) (st := some (-1, t2)) ⟨os, hos, hcs, hds⟩ rfl ?_
  have e1 : sliceMade z t none none (some (-1, t2)) = .str (revS z) := by
    unfold sliceMade
    rw [if_neg (by intro h; exact absurd (show ((-1 : Int) == 1) = true from (Bool.and_eq_true_iff.mp h).1) (by decide))]
    exact congrArg Made.str (rev_pick z)
  rw [e1]
  have hl : (revS z).length ≤ sizeLine := by rw [revS_len]; exact hz
  exact ⟨hl, .str _, _, I5.tok _, ⟨_, rfl⟩, q⟩
end G
/-! My base, part 8: which type a thing is of; alike. -/
namespace G
open PySem PySem.Spec PyProof.Rows L2 TL
def tyD : PyData → String
  | .none => "NoneType"
  | .bool _ => "bool"
  | .int _ => "int"
  | .str _ => "str"
  | .list _ => "list"
  | .tuple _ => "tuple"
  | .dict _ => "dict"
def isSq (d : PyData) : Bool := tyD d == "list" || tyD d == "tuple"
section
variable {K : PySem.W.Frag} {F H : Hp} {v : V} {d : PyData} {a : Addr} {xs : List V}
theorem SqL.ty (h : SqL K H a xs) : TyX K H (.ref a) (.type "list") := by
  rcases h with (h | ⟨o, h⟩) | ⟨o, its, n, e, c, _⟩
  · exact .base (.lst h)
  · exact .base (.frz h)
  · exact .kList e c
theorem SqT.ty (h : SqT K H a xs) : TyX K H (.ref a) (.type "tuple") := by
  rcases h with (h | ⟨o, h⟩) | ⟨o, its, n, e, c, _⟩
  · exact .base (.tup h)
  · exact .fTuple h
  · exact .kTuple e c
theorem Rp.ty (h : Rp K H v d) : TyX K H v (.type (tyD d)) := by
  cases h with
  | non => exact .base .non
  | bl b => exact .base (.bl b)
  | int i => exact .base (.int i)
  | str x _ => exact .base (.str x)
  | lst hs _ _ => exact SqL.ty hs
  | tup hs _ _ => exact .base (.tup hs)
/-- the six kinds -/
def Knd (s : String) : Prop := s = "NoneType" ∨ s = "bool" ∨ s = "int" ∨ s = "str" ∨ s = "list" ∨ s = "tuple"
theorem Rp.knd (h : Rp K H v d) : Knd (tyD d) := by
  cases h with
  | non => exact .inl rfl
  | bl _ => exact .inr (.inl rfl)
  | int _ => exact .inr (.inr (.inl rfl))
  | str _ _ => exact .inr (.inr (.inr (.inl rfl)))
  | lst _ _ _ => exact .inr (.inr (.inr (.inr (.inl rfl))))
  | tup _ _ _ => exact .inr (.inr (.inr (.inr (.inr rfl))))
theorem kit_two (s : String) (b c : Bool) (h1 : kitB s "list" = some b) (h2 : kitB s "tuple" = some c) : PySem.W.kitAny K (.type s) [.type "list", .type "tuple"] = some (b || c) := by
  refine kitAny_cons (b := b) (kit_ty h1) (fun hb => ?_) (fun hb => by rw [hb]; rfl)
  refine kitAny_cons (b := c) (kit_ty h2) (fun hc => ?_) (fun hc => by rw [hc, Bool.or_true])
  rw [hb, hc]
  exact kitAny_nil
theorem kit_lt {s : String} (h : Knd s) : PySem.W.kitAny K (.type s) [.type "list", .type "tuple"] = some (s == "list" || s == "tuple") := by
  rcases h with rfl | rfl | rfl | rfl | rfl | rfl <;> exact kit_two _ _ _ (by decide +kernel) (by decide +kernel)
theorem kit_one {s : String} (h : Knd s) (t : String) (ht : t = "list" ∨ t = "bool" ∨ t = "str") : PySem.W.kitOne K (.type s) (.type t) = some (s == t) := by
  rcases ht with rfl | rfl | rfl <;> rcases h with rfl | rfl | rfl | rfl | rfl | rfl <;> exact kit_ty (by decide +kernel)
theorem kit_int {s : String} (h : Knd s) : PySem.W.kitOne K (.type s) (.type "int") = some (s == "int" || s == "bool") := by
  rcases h with rfl | rfl | rfl | rfl | rfl | rfl <;> exact kit_ty (by decide +kernel)
end
/-- no value of the data is deeper than n -/
theorem depth_list {n : Nat} {ds : List PyData} (h : PyData.depthAll ds + 1 ≤ n + 1) {d : PyData} (hd : d ∈ ds) : d.depth ≤ n := by
  have : ∀ (l : List PyData), d ∈ l → d.depth ≤ PyData.depthAll l := by
    intro l
    induction l with
    | nil => intro h; cases h
    | cons x l ih =>
      intro h
      simp only [PyData.depthAll]
      rcases List.mem_cons.mp h with rfl | h
      · omega
      · have := ih h
        omega
  have := this ds hd
  omega
def sp_alike (n : Nat) (K : PySem.W.Frag) : Sp := fun vs H Q _ => ∃ (v1 v2 : V) (d : PyData), vs = [v1, v2] ∧ Rp K H v1 d ∧ Rp K H v2 d ∧ d.depth ≤ n ∧ (∀ F' H', Gr M0 H H F' H' → Q (.bl true) H')
theorem al_sc {K : PySem.W.Frag} {H : Hp} {v1 v2 : V} {d : PyData} (r1 : Rp K H v1 d) (r2 : Rp K H v2 d) (hc : (tyD d == "list" || tyD d == "tuple") = false) : v1 = v2 ∧ scal v1 v2 = true := by
  cases r1 with
  | non => cases r2; exact ⟨rfl, rfl⟩
  | bl b => cases r2; exact ⟨rfl, rfl⟩
  | int i => cases r2; exact ⟨rfl, rfl⟩
  | str x _ => cases r2; exact ⟨rfl, rfl⟩
  | lst h1 h2 h3 => exact absurd hc (by simp [tyD])
  | tup h1 h2 h3 => exact absurd hc (by simp [tyD])
theorem ix_go {K : PySem.W.Frag} {H : Hp} {p : Addr} {xs : List V} {i : Nat} {v : V} {Q : VK} (h : SqL K H p xs ∨ SqT K H p xs) (e : xs[i]? = some v) (q : Q v H) : rIx K (.ref p) (.int (0 + (i : Nat))) H Q := by
  have ha : atI xs (0 + (i : Nat)) = some v := by rw [Int.zero_add]; exact atI_nat e
  rcases h with h | h
  · exact .inl ⟨p, xs, _, v, rfl, rfl, h, ha, q⟩
  · exact .inr (.inl ⟨p, xs, _, v, rfl, rfl, h, ha, q⟩)
theorem sq_up {K : PySem.W.Frag} {H H' : Hp} {p : Addr} {xs : List V} (h : SqL K H p xs ∨ SqT K H p xs) (e : Same H H') : SqL K H' p xs ∨ SqT K H' p xs := by
  rcases h with h | h
  · exact .inl (e.seq h)
  · exact .inr (SqT_mono e h)
def spA : Nat → PySem.W.Frag → Sp
  | 0, _ => fun _ _ _ _ => False
  | n + 1, K => sp_alike n K
theorem al_sq {K : PySem.W.Frag} {H : Hp} {v1 v2 : V} {d : PyData} {n : Nat} (r1 : Rp K H v1 d) (r2 : Rp K H v2 d) (hc : (tyD d == "list" || tyD d == "tuple") = true) (hd : d.depth ≤ n) :
    ∃ a1 ws1 a2 ws2 ds m, v1 = .ref a1 ∧ v2 = .ref a2 ∧ (SqL K H a1 ws1 ∨ SqT K H a1 ws1) ∧ (SqL K H a2 ws2 ∨ SqT K H a2 ws2) ∧ ws1.length ≤ sizeLine ∧ ws2.length ≤ sizeLine ∧ RpA K H ws1 ds ∧ RpA K H ws2 ds ∧ n = m + 1 ∧ ∀ d ∈ ds, d.depth ≤ m := by
  cases r1 with
  | non => exact absurd hc (by decide)
  | bl b => exact absurd hc (by simp [tyD])
  | int i => exact absurd hc (by simp [tyD])
  | str x _ => exact absurd hc (by simp [tyD])
  | lst h1 h2 h3 =>
    cases r2 with
    | lst k1 k2 k3 =>
      cases n with
      | zero => exact absurd hd (Nat.not_succ_le_zero _)
      | succ m => exact ⟨_, _, _, _, _, m, rfl, rfl, .inl h1, .inl k1, h2, k2, h3, k3, rfl, fun d hd2 => depth_list hd hd2⟩
  | tup h1 h2 h3 =>
    cases r2 with
    | tup k1 k2 k3 =>
      cases n with
      | zero => exact absurd hd (Nat.not_succ_le_zero _)
      | succ m => exact ⟨_, _, _, _, _, m, rfl, rfl, .inr (.inl (.inl h1)), .inr (.inl (.inl k1)), h2, k2, h3, k3, rfl, fun d hd2 => depth_list hd hd2⟩
theorem R.of_eq {α : Type} [Enc α] {K : PySem.W.Frag} {F : Hp} {v : V} {x y : α} (h : x = y) (r : R K F v y) : R K F v x := by rw [h]; exact r
theorem retQ {e : Bool} {Q : VK} {H : Hp} (h : e = true) (q : Q (.bl true) H) : Q (.bl e) H := by rw [h]; exact q
def m_l_alike {α : Type} [DecidableEq α] (x y : α) : Option Bool := if x = y then some true else none
theorem alike_ok {α : Type} [DecidableEq α] {x y : α} {r : Bool} (h : m_l_alike x y = some r) : x = y ∧ true = r := by
  unfold m_l_alike at h
  split at h
  · exact ⟨by assumption, Option.some.inj h⟩
  · cases h
theorem op_powW {X : Cx} : OpR X (binaryOp .Pow) (rI (fun i j => 0 ≤ j ∧ (Builtin.Int.intBits i : Int) * j ≤ 2 ^ 27) fun i j => .int (i ^ j.toNat)) := opI fun _ _ _ _ _ _ _ hc q => pow_int hc.1 hc.2 q
end G
/-! My base, part 9: parts of a text. -/
namespace G
open PySem PySem.Spec PyProof.Rows L2 TL
theorem GS.sub_ {x : Str} (g : GS x) (i j : Nat) : GS (Builtin.Str.strSub x i j) := by
  have e : tl (Builtin.Str.strSub x i j) = ((tl x).take j).drop i := by
    show (x.cps.extract i j).toList = _
    rw [List.drop_take]
    simp [tl]
  refine g.sub (fun c hc => ?_) ?_
  · rw [e] at hc
    exact List.mem_of_mem_take (List.mem_of_mem_drop hc)
  · rw [e, List.length_drop, List.length_take]
    omega
theorem GS.empty : GS Str.empty := ⟨Nat.zero_le _, by decide +kernel⟩
theorem GS.part {x y : Str} (gx : GS x) (gy : GS y) : GS (Txt.partition x y).1 ∧ GS (Txt.partition x y).2.1 ∧ GS (Txt.partition x y).2.2 := by
  unfold Txt.partition
  split
  · exact ⟨gx.sub_ _ _, gy, gx.sub_ _ _⟩
  · exact ⟨gx, .empty, .empty⟩
def partS (x y : Str) : T3 Str Str Str := ⟨(Txt.partition x y).1, (Txt.partition x y).2.1, (Txt.partition x y).2.2⟩
theorem lpgo {S R T : Type} {s : S} {f : S → Option T} {g : R → Option T} {t : T} (h : lpK (.go s) f g = some t) : f s = some t := h
end G
/-! My base, part 10: sorted(set(a list of whole numbers)). -/
namespace G
open PySem PySem.Spec PyProof.Rows L2 TL
section
variable {P : Program} {w : World} {A : Around} {E : Value → Shared → Prop} {s : Shared}
/-- the empty set, as it is laid -/
abbrev newS (w : World) : Obj := { cls := .type "set", dict := none, data := .set #[] 0 (.fresh 0 0 (!w.params.followText "set-order")) }
theorem set_of_list {l : Addr} {xs : Array Value} (ks : List Int) {Q : Value → Shared → Prop} (hh : A.handled = none) (hl : s.heap.IsList l xs) (hk : IntsAre xs.toList ks) (hb : ks.length + 1 < scanBound)
    (hq : ∀ (h' : Heap) (tk c : Nat), SetR w h' s.heap.objs.size (fun j => decide (j ∈ ks)) c → c ≤ ks.length → (∀ b o, s.heap.get? b = some o → h'.get? b = some o) → Q (.ref s.heap.objs.size) { s with heap := h', toks := tk }) :
    wpAny (model P w) A (call (.type "set") [.ref l]) Q E s := by
  have hsz : xs.size = ks.length := (Array.length_toList (xs := xs)).symm.trans (IntsAre.length hk)
  obtain ⟨c0, tl0, hmro⟩ := F.called_set.mro
  have hmade := F.called_set.made; have hsub := F.called_set.sub
  refine wpAny_call (codeAny_of_tree ?_); show wpAny _ _ (callAny (.type "set") _) _ _ _
  refine wpAny_pure ⟨Code.quiet_builtin _ (by decide +kernel), codeAny_builtin F.entry_type_call ?_⟩; rw [Around.under_plain (weight_type_call_type "set" [.ref l] []) rfl]
  have n1 := F.called_set.notType; have n2 := F.called_set.canCreate; have n3 := F.typeCall_set_1 (.ref l)
  repeat (any_goals (first | assumption | wp_step))
  refine codeAny_mono (code_set_led1 (A := A.in1) (.ref l) (E := E) (Q₁ := fun ob s₁ => ob = .ref s.heap.objs.size ∧ s₁ = { s with heap := s.heap.push (newS w) }) ⟨rfl, rfl⟩) fun r s₁ hr => ?_
  cases r with
  | error e => exact hr
  | ok fl =>
    cases fl with
    | next => exact hr.elim
    | brk => exact hr.elim
    | cont => exact hr.elim
    | ret ob =>
      obtain ⟨rfl, rfl⟩ := hr
      have hS : (s.heap.push (newS w)).get? s.heap.objs.size = some (newS w) := Heap.get?_push_size _ rfl
      have hT : Shared.TypeIs { s with heap := s.heap.push (newS w) } (.ref s.heap.objs.size) "set" := ⟨_, hS, rfl⟩
      have hli := F.called_set.init.lookup; have hbi := F.called_set.init.bind (.ref s.heap.objs.size)
      repeat (any_goals (first | assumption | wp_step))
      refine codeAny_mono (codeAny_call_builtin (R := wants (fun rr s₂ => rr = .none ∧ ∃ h' tk c, s₂ = { s with heap := h', toks := tk } ∧ SetR w h' s.heap.objs.size (fun j => decide (j ∈ ks)) c ∧ c ≤ ks.length ∧ (∀ b o, s.heap.get? b = some o → h'.get? b = some o)) E)
        F.called_set.init.plain F.entry_set_init (check_set_init_1 hT ?_)) fun r2 s2 hr2 => ?_
      · obtain ⟨⟨lc, ld, lt, ls⟩, hol, hcl, nl, hdl⟩ := hl
        simp only at hcl hdl; subst hcl; subst hdl
        have hol' : (s.heap.push (newS w)).get? l = some { cls := .type "list", dict := ld, data := .seq xs nl, slots := ls } := Heap.get?_push_of_some _ hol
        have b1 := F.sub_list_set; have b2 := F.sub_list_frozenset
        have b3 : (Value.type "list" == Value.type "dict") = false := by decide
        have hl1 : (s.heap.push (newS w)).IsList l xs := ⟨_, hol', rfl, nl, rfl⟩
        unfold Builtin.«set.__init__» noKeywords Builtin.Frozenset.updateFrom; generalize hPI : pyIter = PI
        wp_walk
        subst hPI; refine wpAny_pyIter_list hl1 ?_
        refine wpAny_bind (wpAny_runValue ?_); have lS : l < s.heap.objs.size := Heap.lt_size hol
        have hh3 : A.in1.in1.in1.handled = none := by simp [hh]
        have lI : l ≠ (s.heap.push (newS w)).objs.size := by rw [Heap.size_push]; exact Nat.ne_of_lt (Nat.lt_succ_of_lt lS)
        have sI : s.heap.objs.size ∉ [(s.heap.push (newS w)).objs.size, l] := by
          rw [Heap.size_push]
          intro z
          rcases List.mem_cons.mp z with z | z
          · exact absurd z (Nat.ne_of_lt (Nat.lt_succ_self _))
          · exact absurd (List.mem_singleton.mp z) (Nat.ne_of_gt lS)
        have each : ∀ (i : Nat) (v : Value), xs[i]? = some v → ∃ k t, ks[i]? = some k ∧ v = .int k t := fun i v hv => by
          have hi : i < ks.length := by rw [← hsz]; exact (Array.getElem?_eq_some_iff.mp hv).1
          obtain ⟨t, e⟩ := PyProof.Rows.IntsAre.int_at hk i v (by rw [Array.getElem?_toList]; exact hv)
          exact ⟨ks[i], t, List.getElem?_eq_getElem hi, by rw [e, List.getD_eq_getElem?_getD, List.getElem?_eq_getElem hi]; rfl⟩
        refine set_update_ints ((Walks.list hh3 _ l lI xs).toS) s.heap.objs.size sI ks hsz hb each (xs.size - 0) 0 _ (by omega) (Nat.zero_le _) ⟨⟨_, Heap.get?_push_size _ rfl, rfl, rfl⟩, (hl1.push _)⟩ ⟨0, Nat.le_refl 0, setR_new_at (Heap.get?_push_of_some _ hS)⟩ (fun s' c' hm hc' hS' => ?_)
        obtain ⟨h', g2, d', tk', os'⟩ := s'
        have eg : g2 = s.gens := hm.gens; have ed : d' = s.drawn := hm.drawn
        have eo : os' = s.os := hm.os; subst eg; subst ed; subst eo
        show wpAny _ _ _ _ _ _; refine wpAny_pure ?_
        show wpAny _ _ (ret Value.none) _ _ _; rw [hsz] at hc'
        refine wpAny_pure ⟨rfl, h', tk', c', rfl, hS', hc', fun b o e => ?_⟩
        have m0 : b < s.heap.objs.size := Heap.lt_size e
        refine hm.heap b o (fun z => ?_) (Heap.get?_push_of_some _ (Heap.get?_push_of_some _ e))
        rcases List.mem_cons.mp z with z | z
        · exact absurd z (Nat.ne_of_lt m0)
        · have z := List.mem_singleton.mp z
          rw [Heap.size_push] at z
          exact absurd z (Nat.ne_of_lt (Nat.lt_succ_of_lt m0))
      · cases r2 with
        | error e => exact hr2
        | ok fl2 =>
          cases fl2 with
          | next => exact hr2.elim
          | brk => exact hr2.elim
          | cont => exact hr2.elim
          | ret rr =>
            obtain ⟨rfl, h', tk, c, rfl, hS', hc', hk'⟩ := hr2
            repeat (any_goals (first | assumption | wp_step))
            exact hq _ _ _ hS' hc' hk'
end
end G
/-! My base, part 11: the set sorted. -/
namespace G
open PySem PySem.Spec PyProof.Rows L2 TL
section
variable {P : Program} {w : World} {A : Around} {E : Value → Shared → Prop} {s : Shared} {a : Addr}
theorem set_sorted {S : Int → Bool} {n : Nat} {Q : Value → Shared → Prop} (R : SetR w s.heap a S n) (hh : A.handled = none)
    (hq : ∀ s' p (out : List Value) (c : Nat) (ns : List Int), (∀ b o, s.heap.get? b = some o → s'.heap.get? b = some o) → s'.gens = s.gens → s'.os = s.os → s.heap.objs.size ≤ p →
      s'.heap.get? p = some (seqObj "list" out.toArray c) → IntsAre out ns → ns.Pairwise (· < ·) → (∀ k, k ∈ ns ↔ S k = true) → ns.length ≤ n → Q (.ref p) s') :
    wpAny (model P w) A (call (.builtin "sorted") [.ref a]) Q E s := by
  obtain ⟨o, es, ep, t, ho, hex, hd, good, nd, hm, hb, hf, hn, hr, hl⟩ := R
  refine Calls.call_function_entry kind_sorted plain_sorted entry_sorted (args_sorted1 _) ?_; unfold Builtin.«sorted»
  refine wpAny_bind (m := checkCount "sorted" 1 1 _) (wpAny_pure ?_)
  refine wpAny_bind (collect_set (A := A.in1) hh ⟨o, ho, hex.1, hd⟩ hf hb hr hl fun s1 vs k1 hz g1 o1 pm => ?_)
  have hvl : vs.length = n := by rw [pm.length_eq, List.length_map, Array.length_toList]; exact hn
  have hI : IntsAre vs (vs.map Builtin.Re.reRawOf) := ints_of vs fun v hv => by
    obtain ⟨e, he, q⟩ := List.mem_map.mp (pm.mem_iff.mp hv)
    obtain ⟨k, tk, h1, _⟩ := good e he
    exact ⟨k, tk, q ▸ h1⟩
  have pk : (vs.map Builtin.Re.reRawOf).Perm (es.toList.map keyOf) := by
    have q := pm.map Builtin.Re.reRawOf
    rwa [List.map_map] at q
  have hsl : vs.length ≤ sizeLine := by
    rw [hvl, ← hn, sizeLine_eq]
    have := hb
    unfold scanBound at this
    omega
  refine wpAny_bind (wpAny_newList ?_ hsl)
  have hoL : (s1.heap.push (seqObj "list" vs.toArray 0)).get? s1.heap.objs.size = some (seqObj "list" vs.toArray 0) := Heap.get?_push_size _ rfl
  refine wpAny_bind (wpAny_holding (wpAny_call_entry slot_list_sort ⟨_, hoL, rfl⟩ entry_list_sort (SrtO.list_sort_ord SrtO.swo_int hoL hsl (fun h2 => SrtO.ints_sortable hI h2) fun out h1 h2 => ⟨_, rfl, ?_⟩) (args_list_sort _)))
  obtain ⟨z1, z2, z3⟩ := SrtO.ints_out hI h1 h2
  obtain ⟨c, hc⟩ := sortedHeap_at (vs := vs) (out := out.toArray) hoL
  have pn := z2.trans pk
  refine wpAny_pure ⟨_, rfl, hq _ s1.heap.objs.size out c _ (fun b u e => ?_) g1 o1 hz hc z1 (lt_of_le_nodup _ z3 (pn.nodup_iff.mpr nd)) (fun k => by rw [pn.mem_iff, ← hm k]) (by rw [pn.length_eq, List.length_map, Array.length_toList, hn]; exact Nat.le_refl _)⟩
  have q := k1 b u e
  have hlt := Heap.lt_size q
  show (sortedHeap (s1.heap.push (seqObj "list" vs.toArray 0)) s1.heap.objs.size vs out.toArray).get? b = some u
  rw [sortedHeap_old (Nat.ne_of_lt hlt) (by rw [Heap.size_push]; exact Nat.lt_succ_of_lt hlt)]
  exact Heap.get?_push_of_some _ q
end
end G
/-! My base, part 12: the rule. -/
namespace G
open PySem PySem.Spec PyProof.Rows L2 TL
section
variable {X : Cx}
/-- sorted(set(a list of whole numbers)) -/
def tSSet (K : PySem.W.Frag) (ta : TE) : TE := fun σ H Q => ta σ H fun x H1 => ∃ (l : Addr) (ks : List Int), x = V.ref l ∧ SqL K H1 l (ks.map V.int) ∧ ks.length < 4000 ∧
  ∀ (ns : List Int) (p : Addr), ns.Pairwise (· < ·) → (∀ k, k ∈ ns ↔ k ∈ ks) → ns.length ≤ ks.length → H1 p = none → Q (.ref p) (upd H1 p (.lst (ns.map V.int)))
theorem pe_sset {a : Expr} {ta : TE} {p p2 q pos : Pos} (hc : X.calm = true) (hg : Gl X "sorted") (hm : X.mg "sorted" = none) (hg2 : Gl X "set") (hm2 : X.mg "set" = none) (ha : PE X a ta)
    (na : starEach [a] X.env = (false, eval a X.env) :: starEach [] X.env := by rfl) : PE X (.Call (.Name "sorted" p) [.Call (.Name "set" p2) [a] [] q] [] pos) (tSSet X.K ta) := by
  refine ⟨fun pins s σ H Q I h => ?_⟩
  refine Call_ (ld_blt I hg hm (u := .builtin "sorted") (by decide +kernel) ?_)
  refine PyProof.Rows.callWith_builtin1 (PyProof.Rows.args_cons ?_ rfl) rfl rfl
  refine Call_ (ld_blt I hg2 hm2 PyProof.Rows.boot_set ?_)
  refine PyProof.Rows.callWith_type1 (PyProof.Rows.args_cons (thn (ha.run pins s σ H _ I h) fun v s1 ⟨x, H1, I1, r1, q1⟩ => PyProof.Rows.args_nil ?_) na) na rfl
  obtain ⟨l, ks, rfl, hq, h4, q1⟩ := q1
  cases r1
  obtain ⟨its, r, pl, hz⟩ := I1.list hq
  refine set_of_list ks (I1.ok.hd hc) pl.isList (by simpa using r.ints) (by unfold scanBound; omega) fun h' tk c hS hck hk => ?_
  refine PyProof.Rows.args_nil ?_
  have I2 : Inv X pins σ H1 { s1 with heap := h', toks := tk } := I1.kept fun b o e => hk b o e
  refine set_sorted hS (I2.ok.hd hc) fun s' p out c2 ns k g o hp hgt hi hs hmem hlen => ?_
  have hlen2 : ns.length ≤ ks.length := Nat.le_trans hlen hck
  have hlz : (ns.map V.int).length ≤ sizeLine := by rw [List.length_map, sizeLine_eq]; omega
  have hn : H1 p = none := I2.hok.fresh hp
  have J : Inv X pins σ (upd H1 p (.lst (ns.map V.int))) s' := Inv.call' (ch := []) I2 o (Un.laid k hp hn) (I2.hok.laid k hp ⟨hlz, out, c2, vals_of_ints hi, hgt⟩) (by rw [g]; exact I2.bare) (fun _ z => nomatch z)
  exact ⟨.ref p, _, J, rfl, q1 ns p hs (fun k => by rw [hmem k, decide_eq_true_iff]) hlen2 hn⟩
end
end G
/-! My base, part 13: what sorted(set(..)) comes to. -/
namespace G
open PySem PySem.Spec PyProof.Rows L2 TL
/-- x put into a rising list, once -/
def ins (x : Int) : List Int → List Int
  | [] => [x]
  | y :: ys => if x < y then x :: y :: ys else if x = y then y :: ys else y :: ins x ys
def ssort (xs : List Int) : List Int := xs.foldr ins []
theorem ins_mem {x k : Int} : ∀ {l : List Int}, k ∈ ins x l ↔ k = x ∨ k ∈ l
  | [] => by simp [ins]
  | y :: ys => by
    unfold ins
    split
    · simp
    · split
      · rename_i h
        subst h
        simp
      · rw [List.mem_cons, ins_mem, List.mem_cons]
        constructor
        · rintro (h | h | h)
          · exact .inr (.inl h)
          · exact .inl h
          · exact .inr (.inr h)
        · rintro (h | h | h)
          · exact .inr (.inl h)
          · exact .inl h
          · exact .inr (.inr h)
theorem ins_sorted {x : Int} : ∀ {l : List Int}, l.Pairwise (· < ·) → (ins x l).Pairwise (· < ·)
  | [], _ => List.pairwise_singleton _ _
  | y :: ys, h => by
    obtain ⟨h1, h2⟩ := List.pairwise_cons.mp h
    unfold ins
    split
    · rename_i hx
      exact List.pairwise_cons.mpr ⟨fun z hz => by
        rcases List.mem_cons.mp hz with rfl | hz
        · exact hx
        · exact Int.lt_trans hx (h1 z hz), h⟩
    · split
      · exact h
      · refine List.pairwise_cons.mpr ⟨fun z hz => ?_, ins_sorted h2⟩
        rcases ins_mem.mp hz with rfl | hz
        · omega
        · exact h1 z hz
theorem ssort_mem {k : Int} : ∀ {l : List Int}, k ∈ ssort l ↔ k ∈ l
  | [] => Iff.rfl
  | x :: l => by
    show k ∈ ins x (ssort l) ↔ _
    rw [ins_mem, ssort_mem, List.mem_cons]
theorem ssort_sorted : ∀ l : List Int, (ssort l).Pairwise (· < ·)
  | [] => List.Pairwise.nil
  | x :: l => ins_sorted (ssort_sorted l)
theorem rise_uniq : ∀ {a b : List Int}, a.Pairwise (· < ·) → b.Pairwise (· < ·) → (∀ k, k ∈ a ↔ k ∈ b) → a = b
  | [], [], _, _, _ => rfl
  | [], y :: _, _, _, h => absurd ((h y).mpr (List.mem_cons_self ..)) (fun z => nomatch z)
  | x :: _, [], _, _, h => absurd ((h x).mp (List.mem_cons_self ..)) (fun z => nomatch z)
  | x :: a, y :: b, ha, hb, h => by
    obtain ⟨a1, a2⟩ := List.pairwise_cons.mp ha
    obtain ⟨b1, b2⟩ := List.pairwise_cons.mp hb
    have e : x = y := by
      rcases List.mem_cons.mp ((h x).mp (List.mem_cons_self ..)) with z | z
      · exact z
      · rcases List.mem_cons.mp ((h y).mpr (List.mem_cons_self ..)) with z2 | z2
        · exact z2.symm
        · have := b1 x z
          have := a1 y z2
          omega
    subst e
    rw [rise_uniq a2 b2 fun k => ?_]
    constructor
    · intro hk
      rcases List.mem_cons.mp ((h k).mp (List.mem_cons_of_mem _ hk)) with z | z
      · have := a1 k hk; omega
      · exact z
    · intro hk
      rcases List.mem_cons.mp ((h k).mpr (List.mem_cons_of_mem _ hk)) with z | z
      · have := b1 k hk; omega
      · exact z
theorem ssort_uniq {xs ns : List Int} (h1 : ns.Pairwise (· < ·)) (h2 : ∀ k, k ∈ ns ↔ k ∈ xs) : ssort xs = ns :=
  rise_uniq (ssort_sorted xs) h1 fun k => by rw [ssort_mem, h2]
def ssetO (xs : List Int) : Option (List Int) := if xs.length < 4000 then some (ssort xs) else none
theorem ssetO_ok {xs r : List Int} (h : ssetO xs = some r) : xs.length < 4000 ∧ ssort xs = r := by
  unfold ssetO at h
  split at h
  · exact ⟨by assumption, Option.some.inj h⟩
  · cases h
end G
/-! My base, part 14: list(zip(two lists)). -/
namespace G
open PySem PySem.Spec PyProof.Rows L2 TL
theorem zip_nolen : typeLookup (.type "zip") "__len__" = pure none := by rw [typeLookup_type, builtinLookup_eq_fast]; kernel_rfl
theorem zip_nohint : typeLookup (.type "zip") "__length_hint__" = pure none := by rw [typeLookup_type, builtinLookup_eq_fast]; kernel_rfl
/-- where the gathering of a zip stands: Ts are the pairs handed out, all of them still there -/
structure ZSt (z TI TO i1 i2 l1 l2 : Addr) (lo : Nat) (xs ys : Array Value) (h : Heap) (Ts : List Addr) : Prop where
  ti : IsPair h TI (.ref i1) (.ref i2)
  z : (Ts = [] ∧ IsZip h z TI TO .none ∧ ∃ a b, IsPair h TO a b) ∨ ∃ T f, T ∈ Ts ∧ IsZipHeld h z TI TO T f
  a1 : h.IsListIter i1 l1 Ts.length
  a2 : h.IsListIter i2 l2 Ts.length
  b1 : h.IsList l1 xs
  b2 : h.IsList l2 ys
  prs : ∀ (j : Nat) (T : Addr), Ts[j]? = some T → ∃ x y, xs[j]? = some x ∧ ys[j]? = some y ∧ IsPair h T x y
  fr : ∀ T ∈ Ts, lo ≤ T
  nd : Ts.Nodup
theorem ne_lo {a b lo : Nat} (h : a < lo) (h2 : lo ≤ b) : b ≠ a := fun e => absurd (e ▸ h2) (Nat.not_le_of_lt h)
section
variable {P : Program} {w : World} {A : Around} {E : Value → Shared → Prop} {s : Shared} {z TI TO i1 i2 l1 l2 S : Addr} {lo : Nat} {xs ys : Array Value} {h h' : Heap} {Ts : List Addr}
theorem ZSt.at_T (Z : ZSt z TI TO i1 i2 l1 l2 lo xs ys h Ts) {T : Addr} (hT : T ∈ Ts) : ∃ o, h.get? T = some o := by
  obtain ⟨j, hj⟩ := List.getElem?_of_mem hT
  obtain ⟨x, y, _, _, p⟩ := Z.prs j T hj
  exact ⟨_, p⟩
/-- what is kept of it by a write elsewhere -/
theorem ZSt.keep (Z : ZSt z TI TO i1 i2 l1 l2 lo xs ys h Ts) (hS : S < lo) (S1 : S ≠ z) (S2 : S ≠ TI) (S3 : S ≠ TO) (S4 : S ≠ i1) (S5 : S ≠ i2) (S6 : S ≠ l1) (S7 : S ≠ l2) (k : ∀ b o, b ≠ S → h.get? b = some o → h'.get? b = some o) : ZSt z TI TO i1 i2 l1 l2 lo xs ys h' Ts := by
  refine ⟨k _ _ S2.symm Z.ti, ?_, Z.a1.at fun o e => k _ o S4.symm e, Z.a2.at fun o e => k _ o S5.symm e, Z.b1.at fun o e => k _ o S6.symm e, Z.b2.at fun o e => k _ o S7.symm e, fun j T hj => ?_, Z.fr, Z.nd⟩
  · rcases Z.z with ⟨e, q, a, b, r⟩ | ⟨T, f, hT, q⟩
    · exact .inl ⟨e, k _ _ S1.symm q, a, b, k _ _ S3.symm r⟩
    · exact .inr ⟨T, f, hT, k _ _ S1.symm q⟩
  · obtain ⟨x, y, e1, e2, p⟩ := Z.prs j T hj
    have hT := Z.fr T (List.mem_of_getElem? hj)
    exact ⟨x, y, e1, e2, k _ _ (ne_lo hS hT) p⟩
/-- one pair more -/
theorem ZSt.more (Z : ZSt z TI TO i1 i2 l1 l2 lo xs ys h Ts) (D : ZipApart z TI TO i1 i2 l1 l2) (hlo : lo ≤ h.objs.size) (hl : z < lo ∧ TO < lo ∧ i1 < lo ∧ i2 < lo) {f : Bool} {x y : Value} (c1 : IsZipHeld h' z TI TO h.objs.size f ∨ ∃ T, T ∈ Ts ∧ IsZipHeld h' z TI TO T f)
    (c2 : h'.IsListIter i1 l1 (Ts.length + 1)) (c3 : h'.IsListIter i2 l2 (Ts.length + 1)) (c4 : IsPair h' h.objs.size x y) (e1 : xs[Ts.length]? = some x) (e2 : ys[Ts.length]? = some y)
    (k : ∀ c o, c ≠ z → c ≠ TO → c ≠ i1 → c ≠ i2 → h.get? c = some o → h'.get? c = some o) : ZSt z TI TO i1 i2 l1 l2 lo xs ys h' (Ts ++ [h.objs.size]) := by
  have hn : h.objs.size ∉ Ts := fun m => by
    obtain ⟨o, e⟩ := Z.at_T m
    exact absurd (Heap.lt_size e) (Nat.lt_irrefl _)
  refine ⟨k _ _ D.TIz D.TITO D.TIi1 D.TIi2 Z.ti, .inr ?_, ?_, ?_, Z.b1.at fun o e => k _ o D.l1z D.l1TO D.l1i1 D.l1i2 e, Z.b2.at fun o e => k _ o D.l2z D.l2TO D.l2i1 D.l2i2 e, fun j T hj => ?_, fun T hT => ?_, ?_⟩
  · rcases c1 with c1 | ⟨T, hT, c1⟩
    · exact ⟨_, f, List.mem_append.mpr (.inr (List.mem_singleton.mpr rfl)), c1⟩
    · exact ⟨T, f, List.mem_append.mpr (.inl hT), c1⟩
  · rw [List.length_append]; exact c2
  · rw [List.length_append]; exact c3
  · by_cases hjl : j < Ts.length
    · rw [List.getElem?_append_left hjl] at hj
      obtain ⟨x', y', f1, f2, p⟩ := Z.prs j T hj
      have hT := Z.fr T (List.mem_of_getElem? hj)
      exact ⟨x', y', f1, f2, k _ _ (ne_lo hl.1 hT) (ne_lo hl.2.1 hT) (ne_lo hl.2.2.1 hT) (ne_lo hl.2.2.2 hT) p⟩
    · rw [List.getElem?_append_right (by omega)] at hj
      have hj0 : j - Ts.length = 0 := by
        cases q : j - Ts.length with
        | zero => rfl
        | succ m => rw [q] at hj; simp at hj
      rw [hj0] at hj
      have eT : h.objs.size = T := Option.some.inj hj
      have ej : j = Ts.length := by omega
      subst ej
      subst eT
      exact ⟨x, y, e1, e2, c4⟩
  · rcases List.mem_append.mp hT with m | m
    · exact Z.fr T m
    · rw [List.mem_singleton.mp m]; exact hlo
  · exact List.nodup_append.mpr ⟨Z.nd, by simp, fun a ha b hb => by
      rw [List.mem_singleton.mp hb]
      intro e
      rw [e] at ha
      exact hn ha⟩
theorem zip_gather {R : Result → Shared → Prop} (hh : A.in1.handled = none) (D : ZipApart z TI TO i1 i2 l1 l2) (hl : z < lo ∧ TO < lo ∧ i1 < lo ∧ i2 < lo) (hS : S < lo) (S1 : S ≠ z) (S2 : S ≠ TI) (S3 : S ≠ TO) (S4 : S ≠ i1) (S5 : S ≠ i2) (S6 : S ≠ l1) (S7 : S ≠ l2) (hn : min xs.size ys.size ≤ sizeLine) (res : Value) :
    ∀ (k : Nat) (s : Shared) (Ts : List Addr) (c : Nat), min xs.size ys.size - Ts.length = k → Ts.length ≤ min xs.size ys.size → lo ≤ s.heap.objs.size → ZSt z TI TO i1 i2 l1 l2 lo xs ys s.heap Ts →
    s.heap.get? S = some { cls := .type "list", dict := none, data := .seq (Ts.map Value.ref).toArray c, slots := #[] } →
    (∀ (s' : Shared) (Ts' : List Addr) (c' : Nat), s'.gens = s.gens → s'.os = s.os → (∀ (j : Nat) (T : Addr), Ts'[j]? = some T → ∃ x y, xs[j]? = some x ∧ ys[j]? = some y ∧ IsPair s'.heap T x y) → (∀ T ∈ Ts', lo ≤ T) → Ts'.Nodup → Ts'.length = min xs.size ys.size → s'.heap.get? S = some { cls := .type "list", dict := none, data := .seq (Ts'.map Value.ref).toArray c', slots := #[] } →
      (∀ b o, b ≠ S → b ≠ z → b ≠ TO → b ≠ i1 → b ≠ i2 → s.heap.get? b = some o → s'.heap.get? b = some o) → R (.ok (.ret res)) s') →
    codeAny (model P w) A (.builtin "list.extend.loop" ⟨[.ref S, .ref z, res], []⟩) R s := by
  intro k
  induction k with
  | zero =>
    intro s Ts c hk hle hlo Z hSo hR
    have hlen : Ts.length = min xs.size ys.size := by omega
    refine codeAny_builtin F.entry_extend_loop ?_; rw [Around.under_plainId F.plain_extend_loop _]
    show wpAny _ A.in1 (pyNext (.ref z) >>= _) _ _ s
    have hend : xs[Ts.length]? = none ∨ ys[Ts.length]? = none := by
      rcases Nat.le_total xs.size ys.size with q | q
      · exact .inl (Array.getElem?_eq_none (by omega))
      · exact .inr (Array.getElem?_eq_none (by omega))
    have fin : ∀ h' : Heap, (∀ c o, c ≠ z → c ≠ TO → c ≠ i1 → c ≠ i2 → s.heap.get? c = some o → h'.get? c = some o) → R (.ok (.ret res)) { s with heap := h' } := fun h' kk => by
      refine hR { s with heap := h' } Ts c rfl rfl (fun j T hj => ?_) Z.fr Z.nd hlen (kk _ _ S1 S3 S4 S5 hSo) (fun b o _ b2 b3 b4 b5 e => kk b o b2 b3 b4 b5 e)
      obtain ⟨x, y, e1, e2, p⟩ := Z.prs j T hj
      have hT := Z.fr T (List.mem_of_getElem? hj)
      exact ⟨x, y, e1, e2, kk _ _ (ne_lo hl.1 hT) (ne_lo hl.2.1 hT) (ne_lo hl.2.2.1 hT) (ne_lo hl.2.2.2 hT) p⟩
    rcases Z.z with ⟨e, q, a, b, r⟩ | ⟨T, f, hT, q⟩
    · refine wpAny_bind (wpAny_pyNext_zip_end hh D q Z.ti r Z.a1 Z.a2 Z.b1 Z.b2 hend fun h' kk => ?_)
      exact wpAny_pure (fin h' kk)
    · obtain ⟨oT, eT⟩ := Z.at_T hT
      refine wpAny_bind (wpAny_pyNext_zip_end_held hh D q eT Z.ti Z.a1 Z.a2 Z.b1 Z.b2 hend fun h' kk => ?_)
      exact wpAny_pure (fin h' fun c o c1 _ c3 c4 e => kk c o c1 c3 c4 e)
  | succ k ih =>
    intro s Ts c hk hle hlo Z hSo hR
    have hlt : Ts.length < min xs.size ys.size := by omega
    have hx : Ts.length < xs.size := by omega
    have hy : Ts.length < ys.size := by omega
    have e1 : xs[Ts.length]? = some xs[Ts.length] := Array.getElem?_eq_getElem hx
    have e2 : ys[Ts.length]? = some ys[Ts.length] := Array.getElem?_eq_getElem hy
    refine codeAny_builtin F.entry_extend_loop ?_; rw [Around.under_plainId F.plain_extend_loop _]
    show wpAny _ A.in1 (pyNext (.ref z) >>= _) _ _ s
    have go : ∀ h' : Heap, h'.objs.size = s.heap.objs.size + 1 → ZSt z TI TO i1 i2 l1 l2 lo xs ys h' (Ts ++ [s.heap.objs.size]) → (∀ c o, c ≠ z → c ≠ TO → c ≠ i1 → c ≠ i2 → s.heap.get? c = some o → h'.get? c = some o) →
        wpAny (model P w) A.in1 (updateSeq S (·.push (Value.ref s.heap.objs.size)) >>= fun _ => again (.builtin "list.extend.loop" ⟨[.ref S, .ref z, res], []⟩)) (fun fin s' => match fin with | .done f => R (.ok f) s' | .again c' => c'.quiet = true ∧ codeAny (model P w) A c' R s') (fun e s' => R (.error e) s') { s with heap := h' } := fun h' hsz Z' kk => by
      have hS' : h'.get? S = some { cls := .type "list", dict := none, data := .seq (Ts.map Value.ref).toArray c, slots := #[] } := kk _ _ S1 S3 S4 S5 hSo
      have hlen1 : ((Ts.map Value.ref).toArray).size = Ts.length := by simp
      refine wpAny_bind ?_
      refine wpAny_updateSeq (s := { s with heap := h' }) hS' rfl (wpAny_pure ⟨plainId_quiet F.plain_extend_loop _, ?_⟩) (by rw [hlen1]; omega) (by show ((Ts.map Value.ref).toArray.push _).size ≤ sizeLine + 1; rw [Array.size_push, hlen1]; omega)
      have hS2 := Heap.get?_update_self (Obj.mapSeq (·.push (Value.ref s.heap.objs.size))) hS' rfl
      have kS : ∀ b o, b ≠ S → h'.get? b = some o → (h'.update S (Obj.mapSeq (·.push (Value.ref s.heap.objs.size)))).get? b = some o := fun b o hb e => (Heap.get?_update_other _ _ (Ne.symm hb)).trans e
      have eA : (Ts.map Value.ref).toArray.push (Value.ref s.heap.objs.size) = ((Ts ++ [s.heap.objs.size]).map Value.ref).toArray := by simp
      refine ih _ (Ts ++ [s.heap.objs.size]) _ (by rw [List.length_append]; show _ - (Ts.length + 1) = k; omega) (by rw [List.length_append]; show Ts.length + 1 ≤ _; omega) ?_ (Z'.keep hS S1 S2 S3 S4 S5 S6 S7 kS) (by rw [← eA]; exact hS2) (fun s' Ts' c' g1 g2 g3 g4 g5 g6 g7 g8 => ?_)
      · show lo ≤ (h'.update S _).objs.size
        rw [(Heap.SameBut.update h' S _).1, hsz]
        omega
      · exact hR s' Ts' c' g1 g2 g3 g4 g5 g6 g7 fun b o b1 b2 b3 b4 b5 e => g8 b o b1 b2 b3 b4 b5 (kS b o b1 (kk b o b2 b3 b4 b5 e))
    rcases Z.z with ⟨e, q, a, b, r⟩ | ⟨T, f, hT, q⟩
    · refine wpAny_bind (wpAny_pyNext_zip_item D q Z.ti r Z.a1 Z.a2 Z.b1 Z.b2 e1 e2 fun h' d1 d2 d3 d4 d5 d6 kk => ?_)
      exact go h' d6 (Z.more D hlo hl (f := false) (.inl d1) d3 d4 d5 e1 e2 kk) kk
    · obtain ⟨oT, eT⟩ := Z.at_T hT
      refine wpAny_bind (wpAny_pyNext_zip_item_held D q eT Z.ti Z.a1 Z.a2 Z.b1 Z.b2 e1 e2 fun h' d1 d3 d4 d5 d6 kk => ?_)
      exact go h' d6 (Z.more D hlo hl (f := true) (.inr ⟨T, hT, d1⟩) d3 d4 d5 e1 e2 fun c o c1 _ c3 c4 e => kk c o c1 c3 c4 e) fun c o c1 _ c3 c4 e => kk c o c1 c3 c4 e
end
end G
/-! My base, part 15: list(zip(..)), the call. -/
namespace G
open PySem PySem.Spec PyProof.Rows L2 TL
section
variable {P : Program} {w : World} {A : Around} {E : Value → Shared → Prop} {s : Shared} {z TI TO i1 i2 l1 l2 S : Addr} {lo : Nat} {xs ys : Array Value}
theorem zip_extend {R : Result → Shared → Prop} (hh : A.handled = none) (D : ZipApart z TI TO i1 i2 l1 l2) (hl : z < lo ∧ TO < lo ∧ i1 < lo ∧ i2 < lo) (hS : S < lo) (S1 : S ≠ z) (S2 : S ≠ TI) (S3 : S ≠ TO) (S4 : S ≠ i1) (S5 : S ≠ i2) (S6 : S ≠ l1) (S7 : S ≠ l2) (hn : min xs.size ys.size ≤ sizeLine) (res : Value)
    (c0 : Nat) (hlo : lo ≤ s.heap.objs.size) (Z : ZSt z TI TO i1 i2 l1 l2 lo xs ys s.heap []) (hSo : s.heap.get? S = some { cls := .type "list", dict := none, data := .seq #[] c0, slots := #[] })
    (hR : ∀ (s' : Shared) (Ts' : List Addr) (c' : Nat), s'.gens = s.gens → s'.os = s.os → (∀ (j : Nat) (T : Addr), Ts'[j]? = some T → ∃ x y, xs[j]? = some x ∧ ys[j]? = some y ∧ IsPair s'.heap T x y) → (∀ T ∈ Ts', lo ≤ T) → Ts'.Nodup → Ts'.length = min xs.size ys.size → s'.heap.get? S = some { cls := .type "list", dict := none, data := .seq (Ts'.map Value.ref).toArray c', slots := #[] } →
      (∀ b o, b ≠ S → b ≠ z → b ≠ TO → b ≠ i1 → b ≠ i2 → s.heap.get? b = some o → s'.heap.get? b = some o) → R (.ok (.ret res)) s') :
    wpAny (model P w) A.in1 (Builtin.List.listExtendWith (.ref S) (.ref z) res) (fun fin s' => match fin with | .done f => R (.ok f) s' | .again c' => c'.quiet = true ∧ codeAny (model P w) A c' R s') (fun e s' => R (.error e) s') s := by
  have hh1 : A.in1.handled = none := by simp [hh]
  obtain ⟨q0, q, ta, tb, tr⟩ : ([] : List Addr) = [] ∧ IsZip s.heap z TI TO .none ∧ ∃ a b, IsPair s.heap TO a b := by
    rcases Z.z with h | ⟨T, f, hT, _⟩
    · exact h
    · exact nomatch hT
  have hT : s.TypeIs (.ref z) "zip" := ⟨_, q, rfl⟩
  unfold Builtin.List.listExtendWith; refine wpAny_bind (wpAny_typeOf hT ?_)
  have m1 : Builtin.List.listSameRef (.ref S) (.ref z) = false := by simp [Builtin.List.listSameRef, S1]
  have m2 : (Value.type "zip" == Value.type "list") = false := by decide
  have m3 : (Value.type "zip" == Value.type "tuple") = false := by decide
  simp only [m1, m2, m3, Bool.or_false, Bool.false_eq_true, if_false]
  refine wpAny_bind (wpAny_pyIter_zip q ?_)
  refine wpAny_bind (wpAny_holding ?_); unfold Builtin.List.listLengthHint
  refine wpAny_bind (wpAny_specialOf hT zip_nolen ?_)
  show wpAny _ A.in1 (specialOf (Value.ref z) (Str.ofString "__length_hint__") >>= _) _ _ _
  refine wpAny_bind (wpAny_specialOf hT zip_nohint ?_); refine wpAny_pure ?_
  show wpAny _ A.in1 (rule "list.extend.makes-room" >>= fun _ => Builtin.List.listTouch (.ref S) >>= fun _ => again (.builtin "list.extend.loop" ⟨[.ref S, .ref z, res], []⟩)) _ _ _
  refine wpAny_bind (wpAny_rule ?_); refine wpAny_bind ?_
  show wpAny _ A.in1 (updateSeq S (·.push .none) >>= fun _ => updateSeq S (·.pop)) _ _ _
  refine wpAny_bind (wpAny_updateSeq hSo rfl ?_)
  have hS2 := Heap.get?_update_self (Obj.mapSeq (·.push Value.none)) hSo rfl
  refine wpAny_updateSeq (hz := by seq_fits) hS2 rfl ?_
  have hS3 := Heap.get?_update_self (Obj.mapSeq (·.pop)) hS2 rfl
  have oth : ∀ b o, b ≠ S → s.heap.get? b = some o → ((s.heap.update S (Obj.mapSeq (·.push Value.none))).update S (Obj.mapSeq (·.pop))).get? b = some o := fun b o hb e => (Heap.get?_update_other _ _ (Ne.symm hb)).trans ((Heap.get?_update_other _ _ (Ne.symm hb)).trans e)
  refine wpAny_pure ⟨plainId_quiet F.plain_extend_loop _, zip_gather hh1 D hl hS S1 S2 S3 S4 S5 S6 S7 hn res (min xs.size ys.size) _ [] _ rfl (Nat.zero_le _) ?_ (Z.keep hS S1 S2 S3 S4 S5 S6 S7 oth) hS3 fun s' Ts' c' g1 g2 g3 g4 g5 g6 g7 g8 => ?_⟩
  · show lo ≤ ((s.heap.update S _).update S _).objs.size
    rw [(Heap.SameBut.update _ S _).1, (Heap.SameBut.update _ S _).1]
    exact hlo
  · exact hR s' Ts' c' g1 g2 g3 g4 g5 g6 g7 fun b o b1 b2 b3 b4 b5 e => g8 b o b1 b2 b3 b4 b5 (oth b o b1 e)
theorem list_zip {Q : Value → Shared → Prop} (hh : A.handled = none) (D : ZipApart z TI TO i1 i2 l1 l2) (hl : z < s.heap.objs.size ∧ TO < s.heap.objs.size ∧ i1 < s.heap.objs.size ∧ i2 < s.heap.objs.size ∧ TI < s.heap.objs.size ∧ l1 < s.heap.objs.size ∧ l2 < s.heap.objs.size) (hn : min xs.size ys.size ≤ sizeLine)
    (hz : IsZip s.heap z TI TO .none) (hTI : IsPair s.heap TI (.ref i1) (.ref i2)) {a b : Value} (hTO : IsPair s.heap TO a b) (a1 : s.heap.IsListIter i1 l1 0) (a2 : s.heap.IsListIter i2 l2 0) (b1 : s.heap.IsList l1 xs) (b2 : s.heap.IsList l2 ys)
    (hq : ∀ (s' : Shared) (Ts' : List Addr) (c' : Nat), s'.gens = s.gens → s'.os = s.os → (∀ (j : Nat) (T : Addr), Ts'[j]? = some T → ∃ x y, xs[j]? = some x ∧ ys[j]? = some y ∧ IsPair s'.heap T x y) → (∀ T ∈ Ts', s.heap.objs.size + 1 ≤ T) → Ts'.Nodup → Ts'.length = min xs.size ys.size → s'.heap.get? s.heap.objs.size = some { cls := .type "list", dict := none, data := .seq (Ts'.map Value.ref).toArray c', slots := #[] } →
      (∀ b o, b ≠ z → b ≠ TO → b ≠ i1 → b ≠ i2 → s.heap.get? b = some o → s'.heap.get? b = some o) → Q (.ref s.heap.objs.size) s') :
    wpAny (model P w) A (call (.type "list") [.ref z]) Q E s := by
  obtain ⟨z1, z2, z3, z4, z5, z6, z7⟩ := hl
  refine callType_codes (Q₁ := fun ob s₁ => ob = .ref s.heap.objs.size ∧ s₁ = { s with heap := s.heap.push { cls := .type "list", data := .seq #[] } }) F.called_list (F.typeCall_list_1 _) F.entry_list_init (code_list_new _ ⟨rfl, rfl⟩) fun ob s₁ h₁ => ?_
  obtain ⟨rfl, rfl⟩ := h₁
  have hSo : (s.heap.push { cls := .type "list", data := .seq #[] }).get? s.heap.objs.size = some { cls := .type "list", data := .seq #[] } := Heap.get?_push_size _ rfl
  have hsz : (s.heap.push { cls := .type "list", data := .seq #[] }).objs.size = s.heap.objs.size + 1 := Heap.size_push ..
  have up : ∀ b o, s.heap.get? b = some o → (s.heap.push { cls := .type "list", data := .seq #[] }).get? b = some o := fun b o e => Heap.get?_push_of_some _ e
  refine ⟨⟨_, hSo, rfl⟩, F.args_list_init_2 _ _, ?_⟩
  show wpAny _ _ (do let old ← Builtin.List.listItems (.ref s.heap.objs.size); Builtin.List.listUpdate (.ref s.heap.objs.size) (fun _ => #[]); letGo old.toList.reverse; Builtin.List.listExtendWith (.ref s.heap.objs.size) (.ref z) .none) _ _ _
  refine wpAny_bind ?_; unfold Builtin.List.listItems
  refine wpAny_bind (wpAny_seqItems hSo rfl (wpAny_pure ?_))
  show wpAny _ _ (updateSeq s.heap.objs.size (fun _ => #[]) >>= fun _ => letGo (#[] : Array Value).toList.reverse >>= fun _ => Builtin.List.listExtendWith (.ref s.heap.objs.size) (.ref z) .none) _ _ _
  refine wpAny_bind (wpAny_updateSeq hSo rfl ?_)
  have hS2 := Heap.get?_update_self (Obj.mapSeq (fun _ => (#[] : Array Value))) hSo rfl
  have oth : ∀ b o, b ≠ s.heap.objs.size → s.heap.get? b = some o → ((s.heap.push { cls := .type "list", data := .seq #[] }).update s.heap.objs.size (Obj.mapSeq (fun _ => (#[] : Array Value)))).get? b = some o := fun b o hb e => (Heap.get?_update_other _ _ (Ne.symm hb)).trans (up b o e)
  refine wpAny_bind (wpAny_letGo ?_)
  have ne : ∀ {b : Addr}, b < s.heap.objs.size → b ≠ s.heap.objs.size := fun hb => Nat.ne_of_lt hb
  refine zip_extend (lo := s.heap.objs.size + 1) (by simp [hh]) D ⟨Nat.lt_succ_of_lt z1, Nat.lt_succ_of_lt z2, Nat.lt_succ_of_lt z3, Nat.lt_succ_of_lt z4⟩ (Nat.lt_succ_self _) (ne z1).symm (ne z5).symm (ne z2).symm (ne z3).symm (ne z4).symm (ne z6).symm (ne z7).symm hn .none _ ?_
    ⟨oth _ _ (ne z5) hTI, .inl ⟨rfl, oth _ _ (ne z1) hz, a, b, oth _ _ (ne z2) hTO⟩, a1.at fun o e => oth _ o (ne z3) e, a2.at fun o e => oth _ o (ne z4) e, b1.at fun o e => oth _ o (ne z6) e, b2.at fun o e => oth _ o (ne z7) e, (fun j T hj => by simp at hj), (fun T hT => nomatch hT), List.nodup_nil⟩ hS2 (fun s' Ts' c' g1 g2 g3 g4 g5 g6 g7 g8 => ?_)
  · show _ ≤ ((s.heap.push _).update _ _).objs.size
    rw [(Heap.SameBut.update _ _ _).1, hsz]
    exact Nat.le_refl _
  · exact ⟨rfl, hq s' Ts' c' g1 g2 g3 g4 g5 g6 g7 fun b o b2 b3 b4 b5 e => g8 b o (Nat.ne_of_lt (Heap.lt_size e)) b2 b3 b4 b5 (oth b o (Nat.ne_of_lt (Heap.lt_size e)) e)⟩
end
end G
/-! My base, part 16: list(zip(..)), the rule; many new pairs. -/
namespace G
open PySem PySem.Spec PyProof.Rows L2 TL
/-- pairs that are laid, one behind another -/
def tupsU (H : Hp) : List (Addr × V × V) → Hp
  | [] => H
  | q :: l => tupsU (upd H q.1 (.tup [q.2.1, q.2.2])) l
structure NewP (H : Hp) (l : List (Addr × V × V)) : Prop where
  none : ∀ q ∈ l, H q.1 = none
  nd : (l.map (·.1)).Nodup
theorem NewP.tail {H : Hp} {q : Addr × V × V} {l : List (Addr × V × V)} (n : NewP H (q :: l)) {o : HO} : NewP (upd H q.1 o) l := by
  have hd := List.nodup_cons.mp (show (q.1 :: l.map (·.1)).Nodup from n.nd)
  refine ⟨fun r hr => ?_, hd.2⟩
  rw [upd_ne (fun e => hd.1 (by rw [← e]; exact List.mem_map.mpr ⟨r, hr, rfl⟩))]
  exact n.none r (List.mem_cons_of_mem _ hr)
theorem tupsU_at : ∀ {l : List (Addr × V × V)} {H : Hp} {a : Addr}, (∀ q ∈ l, q.1 ≠ a) → tupsU H l a = H a
  | [], _, _, _ => rfl
  | q :: l, H, a, h => by
    show tupsU _ l a = _
    rw [tupsU_at fun r hr => h r (List.mem_cons_of_mem _ hr), upd_ne (h q (List.mem_cons_self ..)).symm]
theorem tupsU_in : ∀ {l : List (Addr × V × V)} {H : Hp} {q : Addr × V × V}, (l.map (·.1)).Nodup → q ∈ l → tupsU H l q.1 = some (.tup [q.2.1, q.2.2])
  | r :: l, H, q, hn, hq => by
    have hd := List.nodup_cons.mp (show (r.1 :: l.map (·.1)).Nodup from hn)
    show tupsU _ l q.1 = _
    rcases List.mem_cons.mp hq with rfl | hq
    · rw [tupsU_at fun z hz e => hd.1 (by rw [← e]; exact List.mem_map.mpr ⟨z, hz, rfl⟩), upd_same]
    · exact tupsU_in hd.2 hq
theorem tupsU_gr {M : Addr → Prop} : ∀ {l : List (Addr × V × V)} {F0 H0 F H : Hp}, Gr M F0 H0 F H → NewP H l → Gr M F0 H0 (tupsU F l) (tupsU H l)
  | [], _, _, _, _, g, _ => g
  | q :: l, F0, H0, F, H, g, n => by
    show Gr M F0 H0 (tupsU (upd F q.1 (.tup [q.2.1, q.2.2])) l) (tupsU (upd H q.1 (.tup [q.2.1, q.2.2])) l)
    exact tupsU_gr (g.frz (n.none q (List.mem_cons_self ..))) n.tail
theorem tupsU_RL {α β : Type} [Enc α] [Enc β] {K : PySem.W.Frag} {F : Hp} : ∀ {l : List (Addr × V × V)} {xs : List α} {ys : List β}, (l.map (·.1)).Nodup → (∀ q ∈ l, F q.1 = some (.tup [q.2.1, q.2.2])) → RL K F (l.map (·.2.1)) xs → RL K F (l.map (·.2.2)) ys →
    RL K F (l.map fun q => V.ref q.1) (xs.zip ys)
  | [], _, _, _, _, h1, h2 => by
    have e1 := RL.len h1
    have e3 : ∀ {γ : Type} (z : List γ), ([] : List V).length = z.length → z = [] := fun z h => List.eq_nil_of_length_eq_zero h.symm
    rw [e3 _ e1]
    exact RpA.nil
  | q :: l, [], _, _, _, h1, _ => by cases h1
  | q :: l, _ :: _, [], _, _, _, h2 => by cases h2
  | q :: l, x :: xs, y :: ys, hn, hF, h1, h2 => by
    cases h1 with
    | cons r1 h1 =>
      cases h2 with
      | cons r2 h2 =>
        have hd := List.nodup_cons.mp (show (q.1 :: l.map (·.1)).Nodup from hn)
        exact RL.cons (R.mk2 (hF q (List.mem_cons_self ..)) r1 r2) (tupsU_RL hd.2 (fun z hz => hF z (List.mem_cons_of_mem _ hz)) h1 h2)
theorem HOk.track {P : Program} {w : World} {H : Hp} {h : Heap} {a : Addr} {o : HO} (x : HOk P w H h) (hn : H a = none) (new : ObjOk P w (upd H a o) h a o) : HOk P w (upd H a o) h := fun b u e => by
  by_cases hb : b = a
  · subst hb; rw [upd_same] at e; cases e; exact new
  · rw [upd_ne hb] at e
    exact (x b u e).stay (fun c v _ q => q) (fun c q => by rw [upd_ne (ne_of_none q hn)]; exact q) fun c zs q => by rw [upd_ne (ne_of_none q hn)]; exact q
theorem HOk.tracks {P : Program} {w : World} {h : Heap} : ∀ {l : List (Addr × V × V)} {H : Hp}, HOk P w H h → NewP H l → (∀ q ∈ l, ∃ x y, IsPair h q.1 x y ∧ RelV q.2.1 x ∧ RelV q.2.2 y) → HOk P w (tupsU H l) h
  | [], _, x, _, _ => x
  | q :: l, H, x, n, hp => by
    obtain ⟨a, b, p, r1, r2⟩ := hp q (List.mem_cons_self ..)
    refine HOk.tracks (l := l) (H := upd H q.1 (.tup [q.2.1, q.2.2])) (HOk.track x (n.none q (List.mem_cons_self ..)) ⟨by show 2 ≤ sizeLine; decide, [a, b], .cons r1 (.cons r2 .nil), ⟨_, p, rfl, _, rfl⟩⟩) n.tail fun z hz => hp z (List.mem_cons_of_mem _ hz)
theorem vals_refs : ∀ Ts : List Addr, Vals (Ts.map V.ref) (Ts.map Value.ref)
  | [] => .nil
  | _ :: Ts => .cons rfl (vals_refs Ts)
section
variable {X : Cx}
/-- list(zip(xs, ys)) of two lists -/
def tLZip (K : PySem.W.Frag) (ta : TA) : TE := fun σ H Q => ta σ H fun vs H1 => ∃ (a b : Addr) (xs ys : List V), vs = [.ref a, .ref b] ∧ SqL K H1 a xs ∧ SqL K H1 b ys ∧
  ∀ (l : List (Addr × V × V)) (p : Addr), NewP H1 l → l.map (·.2.1) = xs.take (min xs.length ys.length) → l.map (·.2.2) = ys.take (min xs.length ys.length) → tupsU H1 l p = none → Q (.ref p) (upd (tupsU H1 l) p (.lst (l.map fun q => V.ref q.1)))
theorem pe_lzip {e e2 : Expr} {ta : TA} {p p2 q pos : Pos} (hc : X.calm = true) (hg : Gl X "list") (hm : X.mg "list" = none) (hg2 : Gl X "zip") (hm2 : X.mg "zip" = none) (ha : PA X [e, e2] ta)
    (hs : starEach [e, e2] X.env = (false, eval e X.env) :: starEach [e2] X.env := by rfl) (hpl : (backTo q (starEach [e2] X.env)).any (·.1) = false := by rfl) :
    PE X (.Call (.Name "list" p) [.Call (.Name "zip" p2) [e, e2] [] q] [] pos) (tLZip X.K ta) := by
  refine ⟨fun pins s σ H Q I h => ?_⟩
  refine Call_ (ld_blt I hg hm (u := .type "list") (by decide +kernel) ?_)
  refine PyProof.Rows.callWith_type1 (PyProof.Rows.args_cons ?_ rfl) rfl rfl
  refine Call_ (ld_blt I hg2 hm2 PyProof.Rows.boot_zip (PyProof.Rows.callWith_type1 (thn (ha.run q pins s σ H _ I h) fun us s1 ⟨vs, H1, I1, r1, q1⟩ => ?_) hs hpl))
  obtain ⟨a, b, xs, ys, ex, hqx, hqy, q1⟩ := q1
  subst ex
  obtain ⟨u1, u2, rfl, ra, rb⟩ := vals2 r1
  cases (show u1 = Value.ref a from ra)
  cases (show u2 = Value.ref b from rb)
  obtain ⟨its, rv, p1, hz1⟩ := I1.list hqx
  obtain ⟨its2, rv2, pq2, hz2⟩ := I1.list hqy
  have la : a < s1.heap.objs.size := p1.lt
  have lb : b < s1.heap.objs.size := pq2.lt
  refine call_zip_2 p1.isList pq2.isList fun h' hz hTI hTO h1 h2 hsz hk => ?_
  refine PyProof.Rows.args_nil ?_
  have hmin : min its.toArray.size its2.toArray.size = min xs.length ys.length := by simp [← rv.length, ← rv2.length]
  refine list_zip (s := { s1 with heap := h' }) (I1.ok.hd hc) (PySem.W.ktu_apart s1.heap.objs.size a b la lb) ?_ (by rw [hmin]; exact Nat.le_trans (Nat.min_le_left _ _) hz1) hz hTI hTO h1 h2 (p1.isList.at fun o e => hk a o e) (pq2.isList.at fun o e => hk b o e) fun s' Ts c g1 g2 g3 g4 g5 g6 g7 g8 => ?_
  · show _ < h'.objs.size ∧ _ < h'.objs.size ∧ _ < h'.objs.size ∧ _ < h'.objs.size ∧ _ < h'.objs.size ∧ a < h'.objs.size ∧ b < h'.objs.size
    rw [hsz]
    have la' : (a : Nat) < s1.heap.objs.size := la
    have lb' : (b : Nat) < s1.heap.objs.size := lb
    refine ⟨?_, ?_, ?_, ?_, ?_, ?_, ?_⟩ <;> (first | exact Nat.lt_succ_self _ | exact Nat.add_lt_add_left (by decide) _ | exact Nat.lt_of_lt_of_le la (Nat.le_add_right _ _) | exact Nat.lt_of_lt_of_le lb (Nat.le_add_right _ _) | exact Nat.lt_add_of_pos_right (by decide))
  · have hsz' : h'.objs.size = s1.heap.objs.size + 5 := hsz
    have kept : ∀ b o, s1.heap.get? b = some o → s'.heap.get? b = some o := fun b o e => by
      have hb := Heap.lt_size e
      exact g8 b o (Nat.ne_of_lt (Nat.lt_of_lt_of_le hb (Nat.le_add_right _ _))) (Nat.ne_of_lt (Nat.lt_of_lt_of_le hb (Nat.le_add_right _ _))) (Nat.ne_of_lt hb) (Nat.ne_of_lt (Nat.lt_of_lt_of_le hb (Nat.le_add_right _ _))) (hk b o e)
    generalize hn : min xs.length ys.length = n at hmin
    have hl1 : (xs.take n).length = n := by rw [List.length_take]; omega
    have hl2 : (ys.take n).length = n := by rw [List.length_take]; omega
    have hT : Ts.length = n := g6.trans hmin
    have hz2' : ((xs.take n).zip (ys.take n)).length = n := by rw [List.length_zip, hl1, hl2, Nat.min_self]
    obtain ⟨l, hl⟩ : ∃ l, l = Ts.zip ((xs.take n).zip (ys.take n)) := ⟨_, rfl⟩
    have m1 : l.map (·.1) = Ts := by rw [hl]; exact List.map_fst_zip (by rw [hT, hz2']; exact Nat.le_refl _)
    have m2 : l.map (·.2) = (xs.take n).zip (ys.take n) := by rw [hl]; exact List.map_snd_zip (by rw [hT, hz2']; exact Nat.le_refl _)
    have m3 : l.map (·.2.1) = xs.take n := by
      have : (l.map (·.2)).map (·.1) = xs.take n := by rw [m2]; exact List.map_fst_zip (by rw [hl1, hl2]; exact Nat.le_refl _)
      rwa [List.map_map] at this
    have m4 : l.map (·.2.2) = ys.take n := by
      have : (l.map (·.2)).map (·.2) = ys.take n := by rw [m2]; exact List.map_snd_zip (by rw [hl1, hl2]; exact Nat.le_refl _)
      rwa [List.map_map] at this
    have m5 : (l.map fun q => V.ref q.1) = Ts.map V.ref := by rw [← m1, List.map_map]; rfl
    have hTlo : ∀ T ∈ Ts, s1.heap.objs.size + 6 ≤ T := fun T hm => by
      have := g4 T hm
      have e : h'.objs.size + 1 = s1.heap.objs.size + 6 := by rw [hsz']
      rw [← e]
      exact this
    have newp : NewP H1 l := ⟨fun q hq => I1.hok.fresh (Nat.le_trans (Nat.le_add_right _ 6) (hTlo q.1 (by rw [← m1]; exact List.mem_map.mpr ⟨q, hq, rfl⟩))), by rw [m1]; exact g5⟩
    have hp0 : ∀ q ∈ l, q.1 ≠ h'.objs.size := fun q hq e => by
      have := g4 q.1 (by rw [← m1]; exact List.mem_map.mpr ⟨q, hq, rfl⟩)
      rw [e] at this
      exact absurd this (Nat.not_succ_le_self _)
    have hpn : tupsU H1 l h'.objs.size = none := by
      rw [tupsU_at hp0]
      exact I1.hok.fresh (by rw [hsz']; exact Nat.le_add_right _ _)
    have prs : ∀ q ∈ l, ∃ x y, IsPair s'.heap q.1 x y ∧ RelV q.2.1 x ∧ RelV q.2.2 y := fun q hq => by
      obtain ⟨j, hj⟩ := List.getElem?_of_mem hq
      have j1 : Ts[j]? = some q.1 := by rw [← m1, List.getElem?_map, hj]; rfl
      have j2 : (xs.take n)[j]? = some q.2.1 := by rw [← m3, List.getElem?_map, hj]; rfl
      have j3 : (ys.take n)[j]? = some q.2.2 := by rw [← m4, List.getElem?_map, hj]; rfl
      obtain ⟨x, y, e1, e2, pr⟩ := g3 j q.1 j1
      have k2 : xs[j]? = some q.2.1 := by
        have := List.getElem?_take_of_lt (l := xs) (show j < n by rw [← hT]; exact (List.getElem?_eq_some_iff.mp j1).1)
        rw [← this]
        exact j2
      have k3 : ys[j]? = some q.2.2 := by
        have := List.getElem?_take_of_lt (l := ys) (show j < n by rw [← hT]; exact (List.getElem?_eq_some_iff.mp j1).1)
        rw [← this]
        exact j3
      obtain ⟨w1, f1, r1⟩ := rv.get k2
      obtain ⟨w2, f2, r2⟩ := rv2.get k3
      have x1 : w1 = x := by
        have : its[j]? = some x := by simpa using e1
        rw [f1] at this
        exact Option.some.inj this
      have x2 : w2 = y := by
        have : its2[j]? = some y := by simpa using e2
        rw [f2] at this
        exact Option.some.inj this
      exact ⟨x, y, pr, x1 ▸ r1, x2 ▸ r2⟩
    have old : ∀ b, b < s1.heap.objs.size → upd (tupsU H1 l) h'.objs.size (.lst (l.map fun q => V.ref q.1)) b = H1 b := fun b hb => by
      rw [upd_ne (Nat.ne_of_lt (Nat.lt_of_lt_of_le hb (by rw [hsz']; exact Nat.le_add_right _ _)))]
      refine tupsU_at fun q hq e => ?_
      have := hTlo q.1 (by rw [← m1]; exact List.mem_map.mpr ⟨q, hq, rfl⟩)
      rw [e] at this
      exact absurd (Nat.lt_of_lt_of_le hb (Nat.le_trans (Nat.le_add_right _ 6) this)) (Nat.lt_irrefl _)
    have oldS : ∀ {b : Addr} {o : HO}, H1 b = some o → upd (tupsU H1 l) h'.objs.size (.lst (l.map fun q => V.ref q.1)) b = some o := fun e => by rw [old _ (I1.hok.lt e)]; exact e
    have hok : HOk X.prog X.w (upd (tupsU H1 l) h'.objs.size (.lst (l.map fun q => V.ref q.1))) s'.heap :=
      HOk.track (HOk.tracks (I1.hok.kept kept) newp prs) hpn ⟨by rw [m5, List.length_map, hT, ← hn]; exact Nat.le_trans (Nat.min_le_left _ _) hz1, Ts.map Value.ref, c, by rw [m5]; exact vals_refs Ts, g7⟩
    have un : Un (frs X.stack) [] H1 (upd (tupsU H1 l) h'.objs.size (.lst (l.map fun q => V.ref q.1))) s1.heap s'.heap :=
      ⟨fun b o e _ _ _ => kept b o e, fun b o e _ _ _ => ⟨o.slots, kept b o e⟩, fun b o e n _ => by rw [old b (Heap.lt_size e)]; exact n, fun b o e _ => ⟨o, kept b o e⟩, fun b zs e => oldS e, fun b o u e => oldS e, fun b ps e => ⟨#[], by rw [oldS e]; simp⟩⟩
    have J : Inv X pins σ (upd (tupsU H1 l) h'.objs.size (.lst (l.map fun q => V.ref q.1))) s' := Inv.call' (ch := []) I1 g2 un hok (by rw [g1]; exact I1.bare) (fun _ z => nomatch z)
    exact ⟨.ref h'.objs.size, _, J, rfl, q1 l h'.objs.size newp (by rw [m3, hn]) (by rw [m4, hn]) hpn⟩
end
end G
/-! My base, part 17: xs.extend(a tuple). -/
namespace G
open PySem PySem.Spec PyProof.Rows L2 TL
theorem ext_tup (l : Addr) (xs : Array Value) (n : Nat) (b : Addr) (ys : Array Value) (n2 : Nat) (dd : Option Addr) (sl : Array (Option Value)) (h0 : ¬(!xs.isEmpty && Builtin.List.listTooLong (xs.size + ys.size)) = true) (h1 : xs.size ≤ sizeLine) (h2 : xs.size + ys.size ≤ sizeLine + 1) :
    Meets (Builtin.«list.extend» ⟨[.ref l, .ref b], []⟩) (fun _ R s => s.heap.get? l = some { cls := .type "list", dict := none, data := .seq xs n, slots := #[] } ∧ s.heap.get? b = some { cls := .type "tuple", dict := dd, data := .seq ys n2, slots := sl } ∧ R (.ok (.ret Value.none)) { s with heap := s.heap.update l (Obj.mapSeq fun x => x ++ ys), toks := s.toks }) :=
  .of_wp fun prog w A R s h => by
    obtain ⟨hp, g, d, tk, os⟩ := s; obtain ⟨hl, hb, h⟩ := h; have q1 := AutoSeq1.idx_int; have q2 := AutoSeq1.sub_tuple_tuple; have q3 := AutoSeq1.sub_list_list; have q4 := AutoSeq1.sub_tuple_list; have q5 := AutoSeq1.sub_list_tuple
    have hz : (xs ++ ys).size ≤ sizeLine + 1 := by rw [Array.size_append]; exact h2
    wp_walk using (wpAny_updateSeq hl rfl (hz := h1) (_hz' := hz)), AutoSeq1.wpAny_loadPart' hl, AutoSeq1.wpAny_loadPart' hb; exact ⟨_, rfl, h⟩
section
variable {X : Cx}
def rExtT (K : PySem.W.Frag) : V → List V → Hp → VK → Prop := fun x vs H Q => ∃ l b xs zs, x = .ref l ∧ vs = [.ref b] ∧ H l = some (.lst xs) ∧ SqT K H b zs ∧ xs.length + zs.length ≤ sizeLine ∧ Q .non (upd H l (.lst (xs ++ zs)))
theorem mt_extT : MtM X "list.extend" (rExtT X.K) := by
  intro pins s σ H x vs v us Q I rx rv h
  obtain ⟨l, b, xs, zs, rfl, rfl, hH, hB, hz, q⟩ := h
  cases rx
  obtain ⟨u, rfl, ru⟩ := rv.one
  cases ru
  obtain ⟨z, its, n, r, hl, e⟩ := I.lstM hH
  obtain ⟨its2, r2, ⟨⟨oc, od, dt, sl⟩, ho, hc, n2, hd⟩, hz2⟩ := I.tuple hB
  simp only at hc hd
  subst hc; subst hd
  have hl2 := r2.length
  have hsz : its.toArray.size + its2.toArray.size ≤ sizeLine := by rw [List.size_toArray, List.size_toArray]; omega
  have hlong : ¬ (!its.toArray.isEmpty && Builtin.List.listTooLong (its.toArray.size + its2.toArray.size)) = true := by rw [notLongL hsz, Bool.and_false]; exact Bool.false_ne_true
  refine call_meets F.slot_list_extend ⟨_, e, rfl⟩ F.entry_list_extend (F.args_list_extend_2 _ _) (ext_tup l its.toArray n b its2.toArray n2 od sl hlong (by rw [List.size_toArray]; omega) (by omega)) ⟨e, ho, ?_⟩
  exact ⟨.non, _, I.lset (its' := its ++ its2) hH e (by simp) (r.append r2) (by rw [List.length_append]; omega), rfl, q⟩
end
end G
/-! My base, part 18: what list(zip(..)) stands for; extend. -/
namespace G
open PySem PySem.Spec PyProof.Rows L2 TL
theorem zip_tk {α β : Type} : ∀ (xs : List α) (ys : List β) (n : Nat), n = min xs.length ys.length → (xs.take n).zip (ys.take n) = xs.zip ys
  | [], ys, n, h => by simp
  | x :: xs, [], n, h => by simp
  | x :: xs, y :: ys, n, h => by
    have e : n = min xs.length ys.length + 1 := by rw [h, List.length_cons, List.length_cons]; omega
    subst e
    rw [List.take_succ_cons, List.take_succ_cons, List.zip_cons_cons, List.zip_cons_cons, zip_tk xs ys _ rfl]
section
variable {α β : Type} [Enc α] [Enc β] {K : PySem.W.Frag} {F H : Hp} {l : List (Addr × V × V)} {ws ws2 : List V} {xs : List α} {ys : List β}
theorem RL.tk (n : Nat) (h : RL K F ws xs) : RL K F (ws.take n) (xs.take n) := by
  show RpA K F _ _
  rw [List.map_take]
  exact RpA.take n h
theorem lz_RL (nw : NewP H l) (sm : Same F (tupsU F l)) (e1 : l.map (·.2.1) = ws.take (min ws.length ws2.length)) (e2 : l.map (·.2.2) = ws2.take (min ws.length ws2.length)) (h1 : RL K F ws xs) (h2 : RL K F ws2 ys) :
    RL K (tupsU F l) (l.map fun q => V.ref q.1) (List.zip xs ys) := by
  rw [← zip_tk xs ys (min ws.length ws2.length) (by rw [h1.len, h2.len])]
  refine tupsU_RL nw.nd (fun q hq => tupsU_in nw.nd hq) ?_ ?_
  · rw [e1]
    exact RpA.up (RL.tk _ h1) sm
  · rw [e2]
    exact RpA.up (RL.tk _ h2) sm
theorem lz_len (e1 : l.map (·.2.1) = ws.take (min ws.length ws2.length)) (hl : ws.length ≤ sizeLine) : (l.map fun q => V.ref q.1).length ≤ sizeLine := by
  have h := congrArg List.length e1
  rw [List.length_map, List.length_take] at h
  rw [List.length_map, h]
  exact Nat.le_trans (Nat.min_le_right _ _) hl
end
def extL {α : Type} (xs ys : List α) : Option (List α) := conL xs ys
end G
/-! My base, part 19: rules that name K. -/
namespace G
open PySem PySem.Spec PyProof.Rows L2 TL
theorem RL.re {α : Type} [Enc α] {K : PySem.W.Frag} {F : Hp} {ws : List V} {x y : List α} (h : x = y) (r : RL K F ws x) : RL K F ws y := h ▸ r
section
variable {X : Cx} {K : PySem.W.Frag}
theorem ix_listK (h : X.K = K := by rfl) : IxR X (rIxL K) := h ▸ ix_list
theorem ix_tupK (h : X.K = K := by rfl) : IxR X (rIxT K) := h ▸ ix_tup
theorem sl_listK (h : X.K = K := by rfl) : SlR X (rSlL K) := h ▸ sl_list
theorem call_lenLK (h : X.K = K := by rfl) : CallR X (.builtin "len") (fun xs H Q => ∃ p ys n, xs = [.ref p] ∧ (SqL K H p ys ∨ SqT K H p ys) ∧ ys.length = n ∧ Q (.int (n : Nat)) H) := by subst h; exact call_lenL
theorem call_isi_ (h : X.K = K := by rfl) : CallR X (.builtin "isinstance") (rIsi K) := by subst h; exact call_isi
theorem call_list_of_ (h : X.K = K := by rfl) : CallR X (.type "list") (fun xs H Q => ∃ p ys, xs = [.ref p] ∧ (SqL K H p ys ∨ SqT K H p ys) ∧ ∀ l, H l = none → Q (.ref l) (upd H l (.lst ys))) := by subst h; exact call_list_of
theorem cr_all_ (hc : X.calm = true) (h : X.K = K := by rfl) : CallR X (.builtin "all") (rAll K) := by subst h; exact cr_all hc
theorem cr_any_ (hc : X.calm = true) (h : X.K = K := by rfl) : CallR X (.builtin "any") (rAny K) := by subst h; exact cr_any hc
theorem cr_sortedI_ (h : X.K = K := by rfl) : CallR X (.builtin "sorted") (rSortedI K) := by subst h; exact cr_sortedI
theorem op_catLK (h : X.K = K := by rfl) : OpR X (binaryOp .Add) (rCatL K) := by subst h; exact op_catL
theorem op_eqDK (hu : X.A.units + 64 < cLine) (h : X.K = K := by rfl) : OpR X (compareOp .Eq) (rEqD K) := by subst h; exact op_eqD hu
theorem op_neDK (hu : X.A.units + 64 < cLine) (h : X.K = K := by rfl) : OpR X (compareOp .NotEq) (rNeD K) := by subst h; exact op_neD hu
theorem pi_listK {tg l : Expr} {tl : TE} (hl : PE X l tl) (h : X.K = K := by rfl) : PI X tg l (iList K tl) := by subst h; exact pi_list hl
theorem pi_tupK {tg l : Expr} {tl : TE} (hl : PE X l tl) (h : X.K = K := by rfl) : PI X tg l (iTup K tl) := by subst h; exact pi_tup hl
theorem pg_tupK {es : List Expr} {k : Nat} {pos : Pos} {t : TGs} (n : Nat) (hc : X.calm = true) (ht : PGs X es t) (h : X.K = K := by rfl)
    (hn : (assignEach es X.env).length = n := by rfl) (hst : (assignEach es X.env).findIdx? (·.1) = none := by rfl) : PG X (.Tuple es k pos) (gTup K n t) := by subst h; exact pg_tup hc ht hn hst
theorem pe_bmK {o e : Expr} {es : List Expr} {to : TE} {t : TA} {name : Str} {apos cpos : Pos} {T id : String} {r : V → List V → Hp → VK → Prop} (pa : PlainAttrs T) (slot : Slot T name id) (hty : typeOf (.builtin id) = pure (.type "method_descriptor")) (hm : MtR X id r) (ho : PE X o to) (ha : PA X (e :: es) t) (h : X.K = K := by rfl)
    (hbase : attributeBase o name X.env (eval o X.env) = eval o X.env := by rfl)
    (hfew : ((backTo cpos (starEach (e :: es) X.env)).all (fun x => !x.1) && (backToKw cpos (keywordEach [] X.env)).all (fun x => x.1.isSome) && decide ((e :: es).length + ([] : List Keyword).length + (if ([] : List Keyword).isEmpty then 0 else 1) < 30)) = true := by rfl)
    (hline : (apos.endLine == cpos.line) = true := by rfl) (hs : starEach (e :: es) X.env = (false, eval e X.env) :: starEach es X.env := by rfl) (hplain : (backTo cpos (starEach es X.env)).any (·.1) = false := by rfl) :
    PE X (.Call (.Attribute o name apos) (e :: es) [] cpos) (tBM K T r to t) := by subst h; exact pe_bm pa slot hty hm ho ha hbase hfew hline hs hplain
theorem pe_bm0K {o : Expr} {to : TE} {name : Str} {apos cpos : Pos} {T id : String} {r : V → List V → Hp → VK → Prop} (pa : PlainAttrs T) (slot : Slot T name id) (hty : typeOf (.builtin id) = pure (.type "method_descriptor")) (hm : MtR X id r) (ho : PE X o to) (h : X.K = K := by rfl)
    (hbase : attributeBase o name X.env (eval o X.env) = eval o X.env := by rfl) (hline : (apos.endLine == cpos.line) = true := by rfl) : PE X (.Call (.Attribute o name apos) [] [] cpos) (tBM0 K T r to) := by subst h; exact pe_bm0 pa slot hty hm ho hbase hline
def rJoin (K : PySem.W.Frag) : V → List V → Hp → VK → Prop := fun x xs H Q => ∃ a p, ∃ ys : List Str, x = .str a ∧ xs = [.ref p] ∧ (SqL K H p (ys.map V.str) ∨ SqT K H p (ys.map V.str)) ∧
  (ys.map (·.length)).sum + ys.length * a.length ≤ 16777216 ∧ Q (.str (Txt.join a ys)) H
theorem pe_joinK {o e : Expr} {to te : TE} {apos pos : Pos} (ho : PE X o to) (he : PE X e te) (h : X.K = K := by rfl) (hs : starEach [e] X.env = [(false, eval e X.env)] := by rfl) (hbase : attributeBase o "join" X.env (eval o X.env) = eval o X.env := by rfl) (hline : (apos.endLine == pos.line) = true := by rfl) :
    PE X (.Call (.Attribute o "join" apos) [e] [] pos) (tM1 (rJoin K) to te) := by subst h; exact pe_join ho he hs hbase hline
theorem pe_revLK {e : Expr} {te : TE} {k : Nat} {p1 p2 p3 pos : Pos} (he : PE X e te) (h : X.K = K := by rfl) : PE X (.Subscript e (.Slice none none (some (.UnaryOp .USub (.Constant (.int 1) k p1) p2)) p3) pos) (tRevL K te) := by subst h; exact pe_revL he
theorem pe_ssetK {a : Expr} {ta : TE} {p p2 q pos : Pos} (hc : X.calm = true) (hg : Gl X "sorted") (hm : X.mg "sorted" = none) (hg2 : Gl X "set") (hm2 : X.mg "set" = none) (ha : PE X a ta) (h : X.K = K := by rfl)
    (na : starEach [a] X.env = (false, eval a X.env) :: starEach [] X.env := by rfl) : PE X (.Call (.Name "sorted" p) [.Call (.Name "set" p2) [a] [] q] [] pos) (tSSet K ta) := by subst h; exact pe_sset hc hg hm hg2 hm2 ha na
theorem pe_lzipK {e e2 : Expr} {ta : TA} {p p2 q pos : Pos} (hc : X.calm = true) (hg : Gl X "list") (hm : X.mg "list" = none) (hg2 : Gl X "zip") (hm2 : X.mg "zip" = none) (ha : PA X [e, e2] ta) (h : X.K = K := by rfl)
    (hs : starEach [e, e2] X.env = (false, eval e X.env) :: starEach [e2] X.env := by rfl) (hpl : (backTo q (starEach [e2] X.env)).any (·.1) = false := by rfl) :
    PE X (.Call (.Name "list" p) [.Call (.Name "zip" p2) [e, e2] [] q] [] pos) (tLZip K ta) := by subst h; exact pe_lzip hc hg hm hg2 hm2 ha hs hpl
theorem mt_extTK (h : X.K = K := by rfl) : MtM X "list.extend" (rExtT K) := by subst h; exact mt_extT
end
end G
/-! sorted(texts), any number; sorted(pairs of ints), any number. -/
namespace G
open PySem PySem.Spec PyProof.Rows L2 TL
def leT (a b : Str) : Bool := decide (tl a ≤ tl b)
def sortT (xs : List Str) : List Str := xs.mergeSort leT
theorem leT_trans (a b c : Str) (h1 : leT a b = true) (h2 : leT b c = true) : leT a c = true := decide_eq_true (List.le_trans (of_decide_eq_true h1) (of_decide_eq_true h2))
theorem leT_total (a b : Str) : (leT a b || leT b a) = true := by
  unfold leT
  rcases List.le_total (tl a) (tl b) with h | h
  · rw [decide_eq_true h]; rfl
  · rw [decide_eq_true h, Bool.or_true]
theorem sortT_perm (xs : List Str) : (sortT xs).Perm xs := List.mergeSort_perm _ _
theorem sortT_sorted (xs : List Str) : (sortT xs).Pairwise fun a b => leT a b = true := List.pairwise_mergeSort leT_trans leT_total xs
theorem sortT_len (xs : List Str) : (sortT xs).length = xs.length := (sortT_perm xs).length_eq
theorem tl_eq {x y : Str} (h : tl x = tl y) : x = y := by
  cases x; cases y
  simp only [tl] at h
  congr
  exact Array.toList_inj.mp h
theorem rising_pw : ∀ (r : List Str) (p : Str), risingS p r = true → (p :: r).Pairwise fun a b => leT a b = true
  | [], p, _ => List.pairwise_singleton _ _
  | x :: r, p, h => by
    have h' : (!ltCps x.cps.toList p.cps.toList && risingS x r) = true := h
    rw [Bool.and_eq_true, ltCps_eq, Bool.not_eq_true', decide_eq_false_iff_not] at h'
    have ih := rising_pw r x h'.2
    have hx : leT p x = true := decide_eq_true h'.1
    refine List.pairwise_cons.mpr ⟨fun z hz => ?_, ih⟩
    rcases List.mem_cons.mp hz with rfl | hz
    · exact hx
    · exact leT_trans _ _ _ hx ((List.pairwise_cons.mp ih).1 z hz)
theorem sortedS_pw : ∀ l : List Str, sortedS l = true → l.Pairwise fun a b => leT a b = true
  | [], _ => List.Pairwise.nil
  | x :: r, h => rising_pw r x h
theorem sortT_uniq {xs ys : List Str} (h : ys.Perm xs) (h2 : sortedS ys = true) : sortT xs = ys :=
  ((sortT_perm xs).trans h.symm).eq_of_pairwise (le := fun a b => leT a b = true) (fun a b _ _ h3 h4 => tl_eq (List.le_antisymm (of_decide_eq_true h3) (of_decide_eq_true h4))) (sortT_sorted xs) (sortedS_pw ys h2)
def rSortedSA (K : PySem.W.Frag) : List V → Hp → VK → Prop := fun vs H Q => ∃ (a : Addr) (xs : List Str), vs = [V.ref a] ∧ SqL K H a (xs.map V.str) ∧
  ∀ (p : Addr), H p = none → Q (.ref p) (upd H p (.lst ((sortT xs).map V.str)))
section
variable {X : Cx} {K : PySem.W.Frag}
theorem cr_sortedSA : CallR X (.builtin "sorted") (rSortedSA X.K) := by
  intro pins s σ H vs us Q I r h
  obtain ⟨a, xs, rfl, hs, q⟩ := h
  obtain ⟨its, rv, hl, hz⟩ := I.list hs
  rw [Vals.ref1 r]
  have hlen0 := rv.length
  refine PyProof.Rows.sorted_strsAny hl.isList rv.strs (by rw [← hlen0]; exact hz) fun out ys h1 h2 h3 => ?_
  obtain rfl := sortT_uniq h2 h3
  obtain ⟨ep, he'⟩ := PyProof.Rows.sortedAll_at s.heap its out
  have hlen : ((sortT xs).map V.str).length ≤ sizeLine := by rw [List.length_map, sortT_len]; rw [List.length_map] at hz; exact hz
  exact ⟨.ref _, upd H (s.heap.objs.size + 1) (.lst ((sortT xs).map V.str)), I.laid (t' := s.toks) (fun _ _ => PyProof.Rows.sortedAll_old) (Nat.le_succ _) ⟨hlen, out.toList, ep, vals_of_strs h1, he'⟩, rfl, q _ (I.hok.fresh (Nat.le_succ _))⟩
theorem cr_sortedSA_ (h : X.K = K := by rfl) : CallR X (.builtin "sorted") (rSortedSA K) := by subst h; exact cr_sortedSA
end
/-! ### pairs -/
def leP (p q : Int × Int) : Bool := decide (p.1 < q.1 ∨ (p.1 = q.1 ∧ p.2 ≤ q.2))
def sortP (xs : List (Int × Int)) : List (Int × Int) := xs.mergeSort leP
theorem leP_trans (a b c : Int × Int) (h1 : leP a b = true) (h2 : leP b c = true) : leP a c = true := by
  have h1 := of_decide_eq_true h1
  have h2 := of_decide_eq_true h2
  exact decide_eq_true (by omega)
theorem leP_total (a b : Int × Int) : (leP a b || leP b a) = true := by
  unfold leP
  by_cases h : a.1 < b.1 ∨ (a.1 = b.1 ∧ a.2 ≤ b.2)
  · rw [decide_eq_true h]; rfl
  · rw [decide_eq_true (p := b.1 < a.1 ∨ (b.1 = a.1 ∧ b.2 ≤ a.2)) (by omega), Bool.or_true]
theorem sortP_perm (xs : List (Int × Int)) : (sortP xs).Perm xs := List.mergeSort_perm _ _
theorem sortP_sorted (xs : List (Int × Int)) : (sortP xs).Pairwise fun a b => leP a b = true := List.pairwise_mergeSort leP_trans leP_total xs
theorem sortP_len (xs : List (Int × Int)) : (sortP xs).length = xs.length := (sortP_perm xs).length_eq
theorem sortP_uniq {xs ys : List (Int × Int)} (h : ys.Perm xs) (h2 : ys.Pairwise fun a b => leP a b = true) : sortP xs = ys :=
  ((sortP_perm xs).trans h.symm).eq_of_pairwise (le := fun a b => leP a b = true) (fun a b _ _ h3 h4 => by
    have h3 := of_decide_eq_true h3
    have h4 := of_decide_eq_true h4
    exact Prod.ext (by omega) (by omega)) (sortP_sorted xs) h2
open Classical in
noncomputable def keyV (K : PySem.W.Frag) (H : Hp) (v : V) : Int × Int := if h : ∃ x : Int × Int, R K H v x then h.choose else (0, 0)
theorem keyV_spec {K : PySem.W.Frag} {H : Hp} {v : V} {x : Int × Int} (h : R K H v x) : R K H v (keyV K H v) := by
  unfold keyV
  rw [dif_pos ⟨x, h⟩]
  exact Exists.choose_spec (⟨x, h⟩ : ∃ x : Int × Int, R K H v x)
def rSortedPK (K : PySem.W.Frag) : List V → Hp → VK → Prop := fun vs H Q => ∃ (a : Addr) (xs : List V) (ds : List (Int × Int)), vs = [V.ref a] ∧ SqL K H a xs ∧ RL K H xs ds ∧
  ∀ (ys : List V) (p : Addr), ys.length = xs.length → (∀ F, RL K F xs ds → RL K F ys (sortP ds)) → H p = none → Q (.ref p) (upd H p (.lst ys))
section
variable {X : Cx} {K : PySem.W.Frag}
theorem cr_sortedPK : CallR X (.builtin "sorted") (rSortedPK X.K) := by
  intro pins s σ H vs us Q I r h
  obtain ⟨a, xs, ds, rfl, hs, hA, q⟩ := h
  have hkey : ∀ i v x, xs[i]? = some v → ds[i]? = some x → keyV X.K H v = x ∧ ∃ t, v = .ref t ∧ SqT X.K H t [.int x.1, .int x.2] := fun i v x hv hx => by
    obtain ⟨x', hx', r⟩ := RL.get hA hv
    rw [hx] at hx'
    cases hx'
    have r2 := keyV_spec r
    obtain ⟨p, v1, v2, e, h1, r3, r4⟩ := R.p2_v r
    obtain ⟨p', w1, w2, e', h2, r5, r6⟩ := R.p2_v r2
    subst e
    cases e'
    obtain rfl := R.int_v r3
    obtain rfl := R.int_v r4
    obtain rfl := R.int_v r5
    obtain rfl := R.int_v r6
    have := I.tuple_inj h1 h2
    simp only [List.cons.injEq, V.int.injEq, and_true] at this
    exact ⟨Prod.ext this.1.symm this.2.symm, p, rfl, h1⟩
  have hlen : xs.length = ds.length := RL.len hA
  have hmem : ∀ v ∈ xs, ∃ t, v = .ref t ∧ SqT X.K H t [.int (keyV X.K H v).1, .int (keyV X.K H v).2] := fun v hv => by
    obtain ⟨i, hi, rfl⟩ := List.getElem_of_mem hv
    obtain ⟨k1, k2⟩ := hkey i xs[i] (ds[i]'(by omega)) (List.getElem?_eq_getElem hi) (List.getElem?_eq_getElem (by omega))
    rw [k1]
    exact k2
  obtain ⟨its, rv, hl, hz⟩ := I.list hs
  obtain ⟨u, rfl, ru⟩ := vals1 r
  obtain rfl : u = Value.ref a := ru
  obtain ⟨e1, e2⟩ := refs_back rv fun x m => by
    obtain ⟨t, e, _⟩ := hmem x m
    exact ⟨t, e⟩
  refine SrtO.sorted_pairsO (k := fun u => keyV X.K H (backV u)) hl.isList (by rw [← rv.length]; exact hz) (fun v hv => ?_) fun h' d out h1 h2 kp hd hn => ?_
  · obtain ⟨t, rfl⟩ := e2 v hv
    have hm : V.ref t ∈ xs := by rw [e1]; exact List.mem_map.mpr ⟨_, hv, rfl⟩
    obtain ⟨t', e, ht⟩ := hmem _ hm
    cases e
    obtain ⟨its2, r2, ⟨o, ho, hc, n, hd⟩, _⟩ := I.tuple ht
    obtain ⟨u1, u2, rfl, ri, rj⟩ := vals2 r2
    obtain ⟨t1, rfl⟩ := ri
    obtain ⟨t2, rfl⟩ := rj
    exact ⟨t, o, t1, t2, n, rfl, ho, hc, hd⟩
  · have h3 : ∀ u ∈ out, ∃ a, u = Value.ref a := fun u hu => e2 u (h2.perm.mem_iff.mp hu)
    obtain ⟨n, hn⟩ := hn
    have hb : SrtO.Stb (ltP (keyV X.K H)) (out.map backV) xs := by
      rw [e1]
      exact SrtO.Stb.map (ltP_swo (keyV X.K H)) backV h2
    have hsr : SrtO.Srtd (ltP (keyV X.K H)) (out.map backV) := SrtO.srtd_map h1
    have hds : xs.map (keyV X.K H) = ds := List.ext_getElem? fun i => by
      rw [List.getElem?_map]
      by_cases hi : i < xs.length
      · rw [List.getElem?_eq_getElem hi, List.getElem?_eq_getElem (by omega)]
        exact congrArg some (hkey i xs[i] (ds[i]'(by omega)) (List.getElem?_eq_getElem hi) (List.getElem?_eq_getElem (by omega))).1
      · rw [List.getElem?_eq_none (by omega), List.getElem?_eq_none (by omega)]
        rfl
    have hso : sortP ds = (out.map backV).map (keyV X.K H) := by
      refine sortP_uniq (by rw [← hds]; exact hb.perm.map _) (List.pairwise_map.mpr (hsr.imp fun {x y} h => ?_))
      have := SrtO.lexB_no.mp h
      exact decide_eq_true (by omega)
    refine ⟨.ref d, upd H d (.lst (out.map backV)), I.laid (t' := s.toks) kp hd ⟨?_, out, n, vals_back h3, hn⟩, rfl, q _ d hb.len (fun F hF => ?_) (I.hok.fresh hd)⟩
    · rw [hb.len]
      exact hz
    · rw [hso]
      have hall : ∀ v ∈ out.map backV, R X.K F v (keyV X.K H v) := fun v hv => by
        obtain ⟨i, hi, rfl⟩ := List.getElem_of_mem (hb.perm.mem_iff.mp hv)
        obtain ⟨x, hx, rx⟩ := RL.get hF (List.getElem?_eq_getElem hi)
        rw [(hkey i xs[i] x (List.getElem?_eq_getElem hi) hx).1]
        exact rx
      have go : ∀ l : List V, (∀ v ∈ l, R X.K F v (keyV X.K H v)) → RL X.K F l (l.map (keyV X.K H)) := fun l => by
        induction l with
        | nil => exact fun _ => .nil
        | cons v l ih => exact fun h => .cons (h v (List.mem_cons_self ..)) (ih fun u hu => h u (List.mem_cons_of_mem _ hu))
      exact go _ hall
theorem cr_sortedPK_ (h : X.K = K := by rfl) : CallR X (.builtin "sorted") (rSortedPK K) := by subst h; exact cr_sortedPK
end
/-! ### lists lent, walked over -/
def Lent {α : Type} [Enc α] (K : PySem.W.Frag) (H F : Hp) (M : Addr → Prop) (v : V) (e : List α) : Prop := ∃ p ws, v = .ref p ∧ SqL K H p ws ∧ ws.length ≤ sizeLine ∧ RL K F ws e ∧ ¬ M p
inductive LentL {α : Type} [Enc α] (K : PySem.W.Frag) (H F : Hp) (M : Addr → Prop) : List V → List (List α) → Prop
  | nil : LentL K H F M [] []
  | cons {v e vs es} : Lent K H F M v e → LentL K H F M vs es → LentL K H F M (v :: vs) (e :: es)
theorem LentL.len {α : Type} [Enc α] {K : PySem.W.Frag} {H F : Hp} {M : Addr → Prop} : ∀ {vs : List V} {es : List (List α)}, LentL K H F M vs es → vs.length = es.length
  | _, _, .nil => rfl
  | _, _, .cons _ t => congrArg (· + 1) t.len
theorem LentL.get {α : Type} [Enc α] {K : PySem.W.Frag} {H F : Hp} {M : Addr → Prop} : ∀ {vs : List V} {es : List (List α)} {i : Nat} {v : V}, LentL K H F M vs es → vs[i]? = some v → ∃ e, es[i]? = some e ∧ Lent K H F M v e
  | _, _, _, _, .nil, h => by simp at h
  | _, _, 0, _, .cons r _, h => ⟨_, rfl, by simp at h; exact h ▸ r⟩
  | _, _, i + 1, _, .cons _ t, h => by
    obtain ⟨e, h1, h2⟩ := LentL.get t (i := i) (by simpa using h)
    exact ⟨e, by simpa using h1, h2⟩
end G
/-! zip and enumerate walked over; a text looked up in a written table. -/
namespace G
open PySem PySem.Spec PyProof.Rows L2 TL
section
variable {K : PySem.W.Frag}
theorem pi_zipK {X : Cx} {e e2 : Expr} {ta : TA} {p pos tpos : Pos} {elts : List Expr} {kk : Nat} (hg : Gl X "zip") (hm : X.mg "zip" = none) (ha : PA X [e, e2] ta) (h : X.K = K := by rfl)
    (hs : starEach [e, e2] X.env = (false, eval e X.env) :: starEach [e2] X.env := by rfl) (hpl : (backTo pos (starEach [e2] X.env)).any (·.1) = false := by rfl) :
    PI X (.Tuple elts kk tpos) (.Call (.Name "zip" p) [e, e2] [] pos) (iZip K ta) := by subst h; exact pi_zip hg hm ha hs hpl
theorem pi_enumK {X : Cx} {e : Expr} {ta : TA} {p pos tpos : Pos} {elts : List Expr} {kk : Nat} (hg : Gl X "enumerate") (hm : X.mg "enumerate" = none) (ha : PA X [e] ta) (h : X.K = K := by rfl) (hs : starEach [e] X.env = [(false, eval e X.env)] := by rfl) :
    PI X (.Tuple elts kk tpos) (.Call (.Name "enumerate" p) [e] [] pos) (iEnum K ta) := by subst h; exact pi_enum hg hm ha hs
theorem for_zip {a b : Addr} {xs ys : List V} {g : TG} {tb : TS} {D : Ends} {σ : L2.St} {H : Hp} (Pv : Nat → L2.St → Hp → Prop) (h0 : Pv 0 σ H)
    (hl : ∀ i σ H, i ≤ min xs.length ys.length → Pv i σ H → SqL K H a xs ∧ SqL K H b ys)
    (hs : ∀ i x y T σ H, xs[i]? = some x → ys[i]? = some y → H T = none → Pv i σ H → g (.ref T) σ (upd H T (.tup [x, y])) fun σ2 H2 => tb { D with nx := Pv (i + 1), ct := Pv (i + 1), bk := D.nx } σ2 H2) (hd : ∀ σ H, Pv (min xs.length ys.length) σ H → D.nx σ H) :
    ∃ W : Nat → Nat → L2.St → Hp → Prop, (∃ m, W 0 m σ H) ∧ ∀ i m σ H, W i m σ H →
      ((Itz K a b).stop i H ∧ D.nx σ H) ∨ ((Itz K a b).go i H ∧ ∃ N : L2.St → Hp → Prop, (∀ σ' H', N σ' H' → ∃ m', m' < m ∧ W (i + 1) m' σ' H') ∧ ∀ x H', (Itz K a b).yld i H x H' → g x σ H' fun σ2 H2 => tb { D with nx := N, ct := N, bk := D.nx } σ2 H2) :=
  for_it (walk_zip rfl) Pv h0 hl (fun i v σ H H' _ p ⟨T, x, y, e1, e2, e3, e4, e5⟩ => by subst e1 e3; exact hs i x y T σ H e4 e5 e2 p) hd
theorem for_enum {a : Addr} {xs : List V} {g : TG} {tb : TS} {D : Ends} {σ : L2.St} {H : Hp} (Pv : Nat → L2.St → Hp → Prop) (h0 : Pv 0 σ H)
    (hl : ∀ i σ H, i ≤ xs.length → Pv i σ H → SqL K H a xs)
    (hs : ∀ i x T σ H, xs[i]? = some x → H T = none → Pv i σ H → g (.ref T) σ (upd H T (.tup [.int (i : Nat), x])) fun σ2 H2 => tb { D with nx := Pv (i + 1), ct := Pv (i + 1), bk := D.nx } σ2 H2) (hd : ∀ σ H, Pv xs.length σ H → D.nx σ H) :
    ∃ W : Nat → Nat → L2.St → Hp → Prop, (∃ m, W 0 m σ H) ∧ ∀ i m σ H, W i m σ H →
      ((Ite K a).stop i H ∧ D.nx σ H) ∨ ((Ite K a).go i H ∧ ∃ N : L2.St → Hp → Prop, (∀ σ' H', N σ' H' → ∃ m', m' < m ∧ W (i + 1) m' σ' H') ∧ ∀ x H', (Ite K a).yld i H x H' → g x σ H' fun σ2 H2 => tb { D with nx := N, ct := N, bk := D.nx } σ2 H2) :=
  for_it walk_enum Pv h0 hl (fun i v σ H H' _ p ⟨T, x, y, e1, e2, e3, e4, e5⟩ => by
    subst e1 e3
    cases e4
    exact hs i y T σ H e5 e2 p) hd
theorem lc_zip {a b : Addr} {xs ys : List V} {g : TG} {tt : TT} {te : TE} {vs : List Nat} {σ : L2.St} {H1 : Hp} {D : Addr} {Qd : Hp → Prop} (Pv : Nat → Hp → Prop) (h0 : Pv 0 (upd H1 D (.lst [])))
    (hl : ∀ i H, i ≤ min xs.length ys.length → Pv i H → SqL K H a xs ∧ SqL K H b ys)
    (hs : ∀ i x y T H, xs[i]? = some x → ys[i]? = some y → H T = none → Pv i H → g (.ref T) (wipe σ vs) (upd H T (.tup [x, y])) fun σ2 H2 => wipe σ2 vs = wipe σ vs ∧ tt σ2 H2 fun b H3 =>
      if b = true then te σ2 H3 fun y H4 => ∃ acc, H4 D = some (.lst acc) ∧ acc.length < sizeLine ∧ Pv (i + 1) (upd H4 D (.lst (acc ++ [y]))) else Pv (i + 1) H3) (hd : ∀ H, Pv (min xs.length ys.length) H → Qd H) :
    ∃ W : Nat → Nat → Hp → Prop, (∃ m, W 0 m (upd H1 D (.lst []))) ∧ ∀ i m H, W i m H →
      ((Itz K a b).stop i H ∧ Qd H) ∨ ((Itz K a b).go i H ∧ ∃ Nx : Hp → Prop, (∀ H', Nx H' → ∃ m', m' < m ∧ W (i + 1) m' H') ∧ ∀ x H', (Itz K a b).yld i H x H' → g x (wipe σ vs) H' fun σ2 H2 => wipe σ2 vs = wipe σ vs ∧ tt σ2 H2 fun b H3 =>
        if b = true then te σ2 H3 fun y H4 => ∃ acc, H4 D = some (.lst acc) ∧ acc.length < sizeLine ∧ Nx (upd H4 D (.lst (acc ++ [y]))) else Nx H3) :=
  lc_it (walk_zip rfl) Pv h0 hl (fun i v H H' _ p ⟨T, x, y, e1, e2, e3, e4, e5⟩ => by subst e1 e3; exact hs i x y T H e4 e5 e2 p) hd
theorem lc_enum {a : Addr} {xs : List V} {g : TG} {tt : TT} {te : TE} {vs : List Nat} {σ : L2.St} {H1 : Hp} {D : Addr} {Qd : Hp → Prop} (Pv : Nat → Hp → Prop) (h0 : Pv 0 (upd H1 D (.lst [])))
    (hl : ∀ i H, i ≤ xs.length → Pv i H → SqL K H a xs)
    (hs : ∀ i x T H, xs[i]? = some x → H T = none → Pv i H → g (.ref T) (wipe σ vs) (upd H T (.tup [.int (i : Nat), x])) fun σ2 H2 => wipe σ2 vs = wipe σ vs ∧ tt σ2 H2 fun b H3 =>
      if b = true then te σ2 H3 fun y H4 => ∃ acc, H4 D = some (.lst acc) ∧ acc.length < sizeLine ∧ Pv (i + 1) (upd H4 D (.lst (acc ++ [y]))) else Pv (i + 1) H3) (hd : ∀ H, Pv xs.length H → Qd H) :
    ∃ W : Nat → Nat → Hp → Prop, (∃ m, W 0 m (upd H1 D (.lst []))) ∧ ∀ i m H, W i m H →
      ((Ite K a).stop i H ∧ Qd H) ∨ ((Ite K a).go i H ∧ ∃ Nx : Hp → Prop, (∀ H', Nx H' → ∃ m', m' < m ∧ W (i + 1) m' H') ∧ ∀ x H', (Ite K a).yld i H x H' → g x (wipe σ vs) H' fun σ2 H2 => wipe σ2 vs = wipe σ vs ∧ tt σ2 H2 fun b H3 =>
        if b = true then te σ2 H3 fun y H4 => ∃ acc, H4 D = some (.lst acc) ∧ acc.length < sizeLine ∧ Nx (upd H4 D (.lst (acc ++ [y]))) else Nx H3) :=
  lc_it walk_enum Pv h0 hl (fun i v H H' _ p ⟨T, x, y, e1, e2, e3, e4, e5⟩ => by
    subst e1 e3
    cases e4
    exact hs i y T H e5 e2 p) hd
theorem gzip_get {α β : Type} {xs : List α} {ys : List β} {i : Nat} {x : α} {y : β} (h1 : xs[i]? = some x) (h2 : ys[i]? = some y) : (List.zip xs ys)[i]? = some (x, y) := by
  rw [List.zip, List.getElem?_zipWith, h1, h2]
theorem enum_get {α : Type} {xs : List α} {i : Nat} {x : α} (h : xs[i]? = some x) : (List.zip (rangeL 0 xs.length) xs)[i]? = some (((i : Nat) : Int), x) := by
  have hi : i < xs.length := (List.getElem?_eq_some_iff.mp h).1
  have := rangeL_at (lo := 0) hi
  rw [Int.zero_add] at this
  exact gzip_get this h
theorem zip_lenV {α β γ δ : Type} {xs : List α} {ys : List β} {vs : List γ} {ws : List δ} (h1 : vs.length = xs.length) (h2 : ws.length = ys.length) : min vs.length ws.length = (List.zip xs ys).length := by rw [List.length_zip, h1, h2]
theorem enum_lenV {α γ : Type} {xs : List α} {vs : List γ} (h1 : vs.length = xs.length) : vs.length = (List.zip (rangeL 0 xs.length) xs).length := by rw [List.length_zip, rangeL_len, h1]; exact (Nat.min_self _).symm
end
/-! ### texts looked up in a written table -/
def dgetI (kvs : List (Str × Str)) (k : Str) : Option Str := (kvs.find? fun kv => decide (kv.1 = k)).map (·.2)
theorem rd_dgetI {ty : TE} {σ : L2.St} {H : Hp} {Q : VK} {k v : Str} (trs : List (TE × TE)) (kvs : List (Str × Str)) (he : trs = kvs.map fun kv => (tC (.str kv.1), tC (.str kv.2))) (h15 : kvs.length ≤ 15) (hm : mergeK [] (kvS kvs) = kvS kvs)
    (hk : dgetI kvs k = some v) (hy : ∀ H1 Q', Q' (.str k) H1 → ty σ H1 Q') (q : ∀ p, H p = none → Q (.str v) (upd H p (.dK (kvS kvs)))) : tDGet (tDisp trs) ty σ H Q := by
  intro p hp
  have walk : ∀ (l : List (Str × Str)) (R : List (V × V) → Hp → Prop) (H1 : Hp), R (l.map fun kv => (V.str kv.1, V.str kv.2)) H1 → tPairs (l.map fun kv => (tC (.str kv.1), tC (.str kv.2))) σ H1 R := by
    intro l
    induction l with
    | nil => intro R H1 h; exact h
    | cons kv l ih => intro R H1 h; exact ih (fun ps H3 => R ((V.str kv.1, V.str kv.2) :: ps) H3) H1 h
  rw [he]
  refine walk kvs _ _ ⟨upd_same, kvS kvs, ?_, ?_, ?_⟩
  · unfold kvS
    rw [List.map_map]
    rfl
  · unfold kvS
    rw [List.length_map]
    exact h15
  · rw [hm, upd_upd]
    have e : valV (kvS kvs) (Sum.inr k) = some (.str v) := by
      rw [valS]
      unfold dgetI at hk
      rw [hk]
      rfl
    exact hy _ _ ⟨p, .str v, rfl, e ▸ DGet.k (k := Sum.inr k) upd_same, q p hp⟩
theorem GS.di {kvs : List (Str × Str)} {k v : Str} (h : ∀ kv ∈ kvs, GS kv.2) (hk : dgetI kvs k = some v) : GS v := by
  unfold dgetI at hk
  cases e : (kvs.find? fun kv => decide (kv.1 = k)) with
  | none => rw [e] at hk; cases hk
  | some kv =>
    rw [e] at hk
    cases hk
    exact h kv (List.mem_of_find?_eq_some e)
end G
/-! tuples of one, things of either type; the bag of five; membership, pop, tuples. -/
namespace G
open PySem PySem.Spec PyProof.Rows L2 TL
structure T1 (α : Type) where
  a : α
  deriving DecidableEq
instance {α : Type} [Enc α] : Enc (T1 α) := ⟨fun p => .tuple [Enc.d p.a]⟩
instance {α : Type} [Enc α] [Dep α] : Dep (T1 α) := ⟨Dep.n α + 1, fun p => by
  have h1 := Dep.le p.a
  show PyData.depthAll [Enc.d p.a] + 1 ≤ _
  simp only [PyData.depthAll]
  omega⟩
instance {α : Type} [Enc α] : NN (T1 α) := ⟨fun _ => nofun⟩
instance {α β : Type} [Enc α] [Enc β] : Enc (α ⊕ β) := ⟨fun s => match s with | .inl x => Enc.d x | .inr y => Enc.d y⟩
instance {α β : Type} [Enc α] [Enc β] [Dep α] [Dep β] : Dep (α ⊕ β) := ⟨max (Dep.n α) (Dep.n β), fun s => match s with
  | .inl x => Nat.le_trans (Dep.le x) (Nat.le_max_left _ _)
  | .inr y => Nat.le_trans (Dep.le y) (Nat.le_max_right _ _)⟩
instance {α β : Type} [Enc α] [Enc β] [NN α] [NN β] : NN (α ⊕ β) := ⟨fun s => match s with
  | .inl x => NN.ne x
  | .inr y => NN.ne y⟩
section
variable {K : PySem.W.Frag} {F : Hp} {v : V} {p : Addr} {α β γ : Type} [Enc α] [Enc β] [Enc γ]
theorem R.p1_v {x : T1 α} (h : R K F v x) : ∃ p v1, v = .ref p ∧ SqT K F p [v1] ∧ R K F v1 x.a := by
  have h' : Rp K F v (.tuple [Enc.d x.a]) := h
  cases h' with
  | tup hs hl ha =>
    cases ha with
    | cons h1 h2 =>
      cases h2
      exact ⟨_, _, rfl, .inl (.inl hs), h1⟩
theorem R.p1_s {x : T1 α} (h : R K F v x) : ∃ p v1, v = .ref p ∧ F p = some (.tup [v1]) ∧ R K F v1 x.a := by
  have h' : Rp K F v (.tuple [Enc.d x.a]) := h
  cases h' with
  | tup hs hl ha =>
    cases ha with
    | cons h1 h2 =>
      cases h2
      exact ⟨_, _, rfl, hs, h1⟩
theorem R.mk1 {v1 : V} {x : α} (h1 : F p = some (.tup [v1])) (r1 : R K F v1 x) : R K F (.ref p) (T1.mk x) := .tup h1 (by show 1 ≤ sizeLine; decide) (.cons r1 .nil)
theorem R.inl {x : α} (r : R K F v x) : R K F v (Sum.inl x : α ⊕ β) := r
theorem R.inr {y : β} (r : R K F v y) : R K F v (Sum.inr y : α ⊕ β) := r
theorem R.some_ {x : α} (r : R K F v x) : R K F v (some x) := r
theorem R.omap {x : Option α} {f : α → β} (h : ∀ a, (Enc.d (f a) : PyData) = Enc.d a) (r : R K F v x) : R K F v (x.map f) := by
  cases x with
  | none => exact r
  | some a => show Rp K F v (Enc.d (f a)); rw [h]; exact r
def getL {α β : Type} : α ⊕ β → Option α
  | .inl x => some x
  | .inr _ => none
def getR {α β : Type} : α ⊕ β → Option β
  | .inr y => some y
  | .inl _ => none
theorem getL_ok {s : α ⊕ β} {x : α} (h : getL s = some x) (r : R K F v s) : R K F v x := by
  cases s with
  | inl a => cases h; exact r
  | inr b => cases h
theorem getR_ok {s : α ⊕ β} {y : β} (h : getR s = some y) (r : R K F v s) : R K F v y := by
  cases s with
  | inr a => cases h; exact r
  | inl b => cases h
theorem getO_ok {s : Option α} {x : α} (h : s = some x) (r : R K F v s) : R K F v x := by subst h; exact r
end
/-- the bag of five: cells, which is next, what is left of the last, the stir, how many were stirred -/
structure Bag2 where
  cells : List Int
  at_ : Nat
  left : Int
  stir : Int
  cnt : Int
structure BagAt2 (F H : Hp) (B C : Addr) (b : Bag2) : Prop where
  hB : H B = some (.lst [.ref C, .int (b.at_ : Nat), .int b.left, .int b.stir, .int b.cnt])
  hC : H C = some (.lst (b.cells.map V.int))
  ne : B ≠ C
  fB : F B = none
  fC : F C = none
section
variable {M : Addr → Prop} {F0 H0 F H F' H' : Hp} {p q B C : Addr} {o : HO} {b b' : Bag2} {ws : List V}
theorem BagAt2.frz (a : BagAt2 F H B C b) (hq : H q = none) : BagAt2 (upd F q o) (upd H q o) B C b :=
  have n1 := ne_of_none a.hB hq
  have n2 := ne_of_none a.hC hq
  ⟨(upd_ne n1).trans a.hB, (upd_ne n2).trans a.hC, a.ne, (upd_ne n1).trans a.fB, (upd_ne n2).trans a.fC⟩
theorem BagAt2.own (a : BagAt2 F H B C b) (hq : H q = none) : BagAt2 F (upd H q o) B C b :=
  have n1 := ne_of_none a.hB hq
  have n2 := ne_of_none a.hC hq
  ⟨(upd_ne n1).trans a.hB, (upd_ne n2).trans a.hC, a.ne, a.fB, a.fC⟩
theorem BagAt2.nb (a : BagAt2 F H B C b) (hq : H q = none) : ¬ Bc B C q := fun z => by
  rcases z with z | z
  · exact ne_of_none a.hB hq z.symm
  · exact ne_of_none a.hC hq z.symm
theorem BagAt2.other (a : BagAt2 F H B C b) (m : ¬ Bc B C q) : BagAt2 F (upd H q o) B C b :=
  have n1 : B ≠ q := fun z => m (.inl z.symm)
  have n2 : C ≠ q := fun z => m (.inr z.symm)
  ⟨(upd_ne n1).trans a.hB, (upd_ne n2).trans a.hC, a.ne, a.fB, a.fC⟩
theorem BagAt2.fz (a : BagAt2 F H B C b) (m : ¬ Bc B C q) : BagAt2 (upd F q o) H B C b :=
  have n1 : B ≠ q := fun z => m (.inl z.symm)
  have n2 : C ≠ q := fun z => m (.inr z.symm)
  ⟨a.hB, a.hC, a.ne, (upd_ne n1).trans a.fB, (upd_ne n2).trans a.fC⟩
theorem BagAt2.gr0 (a : BagAt2 F H B C b) (g : Gr M0 F H F' H') : BagAt2 F' H' B C b :=
  ⟨g.keep _ _ id a.hB, g.keep _ _ id a.hC, a.ne, g.newL (by rw [a.hB]; simp) a.fB (fun ts z => by rw [g.keep _ _ id a.hB] at z; cases z), g.newL (by rw [a.hC]; simp) a.fC (fun ts z => by rw [g.keep _ _ id a.hC] at z; cases z)⟩
theorem BagAt2.apart (a : BagAt2 F H B C b) (k : Gr M0 H H F' H') : BagAt2 F H' B C b := ⟨k.keep _ _ id a.hB, k.keep _ _ id a.hC, a.ne, a.fB, a.fC⟩
theorem BagAt2.put (a : BagAt2 F H B C b) (e : b'.cells = b.cells) : BagAt2 F (upd H B (.lst [.ref C, .int (b'.at_ : Nat), .int b'.left, .int b'.stir, .int b'.cnt])) B C b' :=
  ⟨upd_same, by rw [upd_ne a.ne.symm, a.hC, e], a.ne, a.fB, a.fC⟩
end
/-! ### membership -/
def rInI (K : PySem.W.Frag) : R2 := fun x y H Q => ∃ (k : Int) (p : Addr) (ns : List Int), x = .int k ∧ y = .ref p ∧ (SqL K H p (ns.map V.int) ∨ SqT K H p (ns.map V.int)) ∧ Q (.bl (decide (k ∈ ns))) H
def rNotInI (K : PySem.W.Frag) : R2 := fun x y H Q => ∃ (k : Int) (p : Addr) (ns : List Int), x = .int k ∧ y = .ref p ∧ (SqL K H p (ns.map V.int) ∨ SqT K H p (ns.map V.int)) ∧ Q (.bl (!decide (k ∈ ns))) H
theorem inV_ints (k : Int) (ns : List Int) : inV (.int k) (ns.map V.int) = decide (k ∈ ns) := by
  rw [Bool.eq_iff_iff, decide_eq_true_iff]
  unfold inV
  rw [List.any_map, List.any_eq_true]
  constructor
  · rintro ⟨x, hx, e⟩
    have e' : (x == k) = true := e
    rw [← beq_iff_eq.mp e']
    exact hx
  · intro h
    exact ⟨k, h, beq_iff_eq.mpr rfl⟩
theorem flat_ints (ns : List Int) : (ns.map V.int).all flatV = true := by
  rw [List.all_map, List.all_eq_true]
  intro x _
  rfl
section
variable {X : Cx} {K : PySem.W.Frag}
theorem op_inI (h : X.K = K := by rfl) : OpR X (compareOp .In) (rInI K) := by
  subst h
  intro pins s σ H x y v u Q I rx ry ⟨k, p, ns, e1, e2, hs, q⟩
  exact op_in_seq pins s σ H x y v u Q I rx ry ⟨p, _, e2, hs, by rw [e1]; rfl, flat_ints ns, by rw [e1, inV_ints]; exact q⟩
theorem op_notInI (h : X.K = K := by rfl) : OpR X (compareOp .NotIn) (rNotInI K) := by
  subst h
  intro pins s σ H x y v u Q I rx ry ⟨k, p, ns, e1, e2, hs, q⟩
  exact op_notIn_seq pins s σ H x y v u Q I rx ry ⟨p, _, e2, hs, by rw [e1]; rfl, flat_ints ns, by rw [e1, inV_ints]; exact q⟩
theorem op_inDK (hu : X.A.units + 65 < cLine) (h : X.K = K := by rfl) : OpR X (compareOp .In) (rInD K) := by subst h; exact op_inD hu
theorem op_notInDK (hu : X.A.units + 65 < cLine) (h : X.K = K := by rfl) : OpR X (compareOp .NotIn) (rNotInD K) := by subst h; exact op_notInD hu
theorem sl_tupK (h : X.K = K := by rfl) : SlR X (rSlA K) := by subst h; exact sl_tupA
theorem op_catTK (h : X.K = K := by rfl) : OpR X (binaryOp .Add) (rCatA K) := by subst h; exact op_catA
theorem cr_maxK (hc : X.calm = true) (h : X.K = K := by rfl) : CallR X (.builtin "max") (rMax K) := by subst h; exact cr_max hc
theorem cr_minK' (hc : X.calm = true) (h : X.K = K := by rfl) : CallR X (.builtin "min") (rMin K) := by subst h; exact cr_min hc
theorem pe_tupleOfK {a : Expr} {ta : TE} {p pos : Pos} (hg : Gl X "tuple") (hm : X.mg "tuple" = none) (ha : PE X a ta) (h : X.K = K := by rfl) (na : starEach [a] X.env = (false, eval a X.env) :: starEach [] X.env := by rfl) :
    PE X (.Call (.Name "tuple" p) [a] [] pos) (tThen ta (kTup K)) := by subst h; exact pe_tupleOf hg hm ha na
end
def inD {α : Type} [Enc α] (x : α) (xs : List α) : Bool := (xs.map Enc.d).any fun z => PyData.eqv z (Enc.d x)
/-! ### the least, the greatest -/
def maxO : List Int → Option Int
  | [] => none
  | x :: r => some (r.foldl max x)
def minO : List Int → Option Int
  | [] => none
  | x :: r => some (r.foldl min x)
theorem foldl_max (r : List Int) : ∀ x : Int, (r.foldl max x ∈ x :: r) ∧ ∀ y ∈ x :: r, y ≤ r.foldl max x := by
  induction r with
  | nil => intro x; exact ⟨List.mem_cons_self .., fun y hy => by rw [List.mem_singleton.mp hy]; exact Int.le_refl _⟩
  | cons z r ih =>
    intro x
    obtain ⟨h1, h2⟩ := ih (max x z)
    refine ⟨?_, fun y hy => ?_⟩
    · show List.foldl max (max x z) r ∈ _
      rcases List.mem_cons.mp h1 with e | e
      · rw [e]
        by_cases h : x ≤ z
        · rw [Int.max_eq_right h]; exact List.mem_cons_of_mem _ (List.mem_cons_self ..)
        · rw [Int.max_eq_left (by omega)]; exact List.mem_cons_self ..
      · exact List.mem_cons_of_mem _ (List.mem_cons_of_mem _ e)
    · show y ≤ List.foldl max (max x z) r
      have h3 := h2 (max x z) (List.mem_cons_self ..)
      rcases List.mem_cons.mp hy with e | hy
      · omega
      · rcases List.mem_cons.mp hy with e | hy
        · omega
        · exact h2 y (List.mem_cons_of_mem _ hy)
theorem foldl_min (r : List Int) : ∀ x : Int, (r.foldl min x ∈ x :: r) ∧ ∀ y ∈ x :: r, r.foldl min x ≤ y := by
  induction r with
  | nil => intro x; exact ⟨List.mem_cons_self .., fun y hy => by rw [List.mem_singleton.mp hy]; exact Int.le_refl _⟩
  | cons z r ih =>
    intro x
    obtain ⟨h1, h2⟩ := ih (min x z)
    refine ⟨?_, fun y hy => ?_⟩
    · show List.foldl min (min x z) r ∈ _
      rcases List.mem_cons.mp h1 with e | e
      · rw [e]
        by_cases h : x ≤ z
        · rw [Int.min_eq_left h]; exact List.mem_cons_self ..
        · rw [Int.min_eq_right (by omega)]; exact List.mem_cons_of_mem _ (List.mem_cons_self ..)
      · exact List.mem_cons_of_mem _ (List.mem_cons_of_mem _ e)
    · show List.foldl min (min x z) r ≤ y
      have h3 := h2 (min x z) (List.mem_cons_self ..)
      rcases List.mem_cons.mp hy with e | hy
      · omega
      · rcases List.mem_cons.mp hy with e | hy
        · omega
        · exact h2 y (List.mem_cons_of_mem _ hy)
theorem maxO_ok {xs : List Int} {m : Int} (h : maxO xs = some m) : 0 < xs.length ∧ m ∈ xs ∧ ∀ y ∈ xs, y ≤ m := by
  cases xs with
  | nil => cases h
  | cons x r =>
    cases h
    exact ⟨Nat.succ_pos _, (foldl_max r x).1, (foldl_max r x).2⟩
theorem minO_ok {xs : List Int} {m : Int} (h : minO xs = some m) : 0 < xs.length ∧ m ∈ xs ∧ ∀ y ∈ xs, m ≤ y := by
  cases xs with
  | nil => cases h
  | cons x r =>
    cases h
    exact ⟨Nat.succ_pos _, (foldl_min r x).1, (foldl_min r x).2⟩
theorem max_uniq {xs : List Int} {m k : Int} (h : maxO xs = some m) (hk : k ∈ xs) (hl : ∀ y, y ∈ xs → y ≤ k) : k = m := by
  obtain ⟨_, h1, h2⟩ := maxO_ok h
  have := h2 k hk
  have := hl m h1
  omega
theorem min_uniq {xs : List Int} {m k : Int} (h : minO xs = some m) (hk : k ∈ xs) (hl : ∀ y, y ∈ xs → k ≤ y) : k = m := by
  obtain ⟨_, h1, h2⟩ := minO_ok h
  have := h2 k hk
  have := hl m h1
  omega
/-! ### pop -/
def popI {α : Type} (xs : List α) (i : Int) : Option (α × List α) := (ixN xs.length i).bind fun j => xs[j]?.map fun x => (x, xs.eraseIdx j)
theorem popI_ok {α : Type} {xs r : List α} {i : Int} {x : α} (h : popI xs i = some (x, r)) : ∃ j, ixN xs.length i = some j ∧ xs[j]? = some x ∧ xs.eraseIdx j = r := by
  unfold popI at h
  obtain ⟨j, h1, h2⟩ := Option.bind_eq_some_iff.mp h
  obtain ⟨y, h3, h4⟩ := Option.map_eq_some_iff.mp h2
  cases h4
  exact ⟨j, h1, h3, rfl⟩
theorem popI_at {i : Int} {n j : Nat} (h : ixN n i = some j) (hn : n ≤ sizeLine) : (-(2 ^ 63) ≤ i ∧ i < 2 ^ 63) ∧ seqIndex? i n = some j := by
  obtain ⟨h1, h2, h3, h4⟩ := ixN_seq h
  rw [sizeLine_eq] at hn
  exact ⟨by omega, h1⟩
theorem RpA.erase {K : PySem.W.Frag} {F : Hp} : ∀ {vs : List V} {ds : List PyData} (j : Nat), RpA K F vs ds → RpA K F (vs.eraseIdx j) (ds.eraseIdx j)
  | _, _, _, .nil => .nil
  | _, _, 0, .cons _ t => t
  | _, _, j + 1, .cons h t => .cons h (RpA.erase j t)
theorem map_er {α β : Type} (f : α → β) : ∀ (l : List α) (j : Nat), (l.eraseIdx j).map f = (l.map f).eraseIdx j
  | [], _ => rfl
  | _ :: _, 0 => rfl
  | x :: l, j + 1 => congrArg (f x :: ·) (map_er f l j)
theorem RL.erase {α : Type} [Enc α] {K : PySem.W.Frag} {F : Hp} {vs : List V} {xs : List α} (j : Nat) (h : RL K F vs xs) : RL K F (vs.eraseIdx j) (xs.eraseIdx j) := by
  have := RpA.erase j h
  rw [← map_er] at this
  exact this
theorem erase_le {α : Type} {xs : List α} {j n : Nat} (h : xs.length ≤ n) : (xs.eraseIdx j).length ≤ n := Nat.le_trans (List.length_eraseIdx_le _ _) h
/-! ### a list so many times -/
def repL {α : Type} (xs : List α) (k : Int) : Option (List α) := if -(2 ^ 63) ≤ k ∧ k < 2 ^ 63 ∧ xs.length * k.toNat ≤ sizeLine then some (List.replicate k.toNat xs).flatten else none
theorem repL_ok {α : Type} {xs r : List α} {k : Int} (h : repL xs k = some r) : (-(2 ^ 63) ≤ k ∧ k < 2 ^ 63 ∧ xs.length * k.toNat ≤ sizeLine) ∧ (List.replicate k.toNat xs).flatten = r := by
  unfold repL at h
  split at h
  · exact ⟨by assumption, Option.some.inj h⟩
  · cases h
theorem RL.rep {α : Type} [Enc α] {K : PySem.W.Frag} {F : Hp} {vs : List V} {xs : List α} (h : RL K F vs xs) : ∀ n : Nat, RL K F (List.replicate n vs).flatten (List.replicate n xs).flatten
  | 0 => RpA.nil
  | n + 1 => by rw [List.replicate_succ, List.replicate_succ, List.flatten_cons, List.flatten_cons]; exact RL.app h (RL.rep h n)
theorem rep_len {α : Type} (xs : List α) (n : Nat) : (List.replicate n xs).flatten.length = xs.length * n := by
  rw [List.length_flatten, List.map_replicate, List.sum_replicate_nat, Nat.mul_comm]
theorem units65 {k : Nat} {A : Around} (r : Room k A) : A.units + 65 < cLine := by have := r.un; omega
def rSlF (K : PySem.W.Frag) : V → Option Int → Option Int → Hp → VK → Prop := fun x lo hi H Q => ∃ (F : Hp) (a : Addr) (xs : List V), x = .ref a ∧ F a = some (.tup xs) ∧ Same F H ∧
  ∀ q F' H', Gr M0 F H F' H' → F' q = some (.tup (cutV xs lo hi)) → Q (.ref q) H'
theorem sl_tupF {X : Cx} {K : PySem.W.Frag} (h : X.K = K := by rfl) : SlR X (rSlF K) := by
  subst h
  intro pins s σ H x v vl vu lo hi sl Q I rx hs pl pu ⟨F, a, xs, e, hx, hF, q⟩
  refine sl_tupA pins s σ H x v vl vu lo hi sl Q I rx hs pl pu ⟨a, xs, e, .inl (.inl (hF _ _ hx)), fun hfull => ?_, fun _ p hp => ?_⟩
  · refine q a F H (Gr.refl hF) ?_
    unfold cutV
    rw [hfull.1, hfull.2, List.drop_zero, Nat.sub_zero, List.take_length]
    exact hx
  · exact q p _ _ ((Gr.refl hF).frz (o := .tup (cutV xs lo hi)) hp) fzT
def popL {α : Type} (xs : List α) : Option (α × List α) := xs[xs.length - 1]?.map fun x => (x, xs.dropLast)
theorem popL_ok {α : Type} {xs r : List α} {x : α} (h : popL xs = some (x, r)) : xs[xs.length - 1]? = some x ∧ xs.dropLast = r := by
  unfold popL at h
  obtain ⟨y, h3, h4⟩ := Option.map_eq_some_iff.mp h
  cases h4
  exact ⟨h3, rfl⟩
/-! ### how many unlike tuples of ints -/
class IK (α : Type) [Enc α] where
  ks : α → List Int
  enc : ∀ x, Enc.d x = .tuple ((ks x).map .int)
  few : ∀ x, (ks x).length ≤ 8
  pos : ∀ x, 0 < (ks x).length
  inj : ∀ x y, ks x = ks y → x = y
instance : IK (Int × Int) := ⟨fun x => [x.1, x.2], fun _ => rfl, fun _ => by show 2 ≤ 8; decide, fun _ => Nat.succ_pos _, fun x y h => by
  obtain ⟨h1, h2⟩ := List.cons.inj h
  exact Prod.ext h1 (List.cons.inj h2).1⟩
instance : IK (T4 Int Int Int Int) := ⟨fun x => [x.a, x.b, x.c, x.e], fun _ => rfl, fun _ => by show 4 ≤ 8; decide, fun _ => Nat.succ_pos _, fun x y h => by
  obtain ⟨h1, h2⟩ := List.cons.inj h
  obtain ⟨h3, h4⟩ := List.cons.inj h2
  obtain ⟨h5, h6⟩ := List.cons.inj h4
  cases x
  cases y
  simp only at h1 h3 h5 h6
  rw [h1, h3, h5, (List.cons.inj h6).1]⟩
instance : IK (T3 Int Int Int) := ⟨fun x => [x.a, x.b, x.c], fun _ => rfl, fun _ => by show 3 ≤ 8; decide, fun _ => Nat.succ_pos _, fun x y h => by
  obtain ⟨h1, h2⟩ := List.cons.inj h
  obtain ⟨h3, h4⟩ := List.cons.inj h2
  cases x
  cases y
  simp only at h1 h3 h4
  rw [h1, h3, (List.cons.inj h4).1]⟩
theorem rp_ints {K : PySem.W.Frag} {F : Hp} : ∀ {ns : List Int} {vs : List V}, RpA K F vs (ns.map .int) → vs = ns.map V.int
  | [], _, .nil => rfl
  | _ :: _, _, .cons h t => by
    cases h
    rw [rp_ints t]
    rfl
theorem ik_rows {α : Type} [Enc α] [IK α] {K : PySem.W.Frag} {F : Hp} : ∀ (ds : List α) {vs : List V}, RpA K F vs (ds.map Enc.d) → ∃ ks : List (Addr × List Int), vs = ks.map (fun p => V.ref p.1) ∧ ds.map IK.ks = ks.map (·.2) ∧ ∀ p ∈ ks, SqT K F p.1 (p.2.map V.int)
  | [], _, h => by cases h; exact ⟨[], rfl, rfl, fun _ h => nomatch h⟩
  | x :: ds, _, h => by
    cases h with
    | cons h t =>
      obtain ⟨ks, e1, e2, e3⟩ := ik_rows ds t
      rw [IK.enc x] at h
      cases h with
      | tup hs hl ha =>
        obtain rfl := rp_ints ha
        refine ⟨(_, IK.ks x) :: ks, by rw [e1]; rfl, by rw [List.map_cons, List.map_cons, e2], fun p hp => ?_⟩
        rcases List.mem_cons.mp hp with rfl | hp
        · exact .inl (.inl hs)
        · exact e3 p hp
theorem len_same {α : Type} [DecidableEq α] {a b : List α} (ha : a.Nodup) (hb : b.Nodup) (h : ∀ x, x ∈ a ↔ x ∈ b) : a.length = b.length := by
  refine Nat.le_antisymm ?_ ?_
  · exact go ha fun x hx => (h x).mp hx
  · exact go hb fun x hx => (h x).mpr hx
where
  go : ∀ {a b : List α}, a.Nodup → (∀ x ∈ a, x ∈ b) → a.length ≤ b.length
    | [], _, _, _ => Nat.zero_le _
    | x :: a, b, ha, h => by
      obtain ⟨h1, h2⟩ := List.nodup_cons.mp ha
      have hx := h x (List.mem_cons_self ..)
      have := go (a := a) (b := b.erase x) h2 fun y hy => (List.mem_erase_of_ne (fun e => by rw [e] at hy; exact h1 hy)).mpr (h y (List.mem_cons_of_mem _ hy))
      rw [List.length_erase_of_mem hx] at this
      have hp := List.length_pos_of_mem hx
      rw [List.length_cons]
      omega
def undup {α : Type} [DecidableEq α] : List α → List α
  | [] => []
  | x :: l => if x ∈ l then undup l else x :: undup l
theorem mem_undup {α : Type} [DecidableEq α] {x : α} : ∀ {l : List α}, x ∈ undup l ↔ x ∈ l
  | [] => Iff.rfl
  | y :: l => by
    unfold undup
    by_cases h : y ∈ l
    · rw [if_pos h, mem_undup, List.mem_cons]
      exact ⟨.inr, fun e => e.elim (fun e => e ▸ h) id⟩
    · rw [if_neg h, List.mem_cons, List.mem_cons, mem_undup]
theorem nodup_undup {α : Type} [DecidableEq α] : ∀ l : List α, (undup l).Nodup
  | [] => List.nodup_nil
  | y :: l => by
    unfold undup
    by_cases h : y ∈ l
    · rw [if_pos h]; exact nodup_undup l
    · rw [if_neg h]
      exact List.nodup_cons.mpr ⟨fun z => h (mem_undup.mp z), nodup_undup l⟩
def lsetT {α : Type} [DecidableEq α] (xs : List α) : Option Int := if xs.length < 64 then some (((undup xs).length : Nat) : Int) else none
theorem lsetT_ok {α : Type} [DecidableEq α] {xs : List α} {n : Int} (h : lsetT xs = some n) : xs.length < 64 ∧ (((undup xs).length : Nat) : Int) = n := by
  unfold lsetT at h
  split at h
  · exact ⟨by assumption, Option.some.inj h⟩
  · cases h
def tLenSetT (K : PySem.W.Frag) {α : Type} [Enc α] [IK α] [DecidableEq α] (ta : TE) : TE := fun σ H Q => ta σ H fun x H1 => ∃ (l : Addr) (vs : List V) (ds : List α), x = V.ref l ∧ SqL K H1 l vs ∧ RL K H1 vs ds ∧ ds.length < 64 ∧ Q (.int ((undup ds).length : Nat)) H1
theorem pe_lenSetT {X : Cx} {K : PySem.W.Frag} {α : Type} [Enc α] [IK α] [DecidableEq α] {a : Expr} {ta : TE} {p p2 q pos : Pos} (hc : X.calm = true) (hu : X.A.units + 64 < cLine) (hg : Gl X "len") (hm : X.mg "len" = none) (hg2 : Gl X "set") (hm2 : X.mg "set" = none) (ha : PE X a ta) (hK : X.K = K := by rfl)
    (na : starEach [a] X.env = (false, eval a X.env) :: starEach [] X.env := by rfl) : PE X (.Call (.Name "len" p) [.Call (.Name "set" p2) [a] [] q] [] pos) (tLenSetT (α := α) K ta) := by
  subst hK
  refine ⟨fun pins s σ H Q I h => ?_⟩
  refine Call_ (ld_blt I hg hm PySem.boot_len ?_)
  refine PyProof.Rows.callWith_builtin1 (PyProof.Rows.args_cons ?_ rfl) rfl rfl
  refine Call_ (ld_blt I hg2 hm2 PyProof.Rows.boot_set ?_)
  refine PyProof.Rows.callWith_type1 (PyProof.Rows.args_cons (thn (ha.run pins s σ H _ I h) fun v s1 ⟨x, H1, I1, r1, q1⟩ => PyProof.Rows.args_nil ?_) na) na rfl
  obtain ⟨l, vs, ds, rfl, hq, hA, h1, q1⟩ := q1
  cases r1
  obtain ⟨ks, rfl, e2, e3⟩ := ik_rows ds hA
  obtain ⟨its, rv, pl, hz⟩ := I1.list hq
  have hlen : ks.length = ds.length := by have := congrArg List.length e2; rwa [List.length_map, List.length_map, eq_comm] at this
  refine call_set_tups (P := X.prog) (w := X.w) ks (I1.ok.hd hc) pl.isList (by simpa using refs_of_vals rv) (fun p hp => I1.isT (e3 p hp)) (by omega) (by omega) fun h' tk L es ep t R g k => ?_
  have hL : L.length = (undup ds).length := by
    have k1 := R.nd
    have k2 : ((undup ds).map IK.ks).Nodup := by
      refine List.pairwise_map.mpr ((nodup_undup ds).imp fun {x y} hne e => hne (IK.inj x y e))
    have := len_same k1 k2 fun z => by
      constructor
      · intro hz
        obtain ⟨p, hp, rfl⟩ := List.mem_map.mp hz
        have hp2 := List.mem_of_mem_take (g.sub p hp)
        have : p.2 ∈ ds.map IK.ks := by rw [e2]; exact List.mem_map.mpr ⟨p, hp2, rfl⟩
        obtain ⟨x, hx, e⟩ := List.mem_map.mp this
        exact List.mem_map.mpr ⟨x, mem_undup.mpr hx, e⟩
      · intro hz
        obtain ⟨x, hx, rfl⟩ := List.mem_map.mp hz
        have : IK.ks x ∈ ks.map (·.2) := by rw [← e2]; exact List.mem_map.mpr ⟨x, mem_undup.mp hx, rfl⟩
        obtain ⟨p, hp, e⟩ := List.mem_map.mp this
        rw [← e]
        exact g.all p (by rw [List.take_length]; exact hp)
    rwa [List.length_map, List.length_map] at this
  refine PyProof.Rows.args_nil ?_
  obtain ⟨o, ho, hex, hd⟩ := R.ob
  have I2 : Inv X pins σ H1 { s1 with heap := h', toks := tk } := I1.kept fun b o e => k b o e
  have hsz : es.size = L.length := SetTR.size (s := { s1 with heap := h', toks := tk }) R
  have hfit : t.fits es.size = true := SetTR.fits (s := { s1 with heap := h', toks := tk }) R
  have hfew := R.few
  refine call_len_set (s := { s1 with heap := h', toks := tk }) ho hex hd hfit (by rw [hsz]; omega) ⟨.int ((undup ds).length : Nat), H1, I2.tok _, ⟨_, by rw [hsz, hL]⟩, q1⟩
end G
/-! My base, part 23: dicts of one's own. -/
namespace G
open PySem PySem.Spec PyProof.Rows L2 TL

/-- a thing of one's own at p, whatever it is, but no tuple -/
structure Od (H0 F H : Hp) (p : Addr) (ob : HO) : Prop where
  h : H p = some ob
  nF : F p = none
  n0 : H0 p = none
  nt : ∀ ts, ob ≠ .tup ts
section
variable {M : Addr → Prop} {F0 H0 F H F' H' : Hp} {p q B C : Addr} {ob o u : HO} {K : PySem.W.Frag} {xs ws us : List V} {b : Bag} {b2 : Bag2}
theorem Od.new (g : Gr M F0 H0 F H) (hp : H p = none) (nt : ∀ ts, o ≠ .tup ts) : Od H0 F (upd H p o) p o := ⟨upd_same, g.noneF hp, g.none0 hp, nt⟩
theorem Od.frz (w : Od H0 F H p ob) (hq : H q = none) : Od H0 (upd F q o) (upd H q o) p ob :=
  have ne := ne_of_none w.h hq
  ⟨(upd_ne ne).trans w.h, (upd_ne ne).trans w.nF, w.n0, w.nt⟩
theorem Od.own (w : Od H0 F H p ob) (hq : H q = none) : Od H0 F (upd H q o) p ob :=
  have ne := ne_of_none w.h hq
  ⟨(upd_ne ne).trans w.h, w.nF, w.n0, w.nt⟩
theorem Od.put (w : Od H0 F H p ob) (nt : ∀ ts, o ≠ .tup ts) : Od H0 F (upd H p o) p o := ⟨upd_same, w.nF, w.n0, nt⟩
theorem Od.other (w : Od H0 F H p ob) (ne : p ≠ q) : Od H0 F (upd H q o) p ob := ⟨(upd_ne ne).trans w.h, w.nF, w.n0, w.nt⟩
theorem Od.ne (w : Od H0 F H p ob) (hq : H q = none) : p ≠ q := ne_of_none w.h hq
theorem Od.gr (w : Od H0 F H p ob) (g : Gr M F H F' H') (m : ¬ M p) : Od H0 F' H' p ob :=
  ⟨g.keep _ _ m w.h, g.newL (by rw [w.h]; simp) w.nF (fun ts z => by rw [g.keep _ _ m w.h] at z; exact w.nt ts (Option.some.inj z)), w.n0, w.nt⟩
theorem Od.gr0 (w : Od H0 F H p ob) (g : Gr M0 F H F' H') : Od H0 F' H' p ob := w.gr g id
theorem Od.fz (w : Od H0 F H p ob) (ne : p ≠ q) : Od H0 (upd F q o) H p ob := ⟨w.h, (upd_ne ne).trans w.nF, w.n0, w.nt⟩
theorem Od.apart (w : Od H0 F H p ob) (k : Gr M0 H H F' H') : Od H0 F H' p ob := ⟨k.keep _ _ id w.h, w.nF, w.n0, w.nt⟩
theorem Od.adopt {ts : List V} (w : Od H0 F H p ob) (h : H q = some (.tup ts)) : Od H0 (upd F q (.tup ts)) H p ob :=
  have ne : p ≠ q := fun z => by subst z; rw [w.h] at h; exact w.nt ts (Option.some.inj h)
  ⟨w.h, (upd_ne ne).trans w.nF, w.n0, w.nt⟩
theorem Ow.adopt {ts : List V} (w : Ow H0 F H p ws) (h : H q = some (.tup ts)) : Ow H0 (upd F q (.tup ts)) H p ws :=
  have ne : p ≠ q := fun z => by subst z; rw [w.h] at h; cases h
  ⟨w.h, (upd_ne ne).trans w.nF, w.n0⟩
theorem BagAt.adopt {ts : List V} (a : BagAt F H B C b) (h : H q = some (.tup ts)) : BagAt (upd F q (.tup ts)) H B C b :=
  have n1 : B ≠ q := fun z => by subst z; rw [a.hB] at h; cases h
  have n2 : C ≠ q := fun z => by subst z; rw [a.hC] at h; cases h
  ⟨a.hB, a.hC, a.ne, (upd_ne n1).trans a.fB, (upd_ne n2).trans a.fC⟩
theorem BagAt2.adopt {ts : List V} (a : BagAt2 F H B C b2) (h : H q = some (.tup ts)) : BagAt2 (upd F q (.tup ts)) H B C b2 :=
  have n1 : B ≠ q := fun z => by subst z; rw [a.hB] at h; cases h
  have n2 : C ≠ q := fun z => by subst z; rw [a.hC] at h; cases h
  ⟨a.hB, a.hC, a.ne, (upd_ne n1).trans a.fB, (upd_ne n2).trans a.fC⟩
end

/-! ### tables of pairs -/
section
variable {α β γ : Type} [DecidableEq α]
def dval (xs : List (α × β)) (x : α) : Option β := (xs.find? fun p => decide (p.1 = x)).map (·.2)
def dput (xs : List (α × β)) (x : α) (y : β) : List (α × β) := if (dval xs x).isSome then xs.map (fun p => if p.1 = x then (p.1, y) else p) else xs ++ [(x, y)]
def dputO (xs : List (α × β)) (x : α) (y : β) : Option (List (α × β)) := if xs.length < sizeLine then some (dput xs x y) else none
theorem dputO_ok {xs r : List (α × β)} {x : α} {y : β} (h : dputO xs x y = some r) : xs.length < sizeLine ∧ dput xs x y = r := by
  unfold dputO at h
  split at h
  · next h1 => exact ⟨h1, Option.some.inj h⟩
  · cases h
theorem dval_nil (x : α) : dval ([] : List (α × β)) x = none := rfl
theorem dval_pos {p : α × β} {r : List (α × β)} {x : α} (e : p.1 = x) : dval (p :: r) x = some p.2 := by simp [dval, List.find?_cons, e]
theorem dval_neg {p : α × β} {r : List (α × β)} {x : α} (e : ¬ p.1 = x) : dval (p :: r) x = dval r x := by simp [dval, List.find?_cons, e]
theorem dput_len (xs : List (α × β)) (x : α) (y : β) : (dput xs x y).length ≤ xs.length + 1 := by
  unfold dput
  split
  · rw [List.length_map]; exact Nat.le_succ _
  · rw [List.length_append]; exact Nat.le_refl _
end

/-- things that are keys: ints, texts, tuples of these -/
class DK (α : Type) [Enc α] where
  Kt : Type
  dec : DecidableEq Kt
  ho : List (Kt × V) → HO
  k : α → Kt
  inj : ∀ {x y : α}, k x = k y → x = y
  ok : α → Prop
  okR : ∀ {K : PySem.W.Frag} {F : Hp} {v : V} {x : α}, R K F v x → ok x
  nt : ∀ kvs ts, ho kvs ≠ .tup ts
  mu : ∀ kvs, Mut (some (ho kvs))
  isD : ∀ {H : Hp} {p : Addr} {kvs : List (Kt × V)}, Rd H p (ho kvs) → IsD H p
  get : ∀ {K : PySem.W.Frag} {F H : Hp} {p : Addr} {y : V} {x : α} {kvs : List (Kt × V)}, Rd H p (ho kvs) → R K F y x → Same F H → DGet H p y (@valV Kt dec kvs (k x))
  put : ∀ {K : PySem.W.Frag} {F H : Hp} {p : Addr} {y v : V} {x : α} {kvs : List (Kt × V)}, H p = some (ho kvs) → R K F y x → Same F H → kvs.length < sizeLine → DPut H p y v (upd H p (ho (@putK Kt dec kvs (k x) v)))
instance {α : Type} [Enc α] [DK α] : DecidableEq (DK.Kt α) := DK.dec
instance : DK Int where
  Kt := Key
  dec := inferInstance
  ho := .dK
  k := Sum.inl
  inj := fun h => Sum.inl.inj h
  ok := fun _ => True
  okR := fun _ => trivial
  nt := fun _ _ z => nomatch z
  mu := fun _ => trivial
  isD := fun h => .inl ⟨_, h⟩
  get := fun h r s => by
    obtain rfl := R.int_v r
    exact .inl ⟨_, _, h, rfl, rfl⟩
  put := fun h r s hl => by
    obtain rfl := R.int_v r
    exact .inl ⟨_, _, h, rfl, hl, rfl⟩
instance : DK Str where
  Kt := Key
  dec := inferInstance
  ho := .dK
  k := Sum.inr
  inj := fun h => Sum.inr.inj h
  ok := GS
  okR := fun r => (R.str_v r).2
  nt := fun _ _ z => nomatch z
  mu := fun _ => trivial
  isD := fun h => .inl ⟨_, h⟩
  get := fun h r s => by
    obtain ⟨rfl, _⟩ := R.str_v r
    exact .inl ⟨_, _, h, rfl, rfl⟩
  put := fun h r s hl => by
    obtain ⟨rfl, _⟩ := R.str_v r
    exact .inl ⟨_, _, h, rfl, hl, rfl⟩
/-- a tuple of ints as a key -/
abbrev ikeys (ns : List Int) : List Key := ns.map Sum.inl
theorem ikeys_kV (ns : List Int) : (ikeys ns).map kV = ns.map V.int := by rw [ikeys, List.map_map]; rfl
theorem ik_tup {α : Type} [Enc α] [IK α] {K : PySem.W.Frag} {F : Hp} {v : V} {x : α} (r : R K F v x) : ∃ b, v = .ref b ∧ F b = some (.tup ((ikeys (IK.ks x)).map kV)) := by
  have r' : Rp K F v (.tuple ((IK.ks x).map .int)) := by rw [← IK.enc x]; exact r
  cases r' with
  | tup hs hl ha =>
    obtain rfl := rp_ints ha
    exact ⟨_, rfl, by rw [ikeys_kV]; exact hs⟩
theorem ikeys_inj : ∀ {a b : List Int}, ikeys a = ikeys b → a = b
  | [], [], _ => rfl
  | [], _ :: _, h => by cases h
  | _ :: _, [], h => by cases h
  | x :: a, y :: b, h => by
    have h' : Sum.inl x :: ikeys a = Sum.inl y :: ikeys b := h
    obtain ⟨h1, h2⟩ := List.cons.inj h'
    rw [Sum.inl.inj h1, ikeys_inj h2]
instance {α : Type} [Enc α] [IK α] : DK α where
  Kt := List Key
  dec := inferInstance
  ho := .dT
  k := fun x => ikeys (IK.ks x)
  inj := fun h => IK.inj _ _ (ikeys_inj h)
  ok := fun _ => True
  okR := fun _ => trivial
  nt := fun _ _ z => nomatch z
  mu := fun _ => trivial
  isD := fun h => .inr ⟨_, h⟩
  get := fun h r s => by
    obtain ⟨b, rfl, hb⟩ := ik_tup r
    exact .inr ⟨_, _, b, h, rfl, s _ _ hb, rfl⟩
  put := fun h r s hl => by
    obtain ⟨b, rfl, hb⟩ := ik_tup r
    exact .inr ⟨_, _, b, h, rfl, s _ _ hb, hl, rfl⟩

/-- the entries kvs stand for the pairs xs -/
def RD {α β : Type} [Enc α] [DK α] [Enc β] (K : PySem.W.Frag) (F : Hp) (kvs : List (DK.Kt α × V)) (xs : List (α × β)) : Prop :=
  kvs.map (·.1) = xs.map (fun p => DK.k p.1) ∧ RL K F (kvs.map (·.2)) (xs.map (·.2)) ∧ ∀ p ∈ xs, DK.ok p.1
section
variable {α β : Type} [Enc α] [DK α] [Enc β] {K : PySem.W.Frag} {F F' : Hp} {kvs : List (DK.Kt α × V)} {xs : List (α × β)}
theorem RD.nil : RD K F ([] : List (DK.Kt α × V)) ([] : List (α × β)) := ⟨rfl, RpA.nil, fun _ h => nomatch h⟩
theorem RD.up (h : RD K F kvs xs) (e : Same F F') : RD K F' kvs xs := ⟨h.1, RpA.up h.2.1 e, h.2.2⟩
theorem RD.len (h : RD K F kvs xs) : kvs.length = xs.length := by
  have := congrArg List.length h.1
  rwa [List.length_map, List.length_map] at this
theorem RD.cons_iff {q : DK.Kt α × V} {p : α × β} : RD K F (q :: kvs) (p :: xs) ↔ (q.1 = DK.k p.1 ∧ R K F q.2 p.2 ∧ DK.ok p.1) ∧ RD K F kvs xs := by
  constructor
  · rintro ⟨h1, h2, ho⟩
    obtain ⟨h3, h4⟩ := List.cons.inj h1
    cases h2 with
    | cons r rs => exact ⟨⟨h3, r, ho _ (List.mem_cons_self ..)⟩, h4, rs, fun p hp => ho p (List.mem_cons_of_mem _ hp)⟩
  · rintro ⟨⟨h3, r, o⟩, h4, rs, ho⟩
    refine ⟨by rw [List.map_cons, List.map_cons, h3, h4], RpA.cons r rs, fun p hp => ?_⟩
    rcases List.mem_cons.mp hp with rfl | hp
    · exact o
    · exact ho p hp
theorem RD.nil_l (h : RD K F kvs ([] : List (α × β))) : kvs = [] := List.eq_nil_of_length_eq_zero h.len
theorem RD.cons_l {p : α × β} (h : RD K F kvs (p :: xs)) : ∃ q qs, kvs = q :: qs := by
  cases kvs with
  | nil => exact absurd h.len (by simp)
  | cons q qs => exact ⟨q, qs, rfl⟩
variable [DecidableEq α]
theorem RD.val : ∀ {xs : List (α × β)} {kvs : List (DK.Kt α × V)}, RD K F kvs xs → ∀ x : α, (dval xs x = none ∧ valV kvs (DK.k x) = none) ∨ ∃ y v, dval xs x = some y ∧ valV kvs (DK.k x) = some v ∧ R K F v y
  | [], kvs, h, x => by
    obtain rfl := h.nil_l
    exact .inl ⟨rfl, rfl⟩
  | p :: xs, kvs, h, x => by
    obtain ⟨q, qs, rfl⟩ := h.cons_l
    obtain ⟨⟨h1, h2, ho⟩, h3⟩ := RD.cons_iff.mp h
    by_cases e : p.1 = x
    · exact .inr ⟨p.2, q.2, dval_pos e, valV_pos (by rw [h1, e]), h2⟩
    · have e2 : ¬ q.1 = DK.k x := fun z => e (DK.inj (h1.symm.trans z))
      rw [dval_neg e, valV_neg e2]
      exact RD.val h3 x
theorem RD.get (h : RD K F kvs xs) {x : α} {y : β} (e : dval xs x = some y) : ∃ v, valV kvs (DK.k x) = some v ∧ R K F v y := by
  rcases h.val x with ⟨z, _⟩ | ⟨y', v, z, e2, r⟩
  · rw [z] at e; cases e
  · rw [z] at e; cases e; exact ⟨v, e2, r⟩
theorem RD.is (h : RD K F kvs xs) (x : α) : (valV kvs (DK.k x)).isSome = (dval xs x).isSome := by
  rcases h.val x with ⟨z, z2⟩ | ⟨y', v, z, e2, r⟩
  · rw [z, z2]; rfl
  · rw [z, e2]; rfl
theorem RD.getD (h : RD K F kvs xs) (x : α) {z : V} {d : β} (r : R K F z d) : R K F ((valV kvs (DK.k x)).getD z) ((dval xs x).getD d) := by
  rcases h.val x with ⟨e, e2⟩ | ⟨y', v, e, e2, r2⟩
  · rw [e, e2]; exact r
  · rw [e, e2]; exact r2
theorem RD.getO (h : RD K F kvs xs) (x : α) : R K F ((valV kvs (DK.k x)).getD .non) (dval xs x) := by
  rcases h.val x with ⟨e, e2⟩ | ⟨y', v, e, e2, r2⟩
  · rw [e, e2]; exact Rp.non
  · rw [e, e2]; exact r2
theorem RD.app {us : List (DK.Kt α × V)} {ys : List (α × β)} (h : RD K F kvs xs) (h2 : RD K F us ys) : RD K F (kvs ++ us) (xs ++ ys) :=
  ⟨by rw [List.map_append, List.map_append, h.1, h2.1], by rw [List.map_append, List.map_append]; exact RL.app h.2.1 h2.2.1, fun p hp => (List.mem_append.mp hp).elim (h.2.2 p) (h2.2.2 p)⟩
theorem RD.repl (x : α) {y : β} {v : V} (r : R K F v y) : ∀ {xs : List (α × β)} {kvs : List (DK.Kt α × V)}, RD K F kvs xs → RD K F (kvs.map fun kv => if kv.1 = DK.k x then (kv.1, v) else kv) (xs.map fun p => if p.1 = x then (p.1, y) else p)
  | [], kvs, h => by
    obtain rfl := h.nil_l
    exact RD.nil
  | p :: xs, kvs, h => by
    obtain ⟨q, qs, rfl⟩ := h.cons_l
    obtain ⟨⟨h1, h2, ho⟩, h3⟩ := RD.cons_iff.mp h
    rw [List.map_cons, List.map_cons]
    refine RD.cons_iff.mpr ⟨?_, RD.repl x r h3⟩
    by_cases e : p.1 = x
    · rw [if_pos e, if_pos (by rw [h1, e])]; exact ⟨h1, r, ho⟩
    · rw [if_neg e, if_neg (fun z => e (DK.inj (h1.symm.trans z)))]; exact ⟨h1, h2, ho⟩
theorem RD.put (h : RD K F kvs xs) (x : α) (hx : DK.ok x) {y : β} {v : V} (r : R K F v y) : RD K F (putK kvs (DK.k x) v) (dput xs x y) := by
  have e : (kvs.any fun kv => decide (kv.1 = DK.k x)) = (dval xs x).isSome := by rw [valV_any]; exact h.is x
  unfold putK dput
  rw [e]
  by_cases q : (dval xs x).isSome = true
  · rw [if_pos q, if_pos q]; exact RD.repl x r h
  · rw [if_neg q, if_neg q]
    exact h.app (RD.cons_iff.mpr ⟨⟨rfl, r, hx⟩, RD.nil⟩)
omit [DecidableEq α] in
theorem RD.at : ∀ {xs : List (α × β)} {kvs : List (DK.Kt α × V)} {i : Nat} {q : DK.Kt α × V}, RD K F kvs xs → kvs[i]? = some q → ∃ p, xs[i]? = some p ∧ q.1 = DK.k p.1 ∧ R K F q.2 p.2 ∧ DK.ok p.1
  | [], kvs, i, q, h, e => by
    obtain rfl := h.nil_l
    simp at e
  | p :: xs, kvs, i, q, h, e => by
    obtain ⟨q', qs, rfl⟩ := h.cons_l
    obtain ⟨⟨h1, h2, ho⟩, h3⟩ := RD.cons_iff.mp h
    cases i with
    | zero =>
      rw [List.getElem?_cons_zero] at e
      cases e
      exact ⟨p, rfl, h1, h2, ho⟩
    | succ j =>
      rw [List.getElem?_cons_succ] at e
      rw [List.getElem?_cons_succ]
      exact RD.at h3 e
end

/-! ### rules -/
section
variable {X : Cx}
def rInDic : R2 := fun x y H Q => ∃ a o b, y = .ref a ∧ DGet H a x o ∧ o.isSome = b ∧ Q (.bl b) H
def rNotInDic : R2 := fun x y H Q => ∃ a o b, y = .ref a ∧ DGet H a x o ∧ o.isSome = b ∧ Q (.bl (!b)) H
theorem op_inDic (hu : X.A.units + 1 < cLine) : OpR X (compareOp .In) rInDic := by
  intro pins s σ H x y v u Q I rx ry ⟨a, o, b, e, g, e2, q⟩
  subst e e2
  obtain rfl : u = Value.ref a := ry
  exact d_in hu I g rx fun s1 I1 => ⟨.bl o.isSome, H, I1, rfl, q⟩
theorem op_notInDic (hu : X.A.units + 1 < cLine) : OpR X (compareOp .NotIn) rNotInDic := by
  intro pins s σ H x y v u Q I rx ry ⟨a, o, b, e, g, e2, q⟩
  subst e e2
  obtain rfl : u = Value.ref a := ry
  exact d_notIn hu I g rx fun s1 I1 => ⟨.bl (!o.isSome), H, I1, rfl, q⟩
/-- d.get(k), d.get(k, z): what comes is named -/
def tGet1 (td ty : TE) : TE := fun σ H Q => td σ H fun x H1 => ∃ a, x = .ref a ∧ IsD H1 a ∧ ty σ H1 fun y H2 => ∃ o r, DGet H2 a y o ∧ o.getD .non = r ∧ Q r H2
def tGet2 (td ty tx : TE) : TE := fun σ H Q => td σ H fun x H1 => ∃ a, x = .ref a ∧ IsD H1 a ∧ ty σ H1 fun y H2 => tx σ H2 fun z H3 => ∃ o r, DGet H3 a y o ∧ o.getD z = r ∧ Q r H3
theorem pe_get1 {o e : Expr} {apos cpos : Pos} {td ty : TE} (hu : X.A.units + 1 < cLine) (ho : PE X o td) (he : PE X e ty) (m : M1 X o "get" apos e cpos) : PE X (.Call (.Attribute o "get" apos) [e] [] cpos) (tGet1 td ty) := by
  refine ⟨fun pins s σ H Q I h => ?_⟩
  refine wpAny_Call_method m.base m.few m.line PySem.F.plainAttrs_dict PySem.F.slot_dict_get PySem.F.type_dict_get (thn (ho.run pins s σ H _ I h) fun u s1 ⟨x, H1, I1, rx, a, ex, d, q1⟩ => ?_)
  subst ex
  obtain rfl : u = Value.ref a := rx
  obtain ⟨t1, t2, _⟩ := isD_at I1 d
  refine ⟨t1, t2, ?_⟩
  rw [m.trees]
  refine Calls.callWith_builtin rfl (Calls.evalArgs_plain (Calls.spliced_cons (thn (he.run pins s1 σ H1 _ I1 q1) fun iv s2 ⟨y, H2, I2, ry, ov, r, g, e, q2⟩ => Calls.spliced_nil ?_)))
  subst e
  exact d_get1 hu I2 g ry fun w' s3 I3 rw' => ⟨_, H2, I3, rw', q2⟩
theorem pe_get2 {o e f : Expr} {apos cpos : Pos} {td ty tx : TE} (hu : X.A.units + 1 < cLine) (ho : PE X o td) (he : PE X e ty) (hf : PE X f tx) (m : M2 X o "get" apos e f cpos) : PE X (.Call (.Attribute o "get" apos) [e, f] [] cpos) (tGet2 td ty tx) := by
  refine ⟨fun pins s σ H Q I h => ?_⟩
  refine wpAny_Call_method m.base m.few m.line PySem.F.plainAttrs_dict PySem.F.slot_dict_get PySem.F.type_dict_get (thn (ho.run pins s σ H _ I h) fun u s1 ⟨x, H1, I1, rx, a, ex, d, q1⟩ => ?_)
  subst ex
  obtain rfl : u = Value.ref a := rx
  obtain ⟨t1, t2, _⟩ := isD_at I1 d
  refine ⟨t1, t2, ?_⟩
  rw [m.trees]
  refine Calls.callWith_builtin rfl (Calls.evalArgs_plain (Calls.spliced_cons (thn (he.run pins s1 σ H1 _ I1 q1) fun iv s2 ⟨y, H2, I2, ry, q2⟩ =>
    Calls.spliced_cons (thn (hf.run pins s2 σ H2 _ I2 q2) fun fv s3 ⟨z, H3, I3, rz, ov, r, g, e, q3⟩ => Calls.spliced_nil ?_))))
  subst e
  exact d_get2 hu I3 g ry rz fun w' s4 I4 rw' => ⟨_, H3, I4, rw', q3⟩
/-- {k: v}, k a tuple of ints and texts -/
def tDispT (tk tv : TE) : TE := fun σ H Q => ∀ p, H p = none → tk σ (upd H p (.dT [])) fun y H1 => tv σ H1 fun v H2 =>
  H2 p = some (.dT []) ∧ ∃ (b : Addr) (k : List Key), y = .ref b ∧ H2 b = some (.tup (k.map kV)) ∧ Q (.ref p) (upd H2 p (.dT [(k, v)]))
theorem pe_dispT {pos : Pos} {k v : Expr} {tk tv : TE} (hu : X.A.units < cLine) (hk : PE X k tk) (hv : PE X v tv) : PE X (.Dict [some k] [v] pos) (tDispT tk tv) := by
  refine ⟨fun pins s σ H Q I q => ?_⟩
  have hn := I.hok.fresh (Nat.le_refl s.heap.objs.size)
  have I1 := I.laid (a := s.heap.objs.size) (o := .dT []) (h' := s.heap.push { cls := .type "dict", data := .dict #[] }) (t' := s.toks) (fun _ _ q => Heap.get?_push_of_some _ q) (Nat.le_refl _) (dt_empty s.heap I.big)
  have sh := zip_pairTrees [some k] [v] X.env pos rfl rfl
  rw [arm_eval_Dict, sh, dictDisplay_pairs (pairTrees [some k] [v] X.env pos) (fun z => nomatch z) (by show 1 < 17; decide)]
  refine wpAny_bind (wpAny_standAt (wpAny_bind (wpAny_subDictH (knd := tupleKind (mixKind X.prog X.w)) hu (by show 1 ≤ 15; decide) ?_)))
  refine pairTrees_cons_walk (thn (hk.run pins _ σ _ _ I1 (q _ hn)) fun u s1 ⟨y, H1, I2, ry, q1⟩ => thn (hv.run pins s1 σ H1 _ I2 q1) fun w2 s2 ⟨y2, H2, I3, ry2, q2⟩ => pairTrees_nil_walk ?_)
  obtain ⟨e, b, ks, e1, hb, q3⟩ := q2
  subst e1
  obtain rfl : u = Value.ref b := ry
  obtain ⟨z, hd, xs, rel, dd⟩ := dt_of I3.hok e
  cases rel
  refine ⟨[(ks, b, w2)], ⟨rfl, rfl, key_of I3.hok hb, trivial⟩, dd, fun h' tk' dd' hs => wpAny_pure ?_⟩
  refine ⟨.ref s.heap.objs.size, _, ?_, rfl, q3⟩
  have he : ∃ q, h'.get? s.heap.objs.size = some q := let ⟨q, _, _, hq, _⟩ := dd'; ⟨q, hq⟩
  have neb : b ≠ s.heap.objs.size := ne_of hb e (fun z => nomatch z)
  refine d_write I3 (by rw [e]; exact True.intro) hs he ?_
  obtain ⟨o, es, ep, h1, h2, h3, h4, h5, h6⟩ := dd'
  refine ⟨by show 1 ≤ sizeLine; decide, hd, [(ks, b, w2)], .cons ⟨rfl, ?_, ry2⟩ .nil, o, es, ep, h1, h2, h3, h4, h6⟩
  show upd H2 _ _ b = _
  rw [upd_ne neb]
  exact hb
end

/-! ### walking -/
/-- the pairs of a locked dict with tuple keys, each a new tuple -/
def ItiT (d : Addr) (o : Obj) (kvs : List (List Key × V)) : It :=
  ⟨fun i H => H d = some (.frz o (.dT kvs)) ∧ i < kvs.length, fun i H x H' => ∃ T k v q, kvs[i]? = some (k, v) ∧ x = .ref T ∧ H T = none ∧ H q = some (.tup (k.map kV)) ∧ H' = upd H T (.tup [.ref q, v]), fun i H => H d = some (.frz o (.dT kvs)) ∧ kvs.length ≤ i⟩

section
variable {X : Cx} {pins : List (Addr × Obj)} {σ : L2.St} {H : Hp} {s : Shared} {d : Addr} {o : Obj}
theorem frzT2 {kvs : List (List Key × V)} (I : Inv X pins σ H s) (h : H d = some (.frz o (.dT kvs))) :
    (d == sysModules) = false ∧ s.heap.get? d = some o ∧ o.ExactDict ∧ ∃ (es : Array DictEntry) (ep : Nat), o.data = .dict es ep ∧ es.size = kvs.length ∧
      ∀ (i : Nat) (k : List Key) (v : V), kvs[i]? = some (k, v) → ∃ (en : DictEntry) (q : Addr), es[i]? = some en ∧ en.key = .ref q ∧ H q = some (.tup (k.map kV)) ∧ RelV v en.val := by
  obtain ⟨hd, z, hs, xs, pr, o', es, ep, ho, hx, hdt, he, _⟩ := I.hok d _ h
  rw [hd] at ho
  cases ho
  refine ⟨hs, hd, hx, es, ep, hdt, ?_, fun i k v e => ?_⟩
  · have l1 : es.size = xs.length := size_of_entries he
    have l2 : kvs.length = xs.length := Paired.length pr
    omega
  · obtain ⟨b, hb, e1, e2, e3⟩ := paired_get pr e
    have q := entry_at he i
    rw [hb] at q
    exact ⟨_, b.2.1, q, rfl, e2, e3⟩
end
section
variable {P : Program} {w : World} {K : PySem.W.Frag} {d : Addr} {o : Obj} {es : Array DictEntry} {ep : Nat}
theorem turn_itemsT {kvs : List (List Key × V)} {elts : List Expr} {kk : Nat} {tpos : Pos} (it : Addr) (hod : o.data = .dict es ep) :
    Turn P w K (.Tuple elts kk tpos) (ItiT d o kvs) [it] it (fun i h => ∃ ok ov, IsItemIter h it d i kvs.length ep ok ov) where
  mem := by simp
  obj := fun i h st b hb => by
    have e : b = it := by simpa using hb
    subst e
    obtain ⟨ok, ov, e⟩ := st
    exact ⟨_, e, fun v z => nomatch z⟩
  keep := fun i h h' st k => let ⟨ok, ov, e⟩ := st; ⟨ok, ov, k it (by simp) _ e⟩
  item := by
    intro X hP hw hK hc i pins s σ H E I hf st hg
    subst hP hw hK
    obtain ⟨hd, hi⟩ := hg
    obtain ⟨hs, hgd, hx, es', ep', hdt, hsz, ent⟩ := frzT2 I hd
    obtain ⟨rfl, rfl⟩ := dict_ep hod hdt
    obtain ⟨⟨k, v⟩, hkv⟩ : ∃ p, kvs[i]? = some p := ⟨kvs[i], List.getElem?_eq_getElem hi⟩
    obtain ⟨en, q, hen, hkey, hq, ru⟩ := ent i k v hkv
    obtain ⟨ok, ov, he⟩ := st
    rw [← hsz] at he
    have hlt : it < s.heap.objs.size := Heap.lt_size he
    have hi2 : i < es'.size := by omega
    have hen2 : es'[i] = en := by rw [Array.getElem?_eq_getElem hi2] at hen; exact Option.some.inj hen
    refine DT.nextI he ⟨o, hgd, hx, hdt⟩ hi2 fun h' ho hT hz hk => ?_
    rw [hen2] at ho hT
    refine ⟨_, rfl, wpAny_letOwnedTupleGo_items (s := { s with heap := h' }) ho fun h'' he' sb => ?_⟩
    have hT2 : h''.get? s.heap.objs.size = some { cls := .type "tuple", data := .seq #[en.key, en.val] } := (sb.2 _ (Nat.ne_of_gt hlt)).trans hT
    have new : ObjOk X.prog X.w (upd H s.heap.objs.size (.tup [.ref q, v])) h'' s.heap.objs.size (.tup [.ref q, v]) :=
      ⟨by show 2 ≤ sizeLine; decide, [en.key, en.val], .cons hkey (.cons ru .nil), ⟨_, hT2, rfl, _, rfl⟩⟩
    have I1 : Inv X pins σ (upd H s.heap.objs.size (.tup [.ref q, v])) { s with heap := h'' } :=
      I.turnedNew (t' := s.toks) (ch := [it]) (fun b ob hb e => (sb.2 b (by simpa using hb)).trans (hk b ob (by simpa using hb) e)) hf (Nat.le_refl _) new
    refine ⟨.ref s.heap.objs.size, _, I1, rfl, ⟨_, k, v, q, hkv, rfl, I.hok.fresh (Nat.le_refl _), hq, rfl⟩, ⟨en.key, en.val, ?_⟩, fun b hb => ?_⟩
    · rw [← hsz]; exact he'
    · have e : b = it := by simpa using hb
      rw [e, upd_ne (Nat.ne_of_lt hlt)]
      exact (hf it (by simp)).1
  done := by
    intro X hP hw hK hc i pins s σ H E I hf st hg
    subst hP hw hK
    obtain ⟨hd, hi⟩ := hg
    obtain ⟨f0, f1, f2, f3, f4, f5⟩ := hf it (by simp)
    obtain ⟨hs, hgd, hx, es', ep', hdt, hsz, ent⟩ := frzT2 I hd
    obtain ⟨rfl, rfl⟩ := dict_ep hod hdt
    obtain ⟨ok, ov, he⟩ := st
    rw [← hsz] at he
    exact DT.endI (I.ok.hd hc) he ⟨o, hgd, hx, hdt⟩ (by omega) fun h' eb => ⟨rfl, I.turned (t' := s.toks) (fun b ob hb e => eb b ob hb e) f0 f1 f3 f4 f5⟩
  self := fun A i s Q E st h => let ⟨_, _, e⟩ := st; PySem.W.kcp_self e h
end
def iItemsT (td : TE) : TI := fun σ H R => td σ H fun x H1 => ∃ d o kvs, x = .ref d ∧ H1 d = some (.frz o (.dT kvs)) ∧ R (ItiT d o kvs) H1
theorem pi_itemsT {X : Cx} {e : Expr} {td : TE} {apos cpos : Pos} {elts : List Expr} {kk : Nat} {tpos : Pos} (he : PE X e td) (hbase : attributeBase e "items" X.env (eval e X.env) = eval e X.env := by rfl) (hline : (apos.endLine == cpos.line) = true := by rfl) :
    PI X (.Tuple elts kk tpos) (.Call (.Attribute e "items" apos) [] [] cpos) (iItemsT td) := by
  refine ⟨fun pins s σ H R I h => ?_⟩
  refine wpAny_Call_method (T := "dict") (id := "dict.items") hbase rfl hline F.plainAttrs_dict F.slot_dict_items F.type_dict_items (thn (he.run pins s σ H _ I h) fun u s1 ⟨x, H1, I1, rx, d, o, kvs, ex, hd, q⟩ => ?_)
  subst ex
  obtain rfl : u = Value.ref d := rx
  obtain ⟨hs, hgd, hx, es, ep, hdt, hsz, ent⟩ := frzT2 I1 hd
  have hm : DT.Raw s1.heap d es ep := ⟨o, hgd, hx, hdt⟩
  refine ⟨hm.typeIs, fun b q => by cases q; exact ⟨o, hgd, hx.2.1⟩, ?_⟩
  have I2 : Inv X pins σ H1 { s1 with heap := s1.heap.push { cls := .type "dict_items", data := .fields #[.ref d] } } := I1.kept (t' := s1.toks) fun b ob q => Heap.get?_push_of_some _ q
  have fin : wpAny (model X.prog X.w) X.A (pyIter (.ref s1.heap.objs.size)) (PIE X pins σ (.Tuple elts kk tpos) R) X.xe { s1 with heap := s1.heap.push { cls := .type "dict_items", data := .fields #[.ref d] } } := by
    refine DT.iterI (d := d) ⟨_, Heap.get?_push_size _ rfl, rfl, rfl⟩ (hm.push _) (pi_one (tk := s1.toks) I2 _ (turn_itemsT _ hdt) ⟨.none, .none, ?_⟩ q)
    rw [← hsz]
    exact Heap.get?_push_size _ rfl
  show wpAny _ _ (callWith cpos (.builtin "dict.items") [.ref d] [] []) _ X.xe s1
  exact method_meetsIn F.slot_dict_items F.entry_dict_items rfl (PySem.evalArgs_none ⟨rfl, hm.typeIs, F.args_dict_items_1 _, _, DT.meetsItems (es := es) (ep := ep) hs, hm, fin⟩)

/-- the kinds of keys, walked: what a turn gives -/
def YKeyT (kvs : List (List Key × V)) : Nat → Hp → V → Hp → Prop := fun i H x H' => H' = H ∧ ∃ (k : List Key) (v : V) (q : Addr), kvs[i]? = some (k, v) ∧ x = .ref q ∧ H q = some (.tup (k.map kV))
def YKeyK (kvs : List (Key × V)) : Nat → Hp → V → Hp → Prop := fun i H x H' => H' = H ∧ ∃ k v, kvs[i]? = some (k, v) ∧ x = kV k
def YItT (kvs : List (List Key × V)) : Nat → Hp → V → Hp → Prop := fun i H x H' => ∃ T k v q, kvs[i]? = some (k, v) ∧ x = .ref T ∧ H T = none ∧ H q = some (.tup (k.map kV)) ∧ H' = upd H T (.tup [.ref q, v])
theorem walk_keysT {d : Addr} {o : Obj} {kvs : List (List Key × V)} : Walk (Itkt d o kvs) kvs.length (fun H => H d = some (.frz o (.dT kvs))) (YKeyT kvs) :=
  ⟨fun i H hi h => ⟨h, hi⟩, fun H h => ⟨h, Nat.le_refl _⟩, fun i H x H' hi h y => y⟩
theorem walk_keysK {d : Addr} {o : Obj} {kvs : List (Key × V)} : Walk (Itk d o kvs) kvs.length (fun H => H d = some (.frz o (.dK kvs))) (YKeyK kvs) :=
  ⟨fun i H hi h => ⟨h, hi⟩, fun H h => ⟨h, Nat.le_refl _⟩, fun i H x H' hi h y => y⟩
theorem walk_itemsT {d : Addr} {o : Obj} {kvs : List (List Key × V)} : Walk (ItiT d o kvs) kvs.length (fun H => H d = some (.frz o (.dT kvs))) (YItT kvs) :=
  ⟨fun i H hi h => ⟨h, hi⟩, fun H h => ⟨h, Nat.le_refl _⟩, fun i H x H' hi h y => y⟩
/-- for k in d | a comprehension over d's keys, d locked -/
def iKeysT (td : TE) : TI := fun σ H R => td σ H fun x H1 => ∃ d o kvs, x = .ref d ∧ H1 d = some (.frz o (.dT kvs)) ∧ R (Itkt d o kvs) H1
def iKeysK (td : TE) : TI := fun σ H R => td σ H fun x H1 => ∃ d o kvs, x = .ref d ∧ H1 d = some (.frz o (.dK kvs)) ∧ R (Itk d o kvs) H1
section
variable {X : Cx} {tg e : Expr} {td : TE}
theorem pi_keysT (he : PE X e td) : PI X tg e (iKeysT td) := by
  refine ⟨fun pins s σ H R I h => ?_⟩
  refine thn (he.run pins s σ H _ I h) fun u s1 ⟨x, H1, I1, rx, d, o, kvs, ex, hd, q⟩ => ?_
  subst ex
  obtain rfl : u = Value.ref d := rx
  obtain ⟨hs, hgd, hx, es, ep, hdt, hsz, ent⟩ := I1.frzT hd
  refine iter_keys hs hgd hx hdt (pi_one (tk := s1.toks) I1 _ (turn_keysT _ hdt) ⟨_, Heap.get?_push_size _ rfl, rfl, ?_⟩ q)
  rw [hsz] <;> rfl
theorem pi_keysK (he : PE X e td) : PI X tg e (iKeysK td) := by
  refine ⟨fun pins s σ H R I h => ?_⟩
  refine thn (he.run pins s σ H _ I h) fun u s1 ⟨x, H1, I1, rx, d, o, kvs, ex, hd, q⟩ => ?_
  subst ex
  obtain rfl : u = Value.ref d := rx
  obtain ⟨hs, hgd, hx, es, ep, vs, hdt, hsz, kv, hm⟩ := I1.frzK hd
  refine iter_keys hs hgd hx hdt (pi_one (tk := s1.toks) I1 _ (turn_keys _ hdt) ⟨_, Heap.get?_push_size _ rfl, rfl, ?_⟩ q)
  rw [hsz] <;> rfl
end
section
variable {g : TG} {tt : TT} {te : TE} {tb : TS} {D : Ends} {vs : List Nat} {σ : L2.St} {H1 : Hp} {Dl d : Addr} {o : Obj} {Qd : Hp → Prop}
theorem lc_keysT {kvs : List (List Key × V)} (Pv : Nat → Hp → Prop) (h0 : Pv 0 (upd H1 Dl (.lst []))) (hG : ∀ i H, i ≤ kvs.length → Pv i H → H d = some (.frz o (.dT kvs)))
    (hs : ∀ i k v q H, kvs[i]? = some (k, v) → H q = some (.tup (k.map kV)) → Pv i H → g (.ref q) (wipe σ vs) H fun σ2 H2 => wipe σ2 vs = wipe σ vs ∧ tt σ2 H2 fun b H3 =>
      if b = true then te σ2 H3 fun y H4 => ∃ acc, H4 Dl = some (.lst acc) ∧ acc.length < sizeLine ∧ Pv (i + 1) (upd H4 Dl (.lst (acc ++ [y]))) else Pv (i + 1) H3) (hd : ∀ H, Pv kvs.length H → Qd H) :
    ∃ W : Nat → Nat → Hp → Prop, (∃ m, W 0 m (upd H1 Dl (.lst []))) ∧ ∀ i m H, W i m H →
      ((Itkt d o kvs).stop i H ∧ Qd H) ∨ ((Itkt d o kvs).go i H ∧ ∃ Nx : Hp → Prop, (∀ H', Nx H' → ∃ m', m' < m ∧ W (i + 1) m' H') ∧ ∀ x H', (Itkt d o kvs).yld i H x H' → g x (wipe σ vs) H' fun σ2 H2 => wipe σ2 vs = wipe σ vs ∧ tt σ2 H2 fun b H3 =>
        if b = true then te σ2 H3 fun y H4 => ∃ acc, H4 Dl = some (.lst acc) ∧ acc.length < sizeLine ∧ Nx (upd H4 Dl (.lst (acc ++ [y]))) else Nx H3) :=
  lc_it walk_keysT Pv h0 hG (fun i x H H' hi p ⟨e1, k, v, q, e2, e3, e4⟩ => by subst e1 e3; exact hs i k v q _ e2 e4 p) hd
theorem lc_keysK {kvs : List (Key × V)} (Pv : Nat → Hp → Prop) (h0 : Pv 0 (upd H1 Dl (.lst []))) (hG : ∀ i H, i ≤ kvs.length → Pv i H → H d = some (.frz o (.dK kvs)))
    (hs : ∀ i k v H, kvs[i]? = some (k, v) → Pv i H → g (kV k) (wipe σ vs) H fun σ2 H2 => wipe σ2 vs = wipe σ vs ∧ tt σ2 H2 fun b H3 =>
      if b = true then te σ2 H3 fun y H4 => ∃ acc, H4 Dl = some (.lst acc) ∧ acc.length < sizeLine ∧ Pv (i + 1) (upd H4 Dl (.lst (acc ++ [y]))) else Pv (i + 1) H3) (hd : ∀ H, Pv kvs.length H → Qd H) :
    ∃ W : Nat → Nat → Hp → Prop, (∃ m, W 0 m (upd H1 Dl (.lst []))) ∧ ∀ i m H, W i m H →
      ((Itk d o kvs).stop i H ∧ Qd H) ∨ ((Itk d o kvs).go i H ∧ ∃ Nx : Hp → Prop, (∀ H', Nx H' → ∃ m', m' < m ∧ W (i + 1) m' H') ∧ ∀ x H', (Itk d o kvs).yld i H x H' → g x (wipe σ vs) H' fun σ2 H2 => wipe σ2 vs = wipe σ vs ∧ tt σ2 H2 fun b H3 =>
        if b = true then te σ2 H3 fun y H4 => ∃ acc, H4 Dl = some (.lst acc) ∧ acc.length < sizeLine ∧ Nx (upd H4 Dl (.lst (acc ++ [y]))) else Nx H3) :=
  lc_it walk_keysK Pv h0 hG (fun i x H H' hi p ⟨e1, k, v, e2, e3⟩ => by subst e1 e3; exact hs i k v _ e2 p) hd
theorem lc_itemsT {kvs : List (List Key × V)} (Pv : Nat → Hp → Prop) (h0 : Pv 0 (upd H1 Dl (.lst []))) (hG : ∀ i H, i ≤ kvs.length → Pv i H → H d = some (.frz o (.dT kvs)))
    (hs : ∀ i k v q T H, kvs[i]? = some (k, v) → H q = some (.tup (k.map kV)) → H T = none → Pv i H → g (.ref T) (wipe σ vs) (upd H T (.tup [.ref q, v])) fun σ2 H2 => wipe σ2 vs = wipe σ vs ∧ tt σ2 H2 fun b H3 =>
      if b = true then te σ2 H3 fun y H4 => ∃ acc, H4 Dl = some (.lst acc) ∧ acc.length < sizeLine ∧ Pv (i + 1) (upd H4 Dl (.lst (acc ++ [y]))) else Pv (i + 1) H3) (hd : ∀ H, Pv kvs.length H → Qd H) :
    ∃ W : Nat → Nat → Hp → Prop, (∃ m, W 0 m (upd H1 Dl (.lst []))) ∧ ∀ i m H, W i m H →
      ((ItiT d o kvs).stop i H ∧ Qd H) ∨ ((ItiT d o kvs).go i H ∧ ∃ Nx : Hp → Prop, (∀ H', Nx H' → ∃ m', m' < m ∧ W (i + 1) m' H') ∧ ∀ x H', (ItiT d o kvs).yld i H x H' → g x (wipe σ vs) H' fun σ2 H2 => wipe σ2 vs = wipe σ vs ∧ tt σ2 H2 fun b H3 =>
        if b = true then te σ2 H3 fun y H4 => ∃ acc, H4 Dl = some (.lst acc) ∧ acc.length < sizeLine ∧ Nx (upd H4 Dl (.lst (acc ++ [y]))) else Nx H3) :=
  lc_it walk_itemsT Pv h0 hG (fun i x H H' hi p ⟨T, k, v, q, e2, e3, e4, e5, e6⟩ => by subst e3 e6; exact hs i k v q T _ e2 e5 e4 p) hd
theorem for_keysT {kvs : List (List Key × V)} {H : Hp} (Pv : Nat → L2.St → Hp → Prop) (h0 : Pv 0 σ H) (hG : ∀ i σ H, i ≤ kvs.length → Pv i σ H → H d = some (.frz o (.dT kvs)))
    (hs : ∀ i k v q σ H, kvs[i]? = some (k, v) → H q = some (.tup (k.map kV)) → Pv i σ H → g (.ref q) σ H fun σ2 H2 => tb { D with nx := Pv (i + 1), ct := Pv (i + 1), bk := D.nx } σ2 H2) (hd : ∀ σ H, Pv kvs.length σ H → D.nx σ H) :
    ∃ W : Nat → Nat → L2.St → Hp → Prop, (∃ m, W 0 m σ H) ∧ ∀ i m σ H, W i m σ H →
      ((Itkt d o kvs).stop i H ∧ D.nx σ H) ∨ ((Itkt d o kvs).go i H ∧ ∃ N : L2.St → Hp → Prop, (∀ σ' H', N σ' H' → ∃ m', m' < m ∧ W (i + 1) m' σ' H') ∧ ∀ x H', (Itkt d o kvs).yld i H x H' → g x σ H' fun σ2 H2 => tb { D with nx := N, ct := N, bk := D.nx } σ2 H2) :=
  for_it walk_keysT Pv h0 hG (fun i x σ H H' hi p ⟨e1, k, v, q, e2, e3, e4⟩ => by subst e1 e3; exact hs i k v q σ _ e2 e4 p) hd
end
/-- the key of a turn, as a thing -/
theorem ik_of {α : Type} [Enc α] [IK α] {K : PySem.W.Frag} {F : Hp} {b : Addr} {x : α} (h : F b = some (.tup ((ikeys (IK.ks x)).map kV))) : R K F (.ref b) x := by
  show Rp K F _ (Enc.d x)
  rw [IK.enc x]
  rw [ikeys_kV] at h
  refine .tup h (by rw [List.length_map]; exact Nat.le_trans (IK.few x) (by decide)) ?_
  generalize IK.ks x = ns
  induction ns with
  | nil => exact .nil
  | cons n ns ih => exact .cons (.int n) ih
theorem RD.re {α β : Type} [Enc α] [DK α] [Enc β] {K : PySem.W.Frag} {F : Hp} {kvs : List (DK.Kt α × V)} {xs ys : List (α × β)} (e : xs = ys) (h : RD K F kvs xs) : RD K F kvs ys := e ▸ h
theorem RD.keyT {α β : Type} [Enc α] [IK α] [Enc β] {K : PySem.W.Frag} {F : Hp} {kvs : List (List Key × V)} {xs : List (α × β)} {i : Nat} {k : List Key} {v : V} (h : RD (α := α) K F kvs xs) (e : kvs[i]? = some (k, v)) :
    ∃ x y, xs[i]? = some (x, y) ∧ (xs.map Prod.fst)[i]? = some x ∧ k = ikeys (IK.ks x) ∧ R K F v y := by
  obtain ⟨p, e1, e2, r, _⟩ := RD.at h e
  refine ⟨p.1, p.2, e1, by rw [List.getElem?_map, e1]; rfl, e2, r⟩
theorem RD.lenk {α β : Type} [Enc α] [DK α] [Enc β] {K : PySem.W.Frag} {F : Hp} {kvs : List (DK.Kt α × V)} {xs : List (α × β)} (h : RD K F kvs xs) : kvs.length = (xs.map Prod.fst).length := by rw [List.length_map]; exact h.len
theorem RD.one {α β : Type} [Enc α] [DK α] [Enc β] {K : PySem.W.Frag} {F : Hp} (x : α) (hx : DK.ok x) {y : β} {v : V} (r : R K F v y) : RD K F [(DK.k x, v)] [(x, y)] := RD.cons_iff.mpr ⟨⟨rfl, r, hx⟩, RD.nil⟩
theorem RD.keyI {β : Type} [Enc β] {K : PySem.W.Frag} {F : Hp} {kvs : List (Key × V)} {xs : List (Int × β)} {i : Nat} {k : Key} {v : V} (h : RD (α := Int) K F kvs xs) (e : kvs[i]? = some (k, v)) :
    ∃ x y, xs[i]? = some (x, y) ∧ (xs.map Prod.fst)[i]? = some x ∧ k = Sum.inl x ∧ R K F v y := by
  obtain ⟨p, e1, e2, r, _⟩ := RD.at h e
  exact ⟨p.1, p.2, e1, by rw [List.getElem?_map, e1]; rfl, e2, r⟩
theorem dput_le {α β : Type} [Enc α] [DK α] [Enc β] [DecidableEq α] {K : PySem.W.Frag} {F : Hp} {kvs : List (DK.Kt α × V)} {xs : List (α × β)} (h : RD K F kvs xs) {x : α} {v : V} (hl : xs.length < sizeLine) : (putK kvs (DK.k x) v).length ≤ sizeLine := by
  have := length_putK kvs (DK.k x) v
  rw [h.len] at this
  omega
theorem RD.keyS {β : Type} [Enc β] {K : PySem.W.Frag} {F : Hp} {kvs : List (Key × V)} {xs : List (Str × β)} {i : Nat} {k : Key} {v : V} (h : RD (α := Str) K F kvs xs) (e : kvs[i]? = some (k, v)) :
    ∃ x y, xs[i]? = some (x, y) ∧ (xs.map Prod.fst)[i]? = some x ∧ k = Sum.inr x ∧ R K F v y ∧ GS x := by
  obtain ⟨p, e1, e2, r, o⟩ := RD.at h e
  exact ⟨p.1, p.2, e1, by rw [List.getElem?_map, e1]; rfl, e2, r, o⟩
end G
/-! My base, part 24: lists of tuples of ints, sorted. -/
namespace G
open PySem PySem.Spec PyProof.Rows L2 TL
section
variable {α : Type} [Enc α] [IK α]
abbrev itZ (ns : List Int) : List (Int ⊕ List Nat) := ns.map Sum.inl
theorem itZ_inj : ∀ {a b : List Int}, itZ a = itZ b → a = b
  | [], [], _ => rfl
  | [], _ :: _, h => by cases h
  | _ :: _, [], h => by cases h
  | x :: a, y :: b, h => by
    have h' : Sum.inl x :: itZ a = Sum.inl y :: itZ b := h
    obtain ⟨h1, h2⟩ := List.cons.inj h'
    rw [Sum.inl.inj h1, itZ_inj h2]
def ltK (a b : α) : Bool := lexLt itemOrd (itZ (IK.ks a)) (itZ (IK.ks b))
def leK (a b : α) : Bool := !ltK b a
def sortK (xs : List α) : List α := xs.mergeSort leK
theorem leK_trans (a b c : α) (h1 : leK a b = true) (h2 : leK b c = true) : leK a c = true := by
  unfold leK at *
  rw [Bool.not_eq_true'] at *
  exact KeyOrd.kle_trans (O := listOrd itemOrd) (show (listOrd itemOrd).kle (itZ (IK.ks a)) (itZ (IK.ks b)) from h1) h2
theorem leK_total (a b : α) : (leK a b || leK b a) = true := by
  unfold leK
  cases h : ltK b a with
  | false => rfl
  | true =>
    have : ltK a b = false := KeyOrd.klt_asymm (O := listOrd itemOrd) h
    rw [this]; rfl
theorem sortK_perm (xs : List α) : (sortK xs).Perm xs := List.mergeSort_perm _ _
theorem sortK_sorted (xs : List α) : (sortK xs).Pairwise fun a b => leK a b = true := List.pairwise_mergeSort leK_trans leK_total xs
theorem sortK_len (xs : List α) : (sortK xs).length = xs.length := (sortK_perm xs).length_eq
theorem leK_anti {a b : α} (h1 : leK a b = true) (h2 : leK b a = true) : a = b := by
  unfold leK at *
  rw [Bool.not_eq_true'] at *
  exact IK.inj _ _ (itZ_inj ((listOrd itemOrd).total _ _ h2 h1))
theorem sortK_uniq {xs ys : List α} (h : ys.Perm xs) (h2 : ys.Pairwise fun a b => leK a b = true) : sortK xs = ys :=
  ((sortK_perm xs).trans h.symm).eq_of_pairwise (le := fun a b => leK a b = true) (fun a b _ _ h3 h4 => leK_anti h3 h4) (sortK_sorted xs) h2
theorem ik_same {K : PySem.W.Frag} {H : Hp} {v : V} {x y : α} (h1 : R K H v x) (h2 : R K H v y) : x = y := by
  obtain ⟨b, rfl, hb⟩ := ik_tup h1
  obtain ⟨b', e, hb'⟩ := ik_tup h2
  cases e
  rw [hb] at hb'
  rw [ikeys_kV, ikeys_kV] at hb'
  have e1 := Option.some.inj hb'
  have e2 : (IK.ks x).map V.int = (IK.ks y).map V.int := by injection e1
  refine IK.inj _ _ ?_
  generalize IK.ks x = a at e2
  generalize IK.ks y = b at e2
  clear hb hb' e1 h1 h2
  induction a generalizing b with
  | nil => cases b with
    | nil => rfl
    | cons _ _ => cases e2
  | cons p a ih => cases b with
    | nil => cases e2
    | cons q b =>
      rw [List.map_cons, List.map_cons] at e2
      obtain ⟨h1, h2⟩ := List.cons.inj e2
      injection h1 with h1
      rw [h1, ih b h2]
open Classical in
noncomputable def keyT [Inhabited α] (K : PySem.W.Frag) (H : Hp) (v : V) : α := if h : ∃ x : α, R K H v x then h.choose else default
theorem keyT_spec [Inhabited α] {K : PySem.W.Frag} {H : Hp} {v : V} {x : α} (h : R K H v x) : keyT K H v = x := by
  unfold keyT
  rw [dif_pos ⟨x, h⟩]
  exact ik_same (Exists.choose_spec (⟨x, h⟩ : ∃ x : α, R K H v x)) h
theorem tupItems_ints : ∀ (i : Nat) {ns : List Int} {vs : List Value}, Vals (ns.map V.int) vs → tupItems (fun _ => false) i vs = some (itZ ns)
  | i, [], _, r => by cases r; rfl
  | i, n :: ns, _, r => by
    rw [List.map_cons] at r
    cases r with
    | cons h t =>
      obtain ⟨tk, rfl⟩ := h
      show (if false = true then none else (tupItems (fun _ => false) (i + 1) _).map (Sum.inl n :: ·)) = _
      rw [if_neg Bool.false_ne_true, tupItems_ints (i + 1) t]
      rfl
def rSortedTK (α : Type) [Enc α] [IK α] (K : PySem.W.Frag) : List V → Hp → VK → Prop := fun vs H Q => ∃ (a : Addr) (xs : List V) (ds : List α), vs = [V.ref a] ∧ SqL K H a xs ∧ RL K H xs ds ∧
  ∀ (ys : List V) (p : Addr), ys.length = xs.length → (∀ F, RL K F xs ds → RL K F ys (sortK ds)) → H p = none → Q (.ref p) (upd H p (.lst ys))
theorem kkC {h : Heap} {ps : Array Keyed} {i : Nat} {p : Keyed} (e : ps[i]? = some p) : KK (G.tupKindC h (fun _ => false)) ps i = (G.tupKeyC h (fun _ => false) p.1).getD [] := by
  unfold KK
  rw [e]
theorem cr_sortedTK {X : Cx} [Inhabited α] : CallR X (.builtin "sorted") (rSortedTK α X.K) := by
  intro pins s σ H vs us Q I r h
  obtain ⟨a, xs, ds, rfl, hs, hA, q⟩ := h
  have hlen : xs.length = ds.length := RL.len hA
  have hkey : ∀ i v x, xs[i]? = some v → ds[i]? = some x → keyT X.K H v = x := fun i v x hv hx => by
    obtain ⟨x', hx', r⟩ := RL.get hA hv
    rw [hx] at hx'
    cases hx'
    exact keyT_spec r
  have hmem : ∀ v ∈ xs, R X.K H v (keyT X.K H v : α) := fun v hv => by
    obtain ⟨i, hi, rfl⟩ := List.getElem_of_mem hv
    obtain ⟨x, hx, r⟩ := RL.get hA (List.getElem?_eq_getElem hi)
    rw [keyT_spec r]
    exact r
  obtain ⟨its, rv, hl, hz⟩ := I.list hs
  obtain ⟨u, rfl, ru⟩ := vals1 r
  obtain rfl : u = Value.ref a := ru
  obtain ⟨e1, e2⟩ := refs_back rv fun x m => by
    obtain ⟨b, e, _⟩ := ik_tup (hmem x m)
    exact ⟨b, e⟩
  have hin : ∀ v ∈ its, backV v ∈ xs := fun v hv => by rw [e1]; exact List.mem_map.mpr ⟨_, hv, rfl⟩
  have hobj : ∀ v ∈ its, ∃ (t : Addr) (o : Obj) (its2 : List Value) (n : Nat), v = .ref t ∧ s.heap.get? t = some o ∧ o.cls = .type "tuple" ∧ o.data = .seq its2.toArray n ∧ Vals ((IK.ks (keyT X.K H (backV v) : α)).map V.int) its2 := fun v hv => by
    obtain ⟨t, rfl⟩ := e2 v hv
    obtain ⟨b, e, hb⟩ := ik_tup (hmem _ (hin _ hv))
    have e' : V.ref t = V.ref b := e
    cases e'
    rw [ikeys_kV] at hb
    obtain ⟨_, its2, r2, o, ho, hc, n, hd⟩ := (show ObjOk X.prog X.w H s.heap t (.tup _) from I.hok t _ hb)
    exact ⟨t, o, its2, n, rfl, ho, hc, hd, r2⟩
  have hkC : ∀ v ∈ its, G.tupKeyC s.heap (fun _ => false) v = some (itZ (IK.ks (keyT X.K H (backV v) : α))) := fun v hv => by
    obtain ⟨t, o, its2, n, rfl, ho, hc, hd, r2⟩ := hobj v hv
    have hi := tupItems_ints 0 r2
    have h1 : G.isTupObj s.heap (.ref t) = true := by simp [G.isTupObj, ho, hc]
    have h2 : tupKey s.heap (fun _ => false) (.ref t) = some (itZ (IK.ks (keyT X.K H (backV (.ref t)) : α))) := by
      simp only [tupKey, ho, hd]
      exact hi
    unfold G.tupKeyC
    rw [if_pos h1]
    exact h2
  have hT : ∃ fs, TupsOf s.heap (fun _ => false) its fs := by
    have go : ∀ l : List Value, (∀ v ∈ l, v ∈ its) → ∃ fs, TupsOf s.heap (fun _ => false) l fs := fun l => by
      induction l with
      | nil => exact fun _ => ⟨[], .nil⟩
      | cons v l ih =>
        intro hh
        obtain ⟨fs, t⟩ := ih fun u hu => hh u (List.mem_cons_of_mem _ hu)
        obtain ⟨t', o, its2, n, rfl, ho, hc, hd, r2⟩ := hobj v (hh v (List.mem_cons_self ..))
        have hp := IK.pos (keyT X.K H (backV (.ref t')) : α)
        generalize IK.ks (keyT X.K H (backV (.ref t')) : α) = ns at hp r2
        cases ns with
        | nil => exact absurd hp (by simp)
        | cons m ns =>
          rw [List.map_cons] at r2
          cases r2 with
          | @cons _ u1 _ us1 h1 t1 =>
            obtain ⟨tk, rfl⟩ := h1
            exact ⟨_, .cons ⟨t', o, _, n, rfl, ho, hc, hd, by simp, fun _ => ⟨m, tk, rfl⟩, fun z => nomatch z⟩ t⟩
    exact go its fun _ h => h
  obtain ⟨fs, hT⟩ := hT
  refine G.sorted_tups hl.isList hT (fun v hv => ⟨_, hkC v hv⟩) (by rw [← rv.length]; exact hz) fun st' p1 p2 _ => ?_
  have hpair : ∀ p ∈ (arrOf st').toList, p.1 = p.2 ∧ p.1 ∈ its := fun p hp => by
    have : p ∈ (pairsOf its).toList := p1.toList.mem_iff.mp hp
    rw [pairsOf_toList] at this
    exact mem_zip_self this
  have hperm : ((arrOf st').map (·.2)).toList.Perm its := by
    rw [Array.toList_map]
    have z := p1.toList.map Prod.snd
    rw [pairsOf_toList, List.map_snd_zip (Nat.le_refl _)] at z
    exact z
  obtain ⟨out, hout⟩ : ∃ out : Array Value, (arrOf st').map (·.2) = out := ⟨_, rfl⟩
  have hsz : (arrOf st').size = its.length := by
    have := p1.size_eq
    rw [this, pairsOf_size]
  have h3 : ∀ u ∈ out.toList, ∃ a, u = Value.ref a := fun u hu => e2 u ((hout ▸ hperm).mem_iff.mp hu)
  have hds : xs.map (keyT X.K H : V → α) = ds := List.ext_getElem? fun i => by
    rw [List.getElem?_map]
    by_cases hi : i < xs.length
    · rw [List.getElem?_eq_getElem hi, List.getElem?_eq_getElem (by omega)]
      exact congrArg some (hkey i xs[i] (ds[i]'(by omega)) (List.getElem?_eq_getElem hi) (List.getElem?_eq_getElem (by omega)))
    · rw [List.getElem?_eq_none (by omega), List.getElem?_eq_none (by omega)]
      rfl
  have hb : (out.toList.map backV).Perm xs := by
    rw [e1, ← hout]
    exact hperm.map _
  have hso : sortK ds = (out.toList.map backV).map (keyT X.K H : V → α) := by
    refine sortK_uniq (by rw [← hds]; exact hb.map _) ?_
    rw [List.map_map, ← hout, Array.toList_map, List.map_map]
    refine List.pairwise_iff_getElem.mpr fun i j hi hj hij => ?_
    rw [List.length_map] at hi hj
    rw [Array.length_toList] at hi hj
    have g := p2 i j (Nat.le_of_lt hij) (by rw [← p1.size_eq]; exact hj)
    have gi : (arrOf st')[i]? = some (arrOf st')[i] := Array.getElem?_eq_getElem hi
    have gj : (arrOf st')[j]? = some (arrOf st')[j] := Array.getElem?_eq_getElem hj
    rw [kkC gi, kkC gj] at g
    obtain ⟨a1, a2⟩ := hpair (arrOf st')[i] (by simp)
    obtain ⟨b1, b2⟩ := hpair (arrOf st')[j] (by simp)
    rw [hkC _ a2, hkC _ b2] at g
    rw [List.getElem_map, List.getElem_map, Array.getElem_toList, Array.getElem_toList]
    unfold leK
    rw [Bool.not_eq_true']
    show lexLt itemOrd (itZ (IK.ks (keyT X.K H (backV (arrOf st')[j].2) : α))) (itZ (IK.ks (keyT X.K H (backV (arrOf st')[i].2) : α))) = false
    rw [← a1, ← b1]
    exact g
  obtain ⟨ep, he'⟩ := sortedAll_at s.heap its out
  have hlen2 : (out.toList.map backV).length ≤ sizeLine := by rw [hb.length_eq]; exact hz
  rw [hout]
  refine ⟨.ref _, upd H (s.heap.objs.size + 1) (.lst (out.toList.map backV)), I.laid (t' := s.toks) (fun _ _ => sortedAll_old) (Nat.le_succ _) ⟨hlen2, out.toList, ep, vals_back h3, he'⟩, rfl, q _ _ hb.length_eq (fun F hF => ?_) (I.hok.fresh (Nat.le_succ _))⟩
  rw [hso]
  have hall : ∀ v ∈ out.toList.map backV, R X.K F v (keyT X.K H v : α) := fun v hv => by
    obtain ⟨i, hi, rfl⟩ := List.getElem_of_mem (hb.mem_iff.mp hv)
    obtain ⟨x, hx, rx⟩ := RL.get hF (List.getElem?_eq_getElem hi)
    rw [hkey i xs[i] x (List.getElem?_eq_getElem hi) hx]
    exact rx
  have go : ∀ l : List V, (∀ v ∈ l, R X.K F v (keyT X.K H v : α)) → RL X.K F l (l.map (keyT X.K H : V → α)) := fun l => by
    induction l with
    | nil => exact fun _ => .nil
    | cons v l ih => exact fun h => .cons (h v (List.mem_cons_self ..)) (ih fun u hu => h u (List.mem_cons_of_mem _ hu))
  exact go _ hall
theorem cr_sortedTK_ {X : Cx} {K : PySem.W.Frag} [Inhabited α] (h : X.K = K := by rfl) : CallR X (.builtin "sorted") (rSortedTK α K) := by subst h; exact cr_sortedTK
end
instance : Inhabited (T3 Int Int Int) := ⟨⟨0, 0, 0⟩⟩
instance : Inhabited (T4 Int Int Int Int) := ⟨⟨0, 0, 0, 0⟩⟩
end G
/-! My base, part 25: a list of lists, all of one's own. -/
namespace G
open PySem PySem.Spec PyProof.Rows L2 TL
abbrev refsN (rows : List (Addr × List V)) : List V := rows.map fun r => V.ref r.1
structure Nest (H0 F H : Hp) (f : Addr) (rows : List (Addr × List V)) : Prop where
  h : H f = some (.lst (refsN rows))
  nF : F f = none
  n0 : H0 f = none
  rh : ∀ r ∈ rows, H r.1 = some (.lst r.2)
  rF : ∀ r ∈ rows, F r.1 = none
  r0 : ∀ r ∈ rows, H0 r.1 = none
  rf : ∀ r ∈ rows, r.1 ≠ f
  nd : (rows.map (·.1)).Nodup
/-- q is none of them -/
def Apt (f : Addr) (rows : List (Addr × List V)) (q : Addr) : Prop := f ≠ q ∧ ∀ r ∈ rows, r.1 ≠ q
section
variable {M : Addr → Prop} {F0 H0 F H F' H' : Hp} {f p q : Addr} {o : HO} {K : PySem.W.Frag} {rows : List (Addr × List V)} {us ws : List V}
theorem Nest.ne (w : Nest H0 F H f rows) (hq : H q = none) : Apt f rows q := ⟨ne_of_none w.h hq, fun r hr => ne_of_none (w.rh r hr) hq⟩
theorem Nest.other (w : Nest H0 F H f rows) (a : Apt f rows q) : Nest H0 F (upd H q o) f rows :=
  ⟨(upd_ne a.1).trans w.h, w.nF, w.n0, fun r hr => (upd_ne (a.2 r hr)).trans (w.rh r hr), w.rF, w.r0, w.rf, w.nd⟩
theorem Nest.own (w : Nest H0 F H f rows) (hq : H q = none) : Nest H0 F (upd H q o) f rows := w.other (w.ne hq)
theorem Nest.fz (w : Nest H0 F H f rows) (a : Apt f rows q) : Nest H0 (upd F q o) H f rows :=
  ⟨w.h, (upd_ne a.1).trans w.nF, w.n0, w.rh, fun r hr => (upd_ne (a.2 r hr)).trans (w.rF r hr), w.r0, w.rf, w.nd⟩
theorem Nest.frz (w : Nest H0 F H f rows) (hq : H q = none) : Nest H0 (upd F q o) (upd H q o) f rows := (w.own hq).fz (w.ne hq)
theorem Nest.gr0 (w : Nest H0 F H f rows) (g : Gr M0 F H F' H') : Nest H0 F' H' f rows :=
  ⟨g.keep _ _ id w.h, g.newL (by rw [w.h]; simp) w.nF (fun ts z => by rw [g.keep _ _ id w.h] at z; cases z), w.n0, fun r hr => g.keep _ _ id (w.rh r hr),
    fun r hr => g.newL (by rw [w.rh r hr]; simp) (w.rF r hr) (fun ts z => by rw [g.keep _ _ id (w.rh r hr)] at z; cases z), w.r0, w.rf, w.nd⟩
theorem Nest.apart (w : Nest H0 F H f rows) (k : Gr M0 H H F' H') : Nest H0 F H' f rows :=
  ⟨k.keep _ _ id w.h, w.nF, w.n0, fun r hr => k.keep _ _ id (w.rh r hr), w.rF, w.r0, w.rf, w.nd⟩
theorem Nest.adopt {ts : List V} (w : Nest H0 F H f rows) (h : H q = some (.tup ts)) : Nest H0 (upd F q (.tup ts)) H f rows :=
  w.fz ⟨(fun z => by subst z; rw [w.h] at h; cases h), (fun r hr z => by subst z; rw [w.rh r hr] at h; cases h)⟩
theorem Nest.nil (g : Gr M F0 H0 F H) (hp : H p = none) : Nest H0 F (upd H p (.lst [])) p [] :=
  ⟨upd_same, g.noneF hp, g.none0 hp, (fun _ h => nomatch h), (fun _ h => nomatch h), (fun _ h => nomatch h), (fun _ h => nomatch h), List.nodup_nil⟩
theorem Nest.grow (w : Nest H0 F H f rows) (g : Gr M F0 H0 F H) (hp : H p = none) : Nest H0 F (upd (upd H p (.lst [])) f (.lst (refsN rows ++ [.ref p]))) f (rows ++ [(p, [])]) := by
  have a := w.ne hp
  refine ⟨by rw [upd_same, refsN, refsN, List.map_append]; rfl, w.nF, w.n0, fun r hr => ?_, fun r hr => ?_, fun r hr => ?_, fun r hr => ?_, ?_⟩
  · rcases List.mem_append.mp hr with hr | hr
    · rw [upd_ne (w.rf r hr), upd_ne (a.2 r hr)]; exact w.rh r hr
    · rw [List.mem_singleton.mp hr, upd_ne a.1.symm, upd_same]
  · rcases List.mem_append.mp hr with hr | hr
    · exact w.rF r hr
    · rw [List.mem_singleton.mp hr]; exact g.noneF hp
  · rcases List.mem_append.mp hr with hr | hr
    · exact w.r0 r hr
    · rw [List.mem_singleton.mp hr]; exact g.none0 hp
  · rcases List.mem_append.mp hr with hr | hr
    · exact w.rf r hr
    · rw [List.mem_singleton.mp hr]; exact a.1.symm
  · rw [List.map_append]
    refine List.nodup_append.mpr ⟨w.nd, by simp, fun x hx y hy => ?_⟩
    obtain ⟨r, hr, rfl⟩ := List.mem_map.mp hx
    have hy' : y = p := by simpa using hy
    rw [hy']
    exact a.2 r hr
theorem Nest.put (w : Nest H0 F H f rows) {j : Nat} {r : Addr × List V} (hj : rows[j]? = some r) : Nest H0 F (upd H r.1 (.lst us)) f (rows.set j (r.1, us)) := by
  have hr : r ∈ rows := List.mem_of_getElem? hj
  have hjl : j < rows.length := (List.getElem?_eq_some_iff.mp hj).1
  have e1 : (rows.set j (r.1, us)).map (·.1) = rows.map (·.1) := by
    rw [List.map_set]
    refine List.ext_getElem? fun i => ?_
    rw [List.getElem?_set]
    by_cases hi : j = i
    · subst hi
      rw [if_pos rfl, if_pos (by rw [List.length_map]; exact hjl), List.getElem?_map, hj]
      rfl
    · rw [if_neg hi]
  have e2 : refsN (rows.set j (r.1, us)) = refsN rows := by
    have : ∀ l : List (Addr × List V), refsN l = (l.map (·.1)).map V.ref := fun l => by rw [refsN, List.map_map]; rfl
    rw [this, this, e1]
  have hmem : ∀ x ∈ rows.set j (r.1, us), x = (r.1, us) ∨ (x ∈ rows ∧ x.1 ≠ r.1) := fun x hx => by
    obtain ⟨i, hi⟩ := List.mem_iff_getElem?.mp hx
    rw [List.getElem?_set] at hi
    by_cases hij : j = i
    · rw [if_pos hij] at hi
      split at hi
      · exact .inl (Option.some.inj hi).symm
      · next hn => exact absurd (hij ▸ hjl) hn
    · rw [if_neg hij] at hi
      refine .inr ⟨List.mem_of_getElem? hi, fun z => hij ?_⟩
      have h1 : (rows.map (·.1))[j]? = some r.1 := by rw [List.getElem?_map, hj]; rfl
      have h2 : (rows.map (·.1))[i]? = some r.1 := by rw [List.getElem?_map, hi]; exact congrArg some z
      exact (List.getElem?_inj (List.getElem?_eq_some_iff.mp h1).1 w.nd).mp (h1.trans h2.symm)
  refine ⟨by rw [upd_ne (w.rf r hr).symm, e2]; exact w.h, w.nF, w.n0, fun x hx => ?_, fun x hx => ?_, fun x hx => ?_, fun x hx => ?_, by rw [e1]; exact w.nd⟩
  · rcases hmem x hx with rfl | ⟨hx, n⟩
    · exact upd_same
    · rw [upd_ne n]; exact w.rh x hx
  · rcases hmem x hx with rfl | ⟨hx, n⟩
    · exact w.rF r hr
    · exact w.rF x hx
  · rcases hmem x hx with rfl | ⟨hx, n⟩
    · exact w.r0 r hr
    · exact w.r0 x hx
  · rcases hmem x hx with rfl | ⟨hx, n⟩
    · exact w.rf r hr
    · exact w.rf x hx
end
def RN {α : Type} [Enc α] (K : PySem.W.Frag) (F : Hp) (rows : List (Addr × List V)) (xs : List (List α)) : Prop :=
  rows.length = xs.length ∧ ∀ (j : Nat) (r : Addr × List V), rows[j]? = some r → ∃ x, xs[j]? = some x ∧ RL K F r.2 x ∧ r.2.length ≤ sizeLine
def appN {α : Type} (xs : List (List α)) (i : Int) (y : α) : Option (List (List α)) :=
  (ixN xs.length i).bind fun j => xs[j]?.bind fun r => if r.length < sizeLine then some (xs.set j (r ++ [y])) else none
theorem appN_ok {α : Type} {xs zs : List (List α)} {i : Int} {y : α} (h : appN xs i y = some zs) : ∃ j r, ixN xs.length i = some j ∧ xs[j]? = some r ∧ r.length < sizeLine ∧ xs.set j (r ++ [y]) = zs := by
  unfold appN at h
  obtain ⟨j, h1, h⟩ := Option.bind_eq_some_iff.mp h
  obtain ⟨r, h2, h⟩ := Option.bind_eq_some_iff.mp h
  split at h
  · exact ⟨j, r, h1, h2, by assumption, Option.some.inj h⟩
  · cases h
section
variable {α : Type} [Enc α] {K : PySem.W.Frag} {F F' : Hp} {rows : List (Addr × List V)} {xs ys : List (List α)}
theorem RN.up (h : RN K F rows xs) (e : Same F F') : RN K F' rows xs := ⟨h.1, fun j r hr => let ⟨x, h1, h2, h3⟩ := h.2 j r hr; ⟨x, h1, RpA.up h2 e, h3⟩⟩
theorem RN.re (e : xs = ys) (h : RN K F rows xs) : RN K F rows ys := e ▸ h
theorem RN.len (h : RN K F rows xs) : (refsN rows).length = xs.length := by rw [List.length_map]; exact h.1
theorem RN.row (h : RN K F rows xs) {j : Nat} {x : List α} (e : xs[j]? = some x) : ∃ r, rows[j]? = some r ∧ RL K F r.2 x ∧ r.2.length ≤ sizeLine := by
  have hj : j < rows.length := by rw [h.1]; exact (List.getElem?_eq_some_iff.mp e).1
  obtain ⟨x', h1, h2, h3⟩ := h.2 j _ (List.getElem?_eq_getElem hj)
  rw [e] at h1
  cases h1
  exact ⟨_, List.getElem?_eq_getElem hj, h2, h3⟩
theorem RN.at_ (h : RN K F rows xs) {i : Int} {j : Nat} {r : Addr × List V} (e : ixN xs.length i = some j) (hr : rows[j]? = some r) : atI (refsN rows) i = some (V.ref r.1) := by
  unfold atI
  rw [h.len, e]
  show (refsN rows)[j]? = _
  rw [refsN, List.getElem?_map, hr]
  rfl
theorem RN.get (h : RN K F rows xs) {i : Nat} {v : V} (e : (refsN rows)[i]? = some v) : ∃ x r, xs[i]? = some x ∧ r ∈ rows ∧ v = .ref r.1 ∧ RL K F r.2 x ∧ r.2.length ≤ sizeLine := by
  rw [refsN, List.getElem?_map] at e
  obtain ⟨r, hr, rfl⟩ := Option.map_eq_some_iff.mp e
  obtain ⟨x, h1, h2, h3⟩ := h.2 i r hr
  exact ⟨x, r, h1, List.mem_of_getElem? hr, rfl, h2, h3⟩
theorem RN.put (h : RN K F rows xs) {j : Nat} {r : Addr × List V} {x : List α} {us : List V} (hr : rows[j]? = some r) (hx : RL K F us x) (hl : us.length ≤ sizeLine) : RN K F (rows.set j (r.1, us)) (xs.set j x) := by
  refine ⟨by rw [List.length_set, List.length_set]; exact h.1, fun k q hq => ?_⟩
  rw [List.getElem?_set] at hq ⊢
  by_cases hk : j = k
  · subst hk
    rw [if_pos rfl] at hq ⊢
    have hj : j < rows.length := (List.getElem?_eq_some_iff.mp hr).1
    rw [if_pos hj] at hq
    rw [if_pos (by rw [← h.1]; exact hj)]
    cases hq
    exact ⟨x, rfl, hx, hl⟩
  · rw [if_neg hk] at hq ⊢
    exact h.2 k q hq
theorem RN.empty {β : Type} {l : List β} (h : rows.length = l.length) (he : ∀ r ∈ rows, r.2 = []) : RN K F rows (l.map fun _ => ([] : List α)) := by
  refine ⟨by rw [List.length_map]; exact h, fun j r hr => ⟨[], ?_, ?_, ?_⟩⟩
  · have hj : j < rows.length := (List.getElem?_eq_some_iff.mp hr).1
    rw [List.getElem?_map, List.getElem?_eq_getElem (by omega)]
    rfl
  · rw [he r (List.mem_of_getElem? hr)]; exact RpA.nil
  · rw [he r (List.mem_of_getElem? hr)]; exact Nat.zero_le _
end
theorem Apt.put {f q : Addr} {rows : List (Addr × List V)} {j : Nat} {r : Addr × List V} {us : List V} (a : Apt f rows q) (hj : rows[j]? = some r) : Apt f (rows.set j (r.1, us)) q :=
  ⟨a.1, fun x hx => by
    rcases List.mem_or_eq_of_mem_set hx with h | h
    · exact a.2 x h
    · rw [h]; exact a.2 r (List.mem_of_getElem? hj)⟩
end G
/-! My base, part 26: sorted(set(a tuple of whole numbers)); tuples put together. -/
namespace G
open PySem PySem.Spec PyProof.Rows L2 TL
section
variable {P : Program} {w : World} {A : Around} {E : Value → Shared → Prop} {s : Shared}
theorem set_of_tuple {l : Addr} {xs : Array Value} (ks : List Int) {Q : Value → Shared → Prop} (hh : A.handled = none) (hl : s.heap.IsTuple l xs) (hk : IntsAre xs.toList ks) (hb : ks.length + 1 < scanBound)
    (hq : ∀ (h' : Heap) (tk c : Nat), SetR w h' s.heap.objs.size (fun j => decide (j ∈ ks)) c → c ≤ ks.length → (∀ b o, s.heap.get? b = some o → h'.get? b = some o) → Q (.ref s.heap.objs.size) { s with heap := h', toks := tk }) :
    wpAny (model P w) A (call (.type "set") [.ref l]) Q E s := by
  have hsz : xs.size = ks.length := (Array.length_toList (xs := xs)).symm.trans (IntsAre.length hk)
  obtain ⟨c0, tl0, hmro⟩ := F.called_set.mro
  have hmade := F.called_set.made; have hsub := F.called_set.sub
  refine wpAny_call (codeAny_of_tree ?_); show wpAny _ _ (callAny (.type "set") _) _ _ _
  refine wpAny_pure ⟨Code.quiet_builtin _ (by decide +kernel), codeAny_builtin F.entry_type_call ?_⟩; rw [Around.under_plain (weight_type_call_type "set" [.ref l] []) rfl]
  have n1 := F.called_set.notType; have n2 := F.called_set.canCreate; have n3 := F.typeCall_set_1 (.ref l)
  repeat (any_goals (first | assumption | wp_step))
  refine codeAny_mono (code_set_led1 (A := A.in1) (.ref l) (E := E) (Q₁ := fun ob s₁ => ob = .ref s.heap.objs.size ∧ s₁ = { s with heap := s.heap.push (newS w) }) ⟨rfl, rfl⟩) fun r s₁ hr => ?_
  cases r with
  | error e => exact hr
  | ok fl =>
    cases fl with
    | next => exact hr.elim
    | brk => exact hr.elim
    | cont => exact hr.elim
    | ret ob =>
      obtain ⟨rfl, rfl⟩ := hr
      have hS : (s.heap.push (newS w)).get? s.heap.objs.size = some (newS w) := Heap.get?_push_size _ rfl
      have hT : Shared.TypeIs { s with heap := s.heap.push (newS w) } (.ref s.heap.objs.size) "set" := ⟨_, hS, rfl⟩
      have hli := F.called_set.init.lookup; have hbi := F.called_set.init.bind (.ref s.heap.objs.size)
      repeat (any_goals (first | assumption | wp_step))
      refine codeAny_mono (codeAny_call_builtin (R := wants (fun rr s₂ => rr = .none ∧ ∃ h' tk c, s₂ = { s with heap := h', toks := tk } ∧ SetR w h' s.heap.objs.size (fun j => decide (j ∈ ks)) c ∧ c ≤ ks.length ∧ (∀ b o, s.heap.get? b = some o → h'.get? b = some o)) E)
        F.called_set.init.plain F.entry_set_init (check_set_init_1 hT ?_)) fun r2 s2 hr2 => ?_
      · obtain ⟨⟨lc, ld, lt, ls⟩, hol, hcl, nl, hdl⟩ := hl
        simp only at hcl hdl; subst hcl; subst hdl
        have hol' : (s.heap.push (newS w)).get? l = some { cls := .type "tuple", dict := ld, data := .seq xs nl, slots := ls } := Heap.get?_push_of_some _ hol
        have b1 := F.sub_tuple_set; have b2 := F.sub_tuple_frozenset
        have b3 : (Value.type "tuple" == Value.type "dict") = false := by decide
        have hl1 : (s.heap.push (newS w)).IsTuple l xs := ⟨_, hol', rfl, nl, rfl⟩
        unfold Builtin.«set.__init__» noKeywords Builtin.Frozenset.updateFrom; generalize hPI : pyIter = PI
        wp_walk
        subst hPI; refine wpAny_pyIter_tuple hl1 ?_
        refine wpAny_bind (wpAny_runValue ?_); have lS : l < s.heap.objs.size := Heap.lt_size hol
        have hh3 : A.in1.in1.in1.handled = none := by simp [hh]
        have lI : l ≠ (s.heap.push (newS w)).objs.size := by rw [Heap.size_push]; exact Nat.ne_of_lt (Nat.lt_succ_of_lt lS)
        have sI : s.heap.objs.size ∉ [(s.heap.push (newS w)).objs.size, l] := by
          rw [Heap.size_push]
          intro z
          rcases List.mem_cons.mp z with z | z
          · exact absurd z (Nat.ne_of_lt (Nat.lt_succ_self _))
          · exact absurd (List.mem_singleton.mp z) (Nat.ne_of_gt lS)
        have each : ∀ (i : Nat) (v : Value), xs[i]? = some v → ∃ k t, ks[i]? = some k ∧ v = .int k t := fun i v hv => by
          have hi : i < ks.length := by rw [← hsz]; exact (Array.getElem?_eq_some_iff.mp hv).1
          obtain ⟨t, e⟩ := PyProof.Rows.IntsAre.int_at hk i v (by rw [Array.getElem?_toList]; exact hv)
          exact ⟨ks[i], t, List.getElem?_eq_getElem hi, by rw [e, List.getD_eq_getElem?_getD, List.getElem?_eq_getElem hi]; rfl⟩
        refine set_update_ints ((Walks.tuple hh3 _ l lI xs).toS) s.heap.objs.size sI ks hsz hb each (xs.size - 0) 0 _ (by omega) (Nat.zero_le _) ⟨⟨_, Heap.get?_push_size _ rfl, rfl, rfl⟩, (hl1.push _)⟩ ⟨0, Nat.le_refl 0, setR_new_at (Heap.get?_push_of_some _ hS)⟩ (fun s' c' hm hc' hS' => ?_)
        obtain ⟨h', g2, d', tk', os'⟩ := s'
        have eg : g2 = s.gens := hm.gens; have ed : d' = s.drawn := hm.drawn
        have eo : os' = s.os := hm.os; subst eg; subst ed; subst eo
        show wpAny _ _ _ _ _ _; refine wpAny_pure ?_
        show wpAny _ _ (ret Value.none) _ _ _; rw [hsz] at hc'
        refine wpAny_pure ⟨rfl, h', tk', c', rfl, hS', hc', fun b o e => ?_⟩
        have m0 : b < s.heap.objs.size := Heap.lt_size e
        refine hm.heap b o (fun z => ?_) (Heap.get?_push_of_some _ (Heap.get?_push_of_some _ e))
        rcases List.mem_cons.mp z with z | z
        · exact absurd z (Nat.ne_of_lt m0)
        · have z := List.mem_singleton.mp z
          rw [Heap.size_push] at z
          exact absurd z (Nat.ne_of_lt (Nat.lt_succ_of_lt m0))
      · cases r2 with
        | error e => exact hr2
        | ok fl2 =>
          cases fl2 with
          | next => exact hr2.elim
          | brk => exact hr2.elim
          | cont => exact hr2.elim
          | ret rr =>
            obtain ⟨rfl, h', tk, c, rfl, hS', hc', hk'⟩ := hr2
            repeat (any_goals (first | assumption | wp_step))
            exact hq _ _ _ hS' hc' hk'
end
section
variable {X : Cx}
def tSSetT (K : PySem.W.Frag) (ta : TE) : TE := fun σ H Q => ta σ H fun x H1 => ∃ (l : Addr) (ks : List Int), x = V.ref l ∧ SqT K H1 l (ks.map V.int) ∧ ks.length < 4000 ∧
  ∀ (ns : List Int) (p : Addr), ns.Pairwise (· < ·) → (∀ k, k ∈ ns ↔ k ∈ ks) → ns.length ≤ ks.length → H1 p = none → Q (.ref p) (upd H1 p (.lst (ns.map V.int)))
theorem pe_ssetT {a : Expr} {ta : TE} {p p2 q pos : Pos} (hc : X.calm = true) (hg : Gl X "sorted") (hm : X.mg "sorted" = none) (hg2 : Gl X "set") (hm2 : X.mg "set" = none) (ha : PE X a ta)
    (na : starEach [a] X.env = (false, eval a X.env) :: starEach [] X.env := by rfl) : PE X (.Call (.Name "sorted" p) [.Call (.Name "set" p2) [a] [] q] [] pos) (tSSetT X.K ta) := by
  refine ⟨fun pins s σ H Q I h => ?_⟩
  refine Call_ (ld_blt I hg hm (u := .builtin "sorted") (by decide +kernel) ?_)
  refine PyProof.Rows.callWith_builtin1 (PyProof.Rows.args_cons ?_ rfl) rfl rfl
  refine Call_ (ld_blt I hg2 hm2 PyProof.Rows.boot_set ?_)
  refine PyProof.Rows.callWith_type1 (PyProof.Rows.args_cons (thn (ha.run pins s σ H _ I h) fun v s1 ⟨x, H1, I1, r1, q1⟩ => PyProof.Rows.args_nil ?_) na) na rfl
  obtain ⟨l, ks, rfl, hq, h4, q1⟩ := q1
  cases r1
  obtain ⟨its, r, pl, hz⟩ := I1.tuple hq
  refine set_of_tuple ks (I1.ok.hd hc) pl (by simpa using r.ints) (by unfold scanBound; omega) fun h' tk c hS hck hk => ?_
  refine PyProof.Rows.args_nil ?_
  have I2 : Inv X pins σ H1 { s1 with heap := h', toks := tk } := I1.kept fun b o e => hk b o e
  refine set_sorted hS (I2.ok.hd hc) fun s' p out c2 ns k g o hp hgt hi hs hmem hlen => ?_
  have hlen2 : ns.length ≤ ks.length := Nat.le_trans hlen hck
  have hlz : (ns.map V.int).length ≤ sizeLine := by rw [List.length_map, sizeLine_eq]; omega
  have hn : H1 p = none := I2.hok.fresh hp
  have J : Inv X pins σ (upd H1 p (.lst (ns.map V.int))) s' := Inv.call' (ch := []) I2 o (Un.laid k hp hn) (I2.hok.laid k hp ⟨hlz, out, c2, vals_of_ints hi, hgt⟩) (by rw [g]; exact I2.bare) (fun _ z => nomatch z)
  exact ⟨.ref p, _, J, rfl, q1 ns p hs (fun k => by rw [hmem k, decide_eq_true_iff]) hlen2 hn⟩
theorem pe_ssetTK {K : PySem.W.Frag} {a : Expr} {ta : TE} {p p2 q pos : Pos} (hc : X.calm = true) (hg : Gl X "sorted") (hm : X.mg "sorted" = none) (hg2 : Gl X "set") (hm2 : X.mg "set" = none) (ha : PE X a ta) (h : X.K = K := by rfl)
    (na : starEach [a] X.env = (false, eval a X.env) :: starEach [] X.env := by rfl) : PE X (.Call (.Name "sorted" p) [.Call (.Name "set" p2) [a] [] q] [] pos) (tSSetT K ta) := by subst h; exact pe_ssetT hc hg hm hg2 hm2 ha na
/-- two tuples, put together -/
def rCatF : R2 := fun x y H Q => ∃ (F : Hp) (a b : Addr) (xs ys : List V), x = .ref a ∧ y = .ref b ∧ F a = some (.tup xs) ∧ F b = some (.tup ys) ∧ Same F H ∧ xs.length + ys.length ≤ sizeLine ∧
  ∀ q F' H', Gr M0 F H F' H' → F' q = some (.tup (xs ++ ys)) → Q (.ref q) H'
theorem op_catF : OpR X (binaryOp .Add) rCatF := by
  intro pins s σ H x y v u Q I rx ry ⟨F, a, b, xs, ys, e1, e2, ha, hb, hF, hl, q⟩
  refine op_catA pins s σ H x y v u Q I rx ry ⟨a, b, xs, ys, e1, e2, .inl (.inl (hF _ _ ha)), .inl (.inl (hF _ _ hb)), hl, fun h => ?_, fun h1 h2 => ?_, fun h1 h2 p hp => ?_⟩
  · exact q b F H (Gr.refl hF) (by rw [h, List.nil_append]; exact hb)
  · exact q a F H (Gr.refl hF) (by rw [h2, List.append_nil]; exact ha)
  · exact q p _ _ ((Gr.refl hF).frz (o := .tup (xs ++ ys)) hp) fzT
end
def conV {α : Type} (xs ys : VT α) : Option (VT α) := if xs.l.length + ys.l.length ≤ sizeLine then some (VT.mk (xs.l ++ ys.l)) else none
theorem conV_ok {α : Type} {xs ys r : VT α} (h : conV xs ys = some r) : xs.l.length + ys.l.length ≤ sizeLine ∧ VT.mk (xs.l ++ ys.l) = r := by
  unfold conV at h
  split at h
  · exact ⟨by assumption, Option.some.inj h⟩
  · cases h
end G
/-! My base, part 27: sorted(a dict of texts). -/
namespace G
open PySem PySem.Spec PyProof.Rows L2 TL PySem.Calls PySem.W
section
variable {prog : Program} {w : World} {A : Around} {E : Value → Shared → Prop} {s : Shared} {T : String} {r d : Addr} {n : Nat} {P : Nat → Value → Prop} {OK : Heap → Prop}
/-- what an iterable of the kit's gives, gathered -/
theorem gather {R : List Value → Shared → Prop} (K : KdlSrc prog w T r d n P OK) (hh : A.handled = none) (hok : OK s.heap) (hn : n ≤ sizeLine)
    (h : ∀ (h' : Heap) (tk : Nat) (vs : List Value), (∀ b o, s.heap.get? b = some o → h'.get? b = some o) → s.heap.objs.size < h'.objs.size → vs.length = n → (∀ j v, vs[j]? = some v → P j v) → R vs { s with heap := h', toks := tk }) :
    wpAny (model prog w) A (collect (.ref r)) R E s := by
  obtain ⟨hr, hd⟩ := K.there _ hok
  unfold collect
  refine wpAny_bind (wpAny_runValue (codeAny_builtin entry_proto_collect' ?_))
  rw [Around.under_plainId PySem.F.plain_proto_collect _]
  show wpAny _ A.in1 (newList [] >>= fun l => again (.builtin "list.__iadd__" ⟨[l, .ref r], []⟩)) _ _ s
  refine wpAny_bind (wpAny_newObj_type ?_)
  refine wpAny_pure ⟨plainId_quiet PySem.F.plain_list_iadd _, codeAny_builtin entry_list_iadd' ?_⟩
  rw [Around.under_plainId PySem.F.plain_list_iadd _]
  have hS : (s.heap.push { cls := .type "list", data := .seq ([] : List Value).toArray }).get? s.heap.objs.size = some { cls := .type "list", data := .seq #[] } := Heap.get?_push_size _ rfl
  show wpAny _ A.in1 (Builtin.List.listExtendWith (.ref s.heap.objs.size) (.ref r) (.ref s.heap.objs.size)) _ _ _
  have key := kdl_extend (prog := prog) (w := w) (A := A) (s := { s with heap := s.heap.push { cls := .type "list", data := .seq ([] : List Value).toArray } }) (R := fun (q : Result) (s' : Shared) => ∃ (h' : Heap) (tk : Nat) (acc' : Array Value) (c' : Nat), q = .ok (.ret (.ref s.heap.objs.size)) ∧ s' = { s with heap := h', toks := tk } ∧
      (∀ b o, b ≠ s.heap.objs.size → (s.heap.push { cls := .type "list", data := .seq ([] : List Value).toArray }).get? b = some o → h'.get? b = some o) ∧ h'.get? s.heap.objs.size = some { cls := .type "list", dict := none, data := .seq acc' c', slots := #[] } ∧ ItemsOf P acc' n)
    K hh (K.keep _ _ hok fun b _ o e => Heap.get?_push_of_some _ e) s.heap.objs.size (Nat.ne_of_gt hr) (Nat.ne_of_gt hd) (.ref s.heap.objs.size) 0 hS
    (fun h' tk acc' c' hk hS' hacc => ⟨h', tk, acc', c', rfl, rfl, hk, hS', hacc⟩) hn
  refine wpAny_mono key (fun fin s' x => ?_) fun e s' x => ?_
  · cases fin with
    | done f =>
      obtain ⟨h', tk, acc', c', e, rfl, hk, hS', hacc⟩ := x
      cases e
      refine wpAny_bind (wpAny_load hS' ?_)
      exact wpAny_pure (h h' tk acc'.toList (fun b o e => hk b o (Nat.ne_of_lt (Heap.lt_size e)) (Heap.get?_push_of_some _ e)) (Heap.lt_size hS') (by rw [Array.length_toList]; exact hacc.1) fun j v e => hacc.2 j v (by rw [← Array.getElem?_toList]; exact e))
    | again c₁ =>
      refine ⟨x.1, codeAny_mono x.2 fun q s₂ y => ?_⟩
      obtain ⟨h', tk, acc', c', rfl, rfl, hk, hS', hacc⟩ := y
      refine wpAny_bind (wpAny_load hS' ?_)
      exact wpAny_pure (h h' tk acc'.toList (fun b o e => hk b o (Nat.ne_of_lt (Heap.lt_size e)) (Heap.get?_push_of_some _ e)) (Heap.lt_size hS') (by rw [Array.length_toList]; exact hacc.1) fun j v e => hacc.2 j v (by rw [← Array.getElem?_toList]; exact e))
  · obtain ⟨_, _, _, _, e', _⟩ := x
    cases e'
end
theorem strs_by : ∀ {vs : List Value} {xs : List Str}, vs.length = xs.length → (∀ (j : Nat) (v : Value), vs[j]? = some v → ∃ (x : Str) (t : Tok), xs[j]? = some x ∧ v = Value.str x t) → StrsAre vs xs
  | [], [], _, _ => .nil
  | [], _ :: _, h, _ => by cases h
  | _ :: _, [], h, _ => by cases h
  | v :: vs, x :: xs, h, k => by
    obtain ⟨x', t, e1, e2⟩ := k 0 v rfl
    cases e1
    subst e2
    exact .cons _ _ (strs_by (by simpa using h) fun j v e => k (j + 1) v e)
theorem ints_by : ∀ {vs : List Value} {xs : List Int}, vs.length = xs.length → (∀ (j : Nat) (v : Value), vs[j]? = some v → ∃ (x : Int) (t : Tok), xs[j]? = some x ∧ v = Value.int x t) → IntsAre vs xs
  | [], [], _, _ => .nil
  | [], _ :: _, h, _ => by cases h
  | _ :: _, [], h, _ => by cases h
  | v :: vs, x :: xs, h, k => by
    obtain ⟨x', t, e1, e2⟩ := k 0 v rfl
    cases e1
    subst e2
    exact .cons _ _ (ints_by (by simpa using h) fun j v e => k (j + 1) v e)
/-- sorted(a dict of texts) -/
def rSortedDS : List V → Hp → VK → Prop := fun vs H Q => ∃ (a : Addr) (kvs : List (Key × V)) (xs : List Str), vs = [V.ref a] ∧ Rd H a (.dK kvs) ∧ kvs.map (·.1) = xs.map Sum.inr ∧
  ∀ p : Addr, H p = none → Q (.ref p) (upd H p (.lst ((sortT xs).map V.str)))
theorem cr_sortedDS {X : Cx} (hc : X.calm = true) : CallR X (.builtin "sorted") rSortedDS := by
  intro pins s σ H vs us Q I r h
  obtain ⟨a, kvs, xs, rfl, ha, hk, q⟩ := h
  obtain ⟨u, rfl, ru⟩ := vals1 r
  obtain rfl : u = Value.ref a := ru
  obtain ⟨z, hd, vs0, rel, o, es, ep, ho, hx, hdt, rest⟩ := dk_rd I.hok ha
  have hlen : kvs.length = vs0.length := Paired.length rel
  have hxl : kvs.length = xs.length := by have := congrArg List.length hk; rwa [List.length_map, List.length_map] at this
  have hat : s.heap.DictAt (mixKind X.prog X.w) a vs0 ep := ⟨o, es, ho, hx, hdt, rest⟩
  refine Calls.call_function_entry kind_sorted plain_sorted entry_sorted (args_sorted1 _) ?_
  unfold Builtin.«sorted»
  refine wpAny_bind (m := checkCount "sorted" 1 1 _) (wpAny_pure ?_)
  refine wpAny_bind (gather (kdl_dict (prog := X.prog) (w := X.w) (knd := mixKind X.prog X.w) (kvs := vs0) (ep := ep) hd) (I.ok.hd hc) hat (by omega) fun h' tk vs1 hkp hsz1 hl1 hv1 => ?_)
  have hS : StrsAre vs1 xs := strs_by (by omega) fun j v e => by
    obtain ⟨k, x, e1, e2⟩ := hv1 j v e
    have hj : j < kvs.length := by rw [hlen]; exact (List.getElem?_eq_some_iff.mp e1).1
    obtain ⟨u, e3, _⟩ := kv_get rel (i := j) (k := (kvs[j]).1) (v := (kvs[j]).2) (List.getElem?_eq_getElem hj)
    rw [e1] at e3
    have e4 : k = (kvs[j]).1 := congrArg Prod.fst (Option.some.inj e3)
    have e5 : (kvs.map (·.1))[j]? = some (kvs[j]).1 := by rw [List.getElem?_map, List.getElem?_eq_getElem hj]; rfl
    rw [hk, List.getElem?_map] at e5
    obtain ⟨x', e6, e7⟩ := Option.map_eq_some_iff.mp e5
    rw [e4, ← e7] at e2
    rcases keyIs_shape (show keyIs (Sum.inr x') v = true from e2) with ⟨i, t, z1, _⟩ | ⟨y, t, z1, z2⟩
    · cases z1
    · cases z1
      exact ⟨_, t, e6, z2⟩
  have hl1' : vs1.length ≤ sizeLine := by omega
  refine wpAny_bind (wpAny_newList ?_ hl1')
  have hoL : (h'.push (seqObj "list" vs1.toArray 0)).get? h'.objs.size = some (seqObj "list" vs1.toArray 0) := Heap.get?_push_size _ rfl
  show wpAny _ _ _ _ _ { s with heap := h'.push (seqObj "list" vs1.toArray 0), toks := tk }
  refine wpAny_bind (wpAny_holding (wpAny_call_entry slot_list_sort ⟨_, hoL, rfl⟩ entry_list_sort (list_sort_treeKAny strKind_oneLt hoL hS.keysOf (fun v₁ v₂ rest e => keyKind_strs (by rw [← e]; exact hS)) hl1' fun st' a1 a2 => ⟨_, rfl, ?_⟩) (args_list_sort _)))
  refine wpAny_pure ⟨_, rfl, ?_⟩
  obtain ⟨ss', h1, h2, h3⟩ := sorted_out_str hS a1 a2
  obtain ⟨out, hout⟩ : ∃ out, (arrOf st').map (·.2) = out := ⟨_, rfl⟩
  rw [hout] at h1 ⊢
  obtain rfl := sortT_uniq h2 h3
  obtain ⟨e, hfin⟩ := sortedHeap_at (vs := vs1) (out := out) hoL
  have hlz : ((sortT xs).map V.str).length ≤ sizeLine := by rw [List.length_map, sortT_len]; omega
  have hkeep : ∀ b u, s.heap.get? b = some u → (sortedHeap (h'.push (seqObj "list" vs1.toArray 0)) h'.objs.size vs1 out).get? b = some u := fun b u e => by
    have e2 := hkp b u e
    have hlt := Heap.lt_size e2
    rw [sortedHeap_old (Nat.ne_of_lt hlt) (by rw [Heap.size_push]; exact Nat.lt_succ_of_lt hlt), Heap.get?_push_ne _ _ _ (Nat.ne_of_lt hlt)]
    exact e2
  have hfr : s.heap.objs.size ≤ h'.objs.size := Nat.le_of_lt hsz1
  exact ⟨.ref h'.objs.size, upd H h'.objs.size (.lst ((sortT xs).map V.str)), I.laid (t' := tk) hkeep hfr ⟨hlz, out.toList, e, vals_of_strs h1, hfin⟩, rfl, q _ (I.hok.fresh hfr)⟩
theorem scr_stays {K : PySem.W.Frag} {M : Addr → Prop} {F0 H0 F H H1 : Hp} {a : Addr} {xs : List V} (hS : SqL K H1 a xs) (hN : ∀ o, H1 a = some o → ¬ M a) (h : SqL K H0 a xs) (g : Gr M F0 H0 F H) : SqL K H a xs := by
  rcases hS with (e | ⟨o, e⟩) | e
  · exact g.seq (hN _ e) h
  · exact g.seq (hN _ e) h
  · exact .inr e
end G
/-! My base, part 28: dict(a list of pairs), the keys tuples of ints. -/
namespace G
open PySem PySem.Spec PyProof.Rows L2 TL
def putAllK (xs : List (List Key × V)) : List (List Key × V) → List (List Key × V)
  | [] => xs
  | p :: ps => putAllK (putK xs p.1 p.2) ps
def dputAll {α β : Type} [DecidableEq α] (xs : List (α × β)) : List (α × β) → List (α × β)
  | [] => xs
  | p :: ps => dputAll (dput xs p.1 p.2) ps
theorem putAllK_len : ∀ (ps xs : List (List Key × V)), (putAllK xs ps).length ≤ xs.length + ps.length
  | [], xs => Nat.le_refl _
  | p :: ps, xs => by
    have h1 := putAllK_len ps (putK xs p.1 p.2)
    have h2 := length_putK xs p.1 p.2
    rw [putAllK, List.length_cons]
    omega
section
variable {α β : Type} [Enc α] [IK α] [Enc β] {K : PySem.W.Frag}
theorem kt_all {H : Hp} : ∀ {ps : List (List Key × V)} {qs : List (List Key × Addr × Value)} {kvs : List (List Key × V)} {xs : List (List Key × Addr × Value)}, KT H kvs xs → KT H ps qs → KT H (putAllK kvs ps) (storedAllH xs qs)
  | [], _, _, _, h, .nil => h
  | p :: ps, _, _, _, h, .cons r t => by
    obtain ⟨r1, r2, r3⟩ := r
    rw [putAllK, storedAllH, List.foldl_cons]
    have h2 := KT.put h p.1 r2 r3
    rw [r1] at h2 ⊢
    exact kt_all h2 t
theorem rd_all [DecidableEq α] {F : Hp} : ∀ {ps : List (List Key × V)} {ys : List (α × β)} {kvs : List (List Key × V)} {xs : List (α × β)}, RD (α := α) K F kvs xs → RD (α := α) K F ps ys → RD (α := α) K F (putAllK kvs ps) (dputAll xs ys)
  | ps, [], kvs, xs, h, h2 => by
    obtain rfl := h2.nil_l
    exact h
  | ps, y :: ys, kvs, xs, h, h2 => by
    obtain ⟨q, qs, rfl⟩ := h2.cons_l
    obtain ⟨⟨e, r, o⟩, h3⟩ := RD.cons_iff.mp h2
    rw [putAllK, dputAll]
    refine rd_all ?_ h3
    rw [e]
    exact RD.put h y.1 o r
/-- the rows of a list of pairs: each its tuple, its key's tuple, the key, the value -/
theorem rows_of {F : Hp} : ∀ {xs : List (α × β)} {ws : List V}, RL K F ws xs → ∃ rs : List (Addr × Addr × V), ws = rs.map (fun r => V.ref r.1) ∧ rs.length = xs.length ∧
    ∀ (j : Nat) (x : α × β) (r : Addr × Addr × V), xs[j]? = some x → rs[j]? = some r → F r.1 = some (.tup [.ref r.2.1, r.2.2]) ∧ F r.2.1 = some (.tup ((ikeys (IK.ks x.1)).map kV)) ∧ R K F r.2.2 x.2
  | [], ws, h => by
    cases h
    exact ⟨[], rfl, rfl, fun j x r e => by simp at e⟩
  | x :: xs, ws, h => by
    cases h with
    | cons r t =>
      obtain ⟨p, v1, v2, e, hp, r1, r2⟩ := R.p2_s (x := x) r
      obtain ⟨b, e2, hb⟩ := ik_tup r1
      subst e e2
      obtain ⟨rs, e3, e4, e5⟩ := rows_of t
      refine ⟨(p, b, v2) :: rs, by rw [e3]; rfl, by rw [List.length_cons, List.length_cons, e4], fun j y q hy hq => ?_⟩
      cases j with
      | zero =>
        cases hy
        cases hq
        exact ⟨hp, hb, r2⟩
      | succ j => exact e5 j y q (by simpa using hy) (by simpa using hq)
def rDictT (α β : Type) [Enc α] [IK α] [Enc β] [DecidableEq α] (K : PySem.W.Frag) : List V → Hp → VK → Prop := fun vs H Q => ∃ (a : Addr) (ws : List V) (xs : List (α × β)), vs = [V.ref a] ∧ SqL K H a ws ∧ RL K H ws xs ∧
  ∀ (p : Addr) (kvs : List (List Key × V)), H p = none → kvs.length ≤ xs.length → (∀ F, Same F H → RL K F ws xs → RD (α := α) (β := β) K F kvs (dputAll [] xs)) → Q (.ref p) (upd H p (.dT kvs))
theorem call_dictT [DecidableEq α] {X : Cx} (hcalm : X.calm = true) (hu : X.A.units + 4 < cLine) : CallR X (.type "dict") (rDictT α β X.K) := by
  intro pins s σ H vs us Q I r q
  obtain ⟨a, ws, xs, ex, hq, hA, q⟩ := q
  subst ex
  obtain ⟨u, eu, rx⟩ := vals1 r
  subst eu
  cases rx
  obtain ⟨its, rv, pl, hz⟩ := I.list hq
  obtain ⟨rs, e1, e2, e3⟩ := rows_of hA
  subst e1
  obtain ⟨o, n, ho, hc, hd, hdat⟩ := pl
  have hil : its.length = rs.length := by have := rv.length; rw [List.length_map] at this; omega
  have row : ∀ (j : Nat) (x : α × β) (r : Addr × Addr × V), xs[j]? = some x → rs[j]? = some r → H r.1 = some (.tup [.ref r.2.1, r.2.2]) ∧ H r.2.1 = some (.tup ((ikeys (IK.ks x.1)).map kV)) ∧ ∃ u : Value, IsTup s.heap r.1 #[.ref r.2.1, u] ∧ RelV r.2.2 u := fun j x r hx hr => by
    obtain ⟨h1, h2, h3⟩ := e3 j x r hx hr
    obtain ⟨_, its2, r2, ht⟩ := (show ObjOk X.prog X.w H s.heap r.1 (.tup _) from I.hok _ _ h1)
    obtain ⟨u1, u2, rfl, ra, rb⟩ := vals2 r2
    obtain rfl : u1 = Value.ref r.2.1 := ra
    exact ⟨h1, h2, u2, ht, rb⟩
  -- the values of the rows
  have vals : ∃ us : List Value, us.length = rs.length ∧ ∀ (j : Nat) (r : Addr × Addr × V) (u : Value), rs[j]? = some r → us[j]? = some u → IsTup s.heap r.1 #[.ref r.2.1, u] ∧ RelV r.2.2 u := by
    have go : ∀ (l : List (Addr × Addr × V)), (∀ r ∈ l, ∃ u : Value, IsTup s.heap r.1 #[.ref r.2.1, u] ∧ RelV r.2.2 u) → ∃ us : List Value, us.length = l.length ∧ ∀ (j : Nat) (r : Addr × Addr × V) (u : Value), l[j]? = some r → us[j]? = some u → IsTup s.heap r.1 #[.ref r.2.1, u] ∧ RelV r.2.2 u := fun l => by
      induction l with
      | nil => exact fun _ => ⟨[], rfl, fun j r u e => by simp at e⟩
      | cons r l ih =>
        intro h
        obtain ⟨us, h1, h2⟩ := ih fun r hr => h r (List.mem_cons_of_mem _ hr)
        obtain ⟨u, h3⟩ := h r (List.mem_cons_self ..)
        refine ⟨u :: us, by rw [List.length_cons, List.length_cons, h1], fun j r' u' hr hu => ?_⟩
        cases j with
        | zero => cases hr; cases hu; exact h3
        | succ j => exact h2 j r' u' (by simpa using hr) (by simpa using hu)
    refine go rs fun r hr => ?_
    obtain ⟨j, hj⟩ := List.mem_iff_getElem?.mp hr
    have hjl : j < xs.length := by rw [← e2]; exact (List.getElem?_eq_some_iff.mp hj).1
    obtain ⟨_, _, u, h⟩ := row j _ r (List.getElem?_eq_getElem hjl) hj
    exact ⟨u, h⟩
  obtain ⟨us, hul, hus⟩ := vals
  obtain ⟨ps, hps⟩ : ∃ ps : List (List Key × Addr × Value), ps = (List.zip xs (List.zip rs us)).map fun z => (ikeys (IK.ks z.1.1), z.2.1.2.1, z.2.2) := ⟨_, rfl⟩
  obtain ⟨kvs, hkvs⟩ : ∃ kvs : List (List Key × V), kvs = (List.zip xs rs).map fun z => (ikeys (IK.ks z.1.1), z.2.2.2) := ⟨_, rfl⟩
  have psl : ps.length = rs.length := by rw [hps, List.length_map, List.length_zip, List.length_zip]; omega
  have psg : ∀ (j : Nat) (x : α × β) (r : Addr × Addr × V) (u : Value), xs[j]? = some x → rs[j]? = some r → us[j]? = some u → ps[j]? = some (ikeys (IK.ks x.1), r.2.1, u) := fun j x r u h1 h2 h3 => by
    rw [hps, List.getElem?_map, List.zip, List.getElem?_zipWith, h1]
    rw [List.zip, List.getElem?_zipWith, h2, h3]
    rfl
  have all3 : ∀ j, j < rs.length → ∃ x r u, xs[j]? = some x ∧ rs[j]? = some r ∧ us[j]? = some u := fun j hj =>
    ⟨_, _, _, List.getElem?_eq_getElem (by omega), List.getElem?_eq_getElem hj, List.getElem?_eq_getElem (by omega)⟩
  have hkt : KT H kvs ps := by
    rw [hkvs, hps]
    have go : ∀ (xs : List (α × β)) (rs : List (Addr × Addr × V)) (us : List Value), rs.length = xs.length → us.length = rs.length → (∀ (j : Nat) x r u, xs[j]? = some x → rs[j]? = some r → us[j]? = some u → H r.2.1 = some (.tup ((ikeys (IK.ks x.1)).map kV)) ∧ RelV r.2.2 u) →
        KT H ((List.zip xs rs).map fun z => (ikeys (IK.ks z.1.1), z.2.2.2)) ((List.zip xs (List.zip rs us)).map fun z => (ikeys (IK.ks z.1.1), z.2.1.2.1, z.2.2)) := fun xs => by
      induction xs with
      | nil =>
        intro rs us h1 h2 _
        obtain rfl := List.eq_nil_of_length_eq_zero h1
        exact .nil
      | cons x xs ih =>
        intro rs us h1 h2 h3
        cases rs with
        | nil => cases h1
        | cons r rs =>
          cases us with
          | nil => cases h2
          | cons u us =>
            obtain ⟨h4, h5⟩ := h3 0 x r u rfl rfl rfl
            exact .cons ⟨rfl, h4, h5⟩ (ih rs us (by simpa using h1) (by simpa using h2) fun j x r u a b c => h3 (j + 1) x r u a b c)
    refine go xs rs us e2 hul fun j x r u h1 h2 h3 => ?_
    exact ⟨(row j x r h1 h2).2.1, (hus j r u h2 h3).2⟩
  have hlast : (putAllK [] kvs).length ≤ xs.length := by
    have := putAllK_len kvs []
    rw [hkvs] at this ⊢
    rw [List.length_map, List.length_zip, List.length_nil] at this
    omega
  have hsz : rs.length ≤ sizeLine := by rw [List.length_map] at hz; exact hz
  have key : ∀ x ∈ ps, (tupleKind (mixKind X.prog X.w)).is s.heap x.1 x.2.1 := fun x hx => by
    obtain ⟨j, hj⟩ := List.mem_iff_getElem?.mp hx
    have hjl : j < rs.length := by rw [← psl]; exact (List.getElem?_eq_some_iff.mp hj).1
    obtain ⟨y, r, u, h1, h2, h3⟩ := all3 j hjl
    rw [psg j y r u h1 h2 h3] at hj
    cases hj
    exact key_of I.hok (row j y r h1 h2).2.1
  refine call_dict_pairsH (knd := tupleKind (mixKind X.prog X.w)) (ps := ps) (PairArg.list a its.toArray (fun j => ((rs[j]?).map (·.1)).getD 0) (ps.map fun p => (Value.ref p.2.1, p.2.2))) (I.ok.hd hcalm) (tupleKind_room_in1 (by simp only [Around.in1_units]; omega)) ⟨⟨o, n, ho, hc, hd, hdat⟩, ?_, ?_⟩ ⟨?_, ?_⟩ ?_ (by rw [List.length_map, psl]; exact hsz) fun h' tk dd hk => ?_
  · rw [List.size_toArray, List.length_map, psl]; exact hil
  · intro j k v hj
    rw [List.getElem?_map] at hj
    obtain ⟨p, hp, ep⟩ := Option.map_eq_some_iff.mp hj
    have hjl : j < rs.length := by rw [← psl]; exact (List.getElem?_eq_some_iff.mp hp).1
    obtain ⟨y, r, u, h1, h2, h3⟩ := all3 j hjl
    rw [psg j y r u h1 h2 h3] at hp
    cases hp
    cases ep
    refine ⟨?_, ?_⟩
    · have rv2 : Vals ((rs.map (·.1)).map V.ref) its := by rw [List.map_map]; exact rv
      have e9 := refs_at rv2
      have e10 : ((rs[j]?).map (·.1)).getD 0 = r.1 := by rw [h2]; rfl
      show _ = some (Value.ref (((rs[j]?).map (·.1)).getD 0))
      rw [e10, List.getElem?_toArray, e9, List.getElem?_map, List.getElem?_map, h2]
      rfl
    · show PairAt s.heap (((rs[j]?).map (·.1)).getD 0) _ _
      rw [h2]
      obtain ⟨o2, ho2, hc2, n2, hd2⟩ := (hus j r u h2 h3).1
      exact .inl ⟨o2, ho2, hc2, n2, hd2⟩
  · rw [List.length_map]
  · intro i k v hi
    have hi' : (ps.map fun p => (Value.ref p.2.1, p.2.2))[i]? = some (k, v) := hi
    rw [List.getElem?_map] at hi'
    obtain ⟨p, hp, ep⟩ := Option.map_eq_some_iff.mp hi'
    cases ep
    exact ⟨p.1, p.2.1, hp, rfl⟩
  · intro h' hk x hx
    obtain ⟨o2, items, n2, g1, g2, g3, g4⟩ := key x hx
    exact ⟨o2, items, n2, hk _ _ (Nat.ne_of_lt (Heap.lt_size g1)) (fun z => nomatch z) g1, g2, g3, g4⟩
  · have hm : (s.heap.objs.size == sysModules) = false := beq_eq_false_iff_ne.mpr (Nat.ne_of_gt I.big)
    obtain ⟨od, es, ep, d1, d2, d3, d4, d5, d6⟩ := dd
    have hn : H s.heap.objs.size = none := I.hok.fresh (Nat.le_refl _)
    have kt2 : KT H (putAllK [] kvs) (storedAllH [] ps) := kt_all .nil hkt
    refine ⟨.ref s.heap.objs.size, upd H s.heap.objs.size (.dT (putAllK [] kvs)), I.laid (t' := tk) (fun b o e => hk b o (fun z => nomatch z) e) (Nat.le_refl _) (show ObjOk X.prog X.w _ _ _ (.dT (putAllK [] kvs)) from ⟨by rw [List.length_map] at hz; omega, hm, storedAllH [] ps, Paired.mapP kt2 fun p q z => ⟨z.1, by rw [upd_ne (ne_of_none z.2.1 hn)]; exact z.2.1, z.2.2⟩, od, es, ep, d1, d2, d3, d4, d6⟩), rfl, q _ _ hn hlast (fun F hFH hF => ?_)⟩
    refine rd_all RD.nil ?_
    rw [hkvs]
    have go : ∀ (xs : List (α × β)) (rs : List (Addr × Addr × V)), rs.length = xs.length → (∀ (j : Nat) x r, xs[j]? = some x → rs[j]? = some r → R X.K F r.2.2 x.2) → RD (α := α) (β := β) X.K F ((List.zip xs rs).map fun z => (ikeys (IK.ks z.1.1), z.2.2.2)) xs := fun xs => by
      induction xs with
      | nil =>
        intro rs h1 _
        obtain rfl := List.eq_nil_of_length_eq_zero h1
        exact RD.nil
      | cons x xs ih =>
        intro rs h1 h2
        cases rs with
        | nil => cases h1
        | cons r rs => exact RD.cons_iff.mpr ⟨⟨rfl, h2 0 x r rfl rfl, trivial⟩, ih rs (by simpa using h1) fun j x r a b => h2 (j + 1) x r a b⟩
    refine go xs rs e2 fun j x r h1 h2 => ?_
    obtain ⟨y, hy, ry⟩ := RL.get hF (v := V.ref r.1) (i := j) (by rw [List.getElem?_map, h2]; rfl)
    rw [h1] at hy
    cases hy
    obtain ⟨p, v1, v2, e, hp, r1, r2⟩ := R.p2_s ry
    cases e
    have := hFH _ _ hp
    rw [(row j x r h1 h2).1] at this
    cases this
    exact r2
end
end G
/-! My base, part 29: < > <= >= of data of one type (ints, texts, lists, tuples of these). -/
namespace G
open PySem PySem.Spec PyProof.Rows L2 TL
/-- two of the type can be put in order, place by place -/
class Alk (α : Type) [Enc α] : Prop where
  ak : ∀ x y : α, PySem.W.alike (Enc.d x) (Enc.d y) = true
  nn : ∀ x : α, Enc.d x ≠ PyData.none
open PySem.W (alike alikeAll)
theorem alikeAll_enc {α : Type} [Enc α] [Alk α] : ∀ xs ys : List α, alikeAll (xs.map Enc.d) (ys.map Enc.d) = true
  | [], _ => by rw [List.map_nil, alikeAll]
  | _ :: _, [] => by rw [List.map_nil, List.map_cons, alikeAll]
  | x :: xs, y :: ys => by
    rw [List.map_cons, List.map_cons, alikeAll, Alk.ak x y, alikeAll_enc xs ys]
    rfl
instance : Alk Int := ⟨fun x y => by show alike (.int x) (.int y) = true; simp only [alike], fun x h => nomatch h⟩
instance : Alk Str := ⟨fun x y => by show alike (.str x) (.str y) = true; simp only [alike], fun x h => nomatch h⟩
instance {α : Type} [Enc α] [Alk α] : Alk (List α) := ⟨fun x y => by show alike (.list _) (.list _) = true; simp only [alike]; exact alikeAll_enc x y, fun x h => nomatch h⟩
instance {α β : Type} [Enc α] [Enc β] [Alk α] [Alk β] : Alk (α × β) := ⟨fun x y => by show alike (.tuple [_, _]) (.tuple [_, _]) = true; simp only [alike, alikeAll, Alk.ak, Bool.and_self], fun x h => nomatch h⟩
/-- x < y -/
def ltD {α : Type} [Enc α] (x y : α) : Bool := PySem.W.dataLt (Enc.d x) (Enc.d y)
section
variable {K : PySem.W.Frag} {X : Cx}
def rOrd (α : Type) [Enc α] (f : α → α → Bool) (K : PySem.W.Frag) : R2 := fun x y H Q => ∃ d e : α, R K H x d ∧ R K H y e ∧ Q (.bl (f d e)) H
theorem op_gtD {α : Type} [Enc α] [Alk α] [Dep α] (hd : Dep.n α ≤ 64) (hu : X.A.units + 64 < cLine) : OpR X (compareOp .Gt) (rOrd α (fun x y => ltD y x) X.K) := by
  intro pins s σ H x y v u Q I rx ry h
  obtain ⟨d, e, hd, he, q⟩ := h
  obtain ⟨as, r1⟩ := Dp.reads I _ x v (Rp.dp _ _ hd) rx
  obtain ⟨bs, r2⟩ := Dp.reads I _ y u (Rp.dp _ _ he) ry
  exact PySem.W.rcGt_alike _ _ _ _ _ _ _ _ r1 r2 (Alk.ak d e) (Alk.nn d) (SeqAt.room_of_shaped (R.shaped hd (by assumption)) hu) _ _ _ _ ⟨.bl _, H, I, rfl, q⟩
theorem op_ltD {α : Type} [Enc α] [Alk α] [Dep α] (hd : Dep.n α ≤ 64) (hu : X.A.units + 64 < cLine) : OpR X (compareOp .Lt) (rOrd α (fun x y => ltD x y) X.K) := by
  intro pins s σ H x y v u Q I rx ry h
  obtain ⟨d, e, hd, he, q⟩ := h
  obtain ⟨as, r1⟩ := Dp.reads I _ x v (Rp.dp _ _ hd) rx
  obtain ⟨bs, r2⟩ := Dp.reads I _ y u (Rp.dp _ _ he) ry
  exact PySem.W.rcLt_alike _ _ _ _ _ _ _ _ r1 r2 (Alk.ak d e) (Alk.nn d) (SeqAt.room_of_shaped (R.shaped hd (by assumption)) hu) _ _ _ _ ⟨.bl _, H, I, rfl, q⟩
theorem op_leD {α : Type} [Enc α] [Alk α] [Dep α] (hd : Dep.n α ≤ 64) (hu : X.A.units + 64 < cLine) : OpR X (compareOp .LtE) (rOrd α (fun x y => !ltD y x) X.K) := by
  intro pins s σ H x y v u Q I rx ry h
  obtain ⟨d, e, hd, he, q⟩ := h
  obtain ⟨as, r1⟩ := Dp.reads I _ x v (Rp.dp _ _ hd) rx
  obtain ⟨bs, r2⟩ := Dp.reads I _ y u (Rp.dp _ _ he) ry
  exact PySem.W.rcLe_alike _ _ _ _ _ _ _ _ r1 r2 (Alk.ak d e) (Alk.nn d) (SeqAt.room_of_shaped (R.shaped hd (by assumption)) hu) _ _ _ _ ⟨.bl _, H, I, rfl, q⟩
theorem op_geD {α : Type} [Enc α] [Alk α] [Dep α] (hd : Dep.n α ≤ 64) (hu : X.A.units + 64 < cLine) : OpR X (compareOp .GtE) (rOrd α (fun x y => !ltD x y) X.K) := by
  intro pins s σ H x y v u Q I rx ry h
  obtain ⟨d, e, hd, he, q⟩ := h
  obtain ⟨as, r1⟩ := Dp.reads I _ x v (Rp.dp _ _ hd) rx
  obtain ⟨bs, r2⟩ := Dp.reads I _ y u (Rp.dp _ _ he) ry
  exact PySem.W.rcGe_alike _ _ _ _ _ _ _ _ r1 r2 (Alk.ak d e) (Alk.nn d) (SeqAt.room_of_shaped (R.shaped hd (by assumption)) hu) _ _ _ _ ⟨.bl _, H, I, rfl, q⟩
end
section
variable {K : PySem.W.Frag} {X : Cx}
theorem op_gtDK {α : Type} [Enc α] [Alk α] [Dep α] (hu : X.A.units + 64 < cLine) (hd : Dep.n α ≤ 64 := by decide) (h : X.K = K := by rfl) : OpR X (compareOp .Gt) (rOrd α (fun x y => ltD y x) K) := by subst h; exact op_gtD hd hu
theorem op_ltDK {α : Type} [Enc α] [Alk α] [Dep α] (hu : X.A.units + 64 < cLine) (hd : Dep.n α ≤ 64 := by decide) (h : X.K = K := by rfl) : OpR X (compareOp .Lt) (rOrd α (fun x y => ltD x y) K) := by subst h; exact op_ltD hd hu
theorem op_leDK {α : Type} [Enc α] [Alk α] [Dep α] (hu : X.A.units + 64 < cLine) (hd : Dep.n α ≤ 64 := by decide) (h : X.K = K := by rfl) : OpR X (compareOp .LtE) (rOrd α (fun x y => !ltD y x) K) := by subst h; exact op_leD hd hu
theorem op_geDK {α : Type} [Enc α] [Alk α] [Dep α] (hu : X.A.units + 64 < cLine) (hd : Dep.n α ≤ 64 := by decide) (h : X.K = K := by rfl) : OpR X (compareOp .GtE) (rOrd α (fun x y => !ltD x y) K) := by subst h; exact op_geD hd hu
end
/-! what the order is -/
theorem ltD_ints (xs ys : List Int) : ltD xs ys = decide (xs < ys) := by
  have h := PySem.W.dataLt_ints xs ys
  rw [← h]
  exact PySem.W.dataLt_list _ _
theorem ltD_int (x y : Int) : ltD x y = decide (x < y) := PySem.W.dataLt_int x y
theorem ltD_p2 {α β : Type} [Enc α] [Enc β] [Alk α] [Alk β] (x y : α × β) : ltD x y = if eqD x.1 y.1 = true then (if eqD x.2 y.2 = true then false else ltD x.2 y.2) else ltD x.1 y.1 :=
  PySem.W.dataLt_pair (Alk.ak x.1 y.1) (Alk.ak x.2 y.2)
theorem call_dictTK {α β : Type} [Enc α] [IK α] [Enc β] [DecidableEq α] {X : Cx} {K : PySem.W.Frag} (hcalm : X.calm = true) (hu : X.A.units + 64 < cLine) (h : X.K = K := by rfl) : CallR X (.type "dict") (rDictT α β K) := by
  subst h
  exact call_dictT hcalm (by omega)
end G
/-! My base, part 30: list(range(n)). -/
namespace G
open PySem PySem.Spec PyProof.Rows L2 TL
section
variable {X : Cx}
theorem cr_range1 : CallR X (.type "range") (fun vs H Q => ∃ j, vs = [V.int j] ∧ ∀ p, H p = none → Q (.ref p) (upd H p (.rng 0 j))) := by
  intro pins s σ H vs us Q I r h
  obtain ⟨j, rfl, q⟩ := h
  obtain ⟨u1, rfl, ri⟩ := vals1 r
  obtain ⟨t, rfl⟩ := ri
  refine call_range_1 ⟨.ref s.heap.objs.size, upd H s.heap.objs.size (.rng 0 j), I.laid (t' := s.toks + 2) (fun b o e => Heap.get?_push_of_some _ e) (Nat.le_refl _) ?_, rfl, q _ (I.hok.fresh (Nat.le_refl _))⟩
  exact ⟨_, _, _, Heap.get?_push_size _ rfl⟩
theorem cr_listRng (hc : X.calm = true) : CallR X (.type "list") (fun vs H Q => ∃ p lo hi, vs = [V.ref p] ∧ H p = some (.rng lo hi) ∧ (-(2 ^ 62) ≤ lo ∧ lo < 2 ^ 62 ∧ -(2 ^ 62) ≤ hi ∧ hi < 2 ^ 62) ∧ (hi - lo).toNat ≤ sizeLine ∧
    ∀ q, H q = none → Q (.ref q) (upd H q (.lst ((rangeL lo (hi - lo).toNat).map V.int)))) := by
  intro pins s σ H vs us Q I r h
  obtain ⟨p, lo, hi, rfl, hp, hb, hz, q⟩ := h
  obtain ⟨u1, rfl, ri⟩ := vals1 r
  obtain rfl : u1 = .ref p := ri
  obtain ⟨t, u, v, ho⟩ := I.hok _ _ hp
  refine call_list_range (n := (hi - lo).toNat) (I.ok.hd hc) ho (small_one hb.1 hb.2.1 hb.2.2.1 hb.2.2.2) (rangeSize_nat _ _) (by rw [sizeLine_eq] at hz; omega) fun h' tk acc c hk hD hI => ?_
  refine ⟨.ref s.heap.objs.size, upd H s.heap.objs.size (.lst ((rangeL lo (hi - lo).toNat).map V.int)), I.laid (t' := tk) hk (Nat.le_refl _) (show ObjOk X.prog X.w _ _ _ (.lst _) from ⟨by rw [List.length_map, rangeL_len]; exact hz, acc.toList, c, ?_, by rw [Array.toArray_toList]; exact hD⟩), rfl, q _ (I.hok.fresh (Nat.le_refl _))⟩
  obtain ⟨h1, h2⟩ := hI
  have go : ∀ (n : Nat) (k : Nat) (vs : List Value), vs.length = n → (∀ i v, vs[i]? = some v → ∃ t, v = Value.int (lo + ((k + i : Nat) : Int) * 1) t) → Vals ((List.range' k n).map fun j => V.int (lo + (j : Nat))) vs := fun n => by
    induction n with
    | zero =>
      intro k vs e _
      obtain rfl := List.eq_nil_of_length_eq_zero e
      exact .nil
    | succ n ih =>
      intro k vs e hv
      cases vs with
      | nil => cases e
      | cons v vs =>
        rw [List.range'_succ, List.map_cons]
        refine .cons ?_ (ih (k + 1) vs (by simpa using e) fun i w hw => ?_)
        · obtain ⟨t, e2⟩ := hv 0 v rfl
          rw [Int.mul_one] at e2
          exact ⟨t, e2⟩
        · obtain ⟨t, e2⟩ := hv (i + 1) w (by simpa using hw)
          exact ⟨t, by rw [e2]; congr 3; omega⟩
  have := go (hi - lo).toNat 0 acc.toList (by rw [Array.length_toList]; exact h1) fun i v hv => by
    obtain ⟨t, e⟩ := h2 i v (by rw [← hv, Array.getElem?_toList])
    exact ⟨t, by rw [e, Nat.zero_add]⟩
  unfold rangeL
  rw [List.map_map, List.range_eq_range']
  exact this
end
end G
/-! My base, part 31: dict comprehensions, the keys of any kind that a dict of one's own can have. -/
namespace G
open PySem PySem.Spec PyProof.Rows L2 TL
/-- how a dict of a kind begins, and how it takes a value -/
structure StoreOk (S : Hp → Addr → V → V → Hp → Prop) (ob0 : HO) : Prop where
  empty : ∀ (P : Program) (w : World) (H : Hp) (h : Heap), sysModules < h.objs.size → ObjOk P w H (h.push { cls := .type "dict", data := .dict #[] }) h.objs.size ob0
  set : ∀ {X : Cx} {pins : List (Addr × Obj)} {σ : L2.St} {H H' : Hp} {s : Shared} {E : Value → Shared → Prop} {D : Addr} {y z : V} {u r : Value} {Q : Unit → Shared → Prop}, X.A.units + 1 < cLine → Inv X pins σ H s → S H D y z H' → RelV y u → RelV z r →
    (∀ s', Inv X pins σ H' s' → Q () s') → wpAny (model X.prog X.w) X.A (dictSet D u r) Q E s
theorem store_put {X : Cx} {pins : List (Addr × Obj)} {σ : L2.St} {H H' : Hp} {s : Shared} {E : Value → Shared → Prop} {D : Addr} {y z : V} {u r : Value} {Q : Unit → Shared → Prop} (hu : X.A.units + 1 < cLine) (I : Inv X pins σ H s) (g : DPut H D y z H') (ry : RelV y u) (rv : RelV z r)
    (h : ∀ s', Inv X pins σ H' s' → Q () s') : wpAny (model X.prog X.w) X.A (dictSet D u r) Q E s := by
  rcases g with ⟨kvs, k, e, rfl, l, rfl⟩ | ⟨kvs, k, b, e, rfl, eb, l, rfl⟩
  · exact d_dictSet I e l ry rv h
  · obtain rfl : u = Value.ref b := ry
    obtain ⟨len, hd, xs, rel, dd⟩ := dt_of I.hok e
    have hz : xs.length ≤ sizeLine := by rw [← Paired.length rel]; exact len
    have hl : (putK kvs k z).length ≤ sizeLine := by have := length_putK kvs k z; omega
    refine wpAny_dictSet_heap (hsz := hz) (knd := tupleKind (mixKind X.prog X.w)) (show X.A.units < cLine by omega) (key_of I.hok eb) dd fun h' dd' hs => h _ ?_
    obtain ⟨q, es, ep, hq, h2, h3, h4, _, h5⟩ := dd'
    refine d_write I (by rw [e]; exact True.intro) hs ⟨q, hq⟩ ⟨hl, hd, _, KT.keeps (rel.put k eb rv) fun c ys ec => ?_, q, es, ep, hq, h2, h3, h4, h5⟩
    rw [upd_ne (ne_of ec e (fun z => nomatch z))]
    exact ec
theorem storeK : StoreOk DPut (.dK []) := ⟨fun P w H h hb => dk_empty h hb, fun hu I g ry rv h => store_put hu I g ry rv h⟩
theorem storeT : StoreOk DPut (.dT []) := ⟨fun P w H h hb => dt_empty h hb, fun hu I g ry rv h => store_put hu I g ry rv h⟩
section
variable {X : Cx}
/-- {k: v for target in iter if ..} into a dict that begins as ob0 and takes by S -/
def tDcS (S : Hp → Addr → V → V → Hp → Prop) (ob0 : HO) (wi : TI) (g : TG) (tt : TT) (tk tv : TE) (vs : List Nat) : TE := fun σ H Q => wi σ H fun J H1 => ∀ D, H1 D = none →
  ∃ W : Nat → Nat → Hp → Prop, (∃ m, W 0 m (upd H1 D ob0)) ∧ ∀ i m H, W i m H →
    (J.stop i H ∧ Q (.ref D) H) ∨ (J.go i H ∧ ∃ Nx : Hp → Prop, (∀ H', Nx H' → ∃ m', m' < m ∧ W (i + 1) m' H') ∧ ∀ x H', J.yld i H x H' → g x (wipe σ vs) H' fun σ2 H2 => wipe σ2 vs = wipe σ vs ∧ tt σ2 H2 fun b H3 =>
      if b = true then tk σ2 H3 fun y H4 => tv σ2 H4 fun z H5 => ∃ H6, S H5 D y z H6 ∧ Nx H6 else Nx H3)
theorem dc_coreS {pins : List (Addr × Obj)} {s : Shared} {σ : L2.St} {H : Hp} {Q : VK} {pos' : Pos} {use : Option (Value → Sem Unit)} {Qf : Value → Shared → Prop} {S : Hp → Addr → V → V → Hp → Prop} {ob0 : HO} (so : StoreOk S ob0) {kx vx tg iter : Expr} {ifs : List Expr} {scope : Scope} {own : List (Str × Nat)} {pos : Pos} {wi : TI} {g : TG} {tt : TT} {tk tv : TE} (hc : X.calm = true) (hu : X.A.units + 1 < cLine) (hN : X.N.Nodup) (I : Inv X pins σ H s)
    (hi : PI X tg iter wi) (ok : BlkOk X.N X.env.scope scope own)
    (hg : ∀ (s : Shared) (H : Hp) (C : Addr) (cl : List (Str × Addr)) (fp : List Addr), PG (X.blk s H scope (compEnvC scope cl C X.env) fp) tg g) (ht : ∀ (s : Shared) (H : Hp) (C : Addr) (cl : List (Str × Addr)) (fp : List Addr), PTs (X.blk s H scope (compEnvC scope cl C X.env) fp) ifs tt)
    (hk : ∀ (s : Shared) (H : Hp) (C : Addr) (cl : List (Str × Addr)) (fp : List Addr), PE (X.blk s H scope (compEnvC scope cl C X.env) fp) kx tk)
    (he : ∀ (s : Shared) (H : Hp) (C : Addr) (cl : List (Str × Addr)) (fp : List Addr), PE (X.blk s H scope (compEnvC scope cl C X.env) fp) vx tv) (hs : ∀ x, foldedSetIterable iter X.env x = pure x)
    (h : tDcS S ob0 wi g tt tk tv (own.map (·.2)) σ H Q)
    (hRR : ∀ D C s' m H', Inv X pins σ H' s' → Q (.ref D) H' → s'.heap.Ns C m → FpOk X pins H' C → compPost (model X.prog X.w) X.A X.xe use Qf (.ref D) C (.ok .next) s') :
    wpAny (model X.prog X.w) X.A (comprehension (.DictComp kx vx [⟨tg, iter, ifs, 0⟩] scope pos) scope X.env pos' newDict false (eval iter X.env) use) Qf X.xe s := by
  have cells : ∀ y ∈ scope.names, y.2 = .free → ∃ c, X.env.cells.lookup y.1 = some c := fun y hy e => (ok.free y hy e).elim (fun k => I.ok.has _ (.inl k)) (fun k => I.ok.has _ (.inr k))
  refine wpAny_comprehension_free (use := use) rfl hs (closure_ok cells) ok.kind (fun y hy e => by rw [ok.uniq y hy, e]) (thn (hi.run pins s σ H _ I h) fun xv s1 hx => thn hx fun itv s2 ⟨it, fp, tn, J, H2, ei, I2, T, st2, f2, q⟩ => ?_)
  subst ei
  refine wpAny_newObj_type (newEnv_comp ?_)
  have hDn : H2 s2.heap.objs.size = none := I2.hok.fresh (Nat.le_refl _)
  obtain ⟨W, ⟨m0, w0⟩, turn⟩ := q _ hDn
  generalize hD : s2.heap.objs.size = D at hDn w0 turn ⊢
  generalize hs3 : ({ s2 with heap := s2.heap.push { cls := .type "dict", data := .dict #[] } } : Shared) = s3
  have h3 : s3.heap = s2.heap.push { cls := .type "dict", data := .dict #[] } := by rw [← hs3]
  have I3 : Inv X pins σ (upd H2 D ob0) s3 := by
    subst hD hs3
    exact I2.laid (t' := s2.toks) (fun b o e => Heap.get?_push_of_some _ e) (Nat.le_refl _) (so.empty _ _ _ _ I2.big)
  have f3 : ∀ b ∈ fp, FpOk X pins (upd H2 D ob0) b ∧ b < s3.heap.objs.size := fun b hb => by
    obtain ⟨o, e, _⟩ := T.obj _ _ st2 b hb
    have hlt := Heap.lt_size e
    exact ⟨⟨by rw [upd_ne (by rw [← hD]; exact Nat.ne_of_lt hlt)]; exact (f2 b hb).1, (f2 b hb).2⟩, by rw [h3, Heap.size_push]; exact Nat.lt_succ_of_lt hlt⟩
  have st3 : tn 0 s3.heap := T.keep _ _ _ st2 fun b _ o e => by rw [h3]; exact Heap.get?_push_of_some _ e
  have I4 := block_start I3 ok hN f3
  have pg := hg s3 (upd H2 D ob0) s3.heap.objs.size (cellsFrom (s3.heap.objs.size + 1) scope.names (cloFrom X.env.cells scope.names [])) fp
  have pt := ht s3 (upd H2 D ob0) s3.heap.objs.size (cellsFrom (s3.heap.objs.size + 1) scope.names (cloFrom X.env.cells scope.names [])) fp
  have pk := hk s3 (upd H2 D ob0) s3.heap.objs.size (cellsFrom (s3.heap.objs.size + 1) scope.names (cloFrom X.env.cells scope.names [])) fp
  have pv := he s3 (upd H2 D ob0) s3.heap.objs.size (cellsFrom (s3.heap.objs.size + 1) scope.names (cloFrom X.env.cells scope.names [])) fp
  show codeAny _ _ (.compStart (.DictComp kx vx [⟨tg, iter, ifs, 0⟩] scope pos) 0 (.ref it) (.ref D) (compEnvC scope (cellsFrom (s3.heap.objs.size + 1) scope.names (cloFrom X.env.cells scope.names [])) s3.heap.objs.size X.env)) (compPost (model X.prog X.w) X.A X.xe use Qf (.ref D) s3.heap.objs.size)
    { s3 with heap := pushCells (s3.heap.push { cls := .type "dict", data := .dict #[] }) scope.names }
  have none3 : ∀ b ∈ fp, (upd H2 D ob0) b = none := fun b hb => (f3 b hb).1.1
  generalize hce : compEnvC scope (cellsFrom (s3.heap.objs.size + 1) scope.names (cloFrom X.env.cells scope.names [])) s3.heap.objs.size X.env = ce at I4 pg pt pk pv ⊢
  have loc : ce.locals = s3.heap.objs.size := by rw [← hce]; rfl
  generalize hH3 : upd H2 D ob0 = H3 at I3 I4 pg pt pk pv w0 none3 f3
  generalize hs4 : ({ s3 with heap := pushCells (s3.heap.push { cls := .type "dict", data := .dict #[] }) scope.names } : Shared) = s4 at I4 ⊢
  have st4 : tn 0 s4.heap := T.keep _ _ _ st3 fun b _ o e => by rw [← hs4]; exact pushCells_keeps _ _ _ _ (Heap.get?_push_of_some _ e)
  have stays : ∀ {σ' : L2.St} {H' : Hp} {s' : Shared}, Inv (X.blk s3 H3 scope ce fp) [] σ' H' s' → (∀ b ∈ fp, H' b = none) → ∀ b ∈ fp, FpOk (X.blk s3 H3 scope ce fp) [] H' b := fun {σ' H' s'} I' hn b hb =>
    ⟨hn b hb, (I'.ok.exf b hb).1, I'.ok.exfs b hb, .inl hb, fun x c e => (I'.ok.exf b hb).2 x c e, fun p hp => nomatch (show p ∈ ([] : List (Addr × Obj)) from hp)⟩
  have loop : codeAny (model X.prog X.w) X.A (.compLoop (.DictComp kx vx [⟨tg, iter, ifs, 0⟩] scope pos) 0 (.ref it) (.ref D) ce) (compPost (model X.prog X.w) X.A X.xe use Qf (.ref D) s3.heap.objs.size) s4 := by
    refine compLoop_anyD (fun n s' => ∃ i H', Inv (X.blk s3 H3 scope ce fp) [] (wipe σ (own.map (·.2))) H' s' ∧ tn i s'.heap ∧ (∀ b ∈ fp, H' b = none) ∧ W i n H') (fun n s5 ⟨i, H5, I5, st5, n5, w5⟩ => ?_) m0 ⟨0, H3, I4, st4, none3, w0⟩
    rcases turn i n H5 w5 with ⟨stop, qq⟩ | ⟨go, Nx, hNx, step⟩
    · -- no more turns
      refine thnF (T.done (X.blk s3 H3 scope ce fp) rfl rfl rfl hc i [] s5 _ H5 (fun _ _ => False) I5 (stays I5 n5) st5 stop) fun r s6 ⟨hr, I6⟩ => ?_
      subst hr
      have I7 : Inv X pins σ H5 s6 := I3.call' (ch := fp) I6.os I6.base I6.hok I6.bare fun b hb => ⟨(f3 b hb).1.2.2.2.1, (f3 b hb).1.2.1, (f3 b hb).1.2.2.2.2.1, (f3 b hb).1.2.2.2.2.2⟩
      have nC : H5 s3.heap.objs.size = none := loc ▸ I6.free
      obtain ⟨m, hn, _⟩ := I6.loc
      have hn : s6.heap.Ns s3.heap.objs.size m := loc ▸ hn
      exact hRR D s3.heap.objs.size s6 m H5 I7 qq hn (I3.fpOk (Nat.le_refl _) nC)
    · -- a turn
      refine thnF (T.item (X.blk s3 H3 scope ce fp) rfl rfl rfl hc i [] s5 _ H5 (fun _ _ => False) I5 (stays I5 n5) st5 go) fun r s6 ⟨u, hr, h6⟩ => ?_
      subst hr
      refine thnF h6 fun _ s7 ⟨x, H7, I7, r7, y7, st7, n7⟩ => ?_
      refine thnF (pg.run _ s7 _ H7 x u _ (I7.pinned (stays I7 n7) (T.obj _ _ st7)) r7 (step x H7 y7)) fun _ s8 ⟨σ8, H8, I8, hw8, q8⟩ => thnF (pt.run _ s8 σ8 H8 _ I8 q8) fun b s9 ⟨H9, I9, q9⟩ => ?_
      have close : ∀ {s' : Shared} {H' : Hp}, Inv (X.blk s3 H3 scope ce fp) ([] ++ pinsAt fp s7.heap) σ8 H' s' → Nx H' → ∃ m, m < n ∧ ∃ i H', Inv (X.blk s3 H3 scope ce fp) [] (wipe σ (own.map (·.2))) H' s' ∧ tn i s'.heap ∧ (∀ b ∈ fp, H' b = none) ∧ W i m H' := fun {s' H'} I' nx => by
        obtain ⟨m', hm, w'⟩ := hNx H' nx
        have pin' : ∀ b ∈ fp, ∀ o, s7.heap.get? b = some o → s'.heap.get? b = some o ∧ H' b = none := fun b hb o e =>
          have z := I'.pin (b, o) (List.mem_append_right _ (List.mem_append_right _ (mem_pinsAt hb e)))
          ⟨z.1, z.2.1⟩
        refine ⟨m', hm, i + 1, H', (I'.unpinned (pins := [])).weak (by rw [← hw8, wipe_length]) (fun j v e => by rw [← hw8] at e; exact (wipe_some e).1), T.keep _ _ _ st7 fun b hb o e => (pin' b hb o e).1, fun b hb => ?_, w'⟩
        obtain ⟨o, e, _⟩ := T.obj _ _ st7 b hb
        exact (pin' b hb o e).2
      cases b with
      | false => exact close I9 q9
      | true =>
        simp only [if_true] at q9 ⊢
        exact thnF (pk.run _ s9 σ8 H9 _ I9 q9) fun ku s10 ⟨yk, H10, I10, r10, q10⟩ => thnF (pv.run _ s10 σ8 H10 _ I10 q10) fun vu s11 ⟨yv, H11, I11, r11, H12, sd, nx⟩ =>
          so.set (X := X.blk s3 H3 scope ce fp) hu I11 sd r10 r11 fun s12 I12 => close I12 nx
  exact codeAny_compStart_dict loop (T.self X.A 0 _ _ _ st4 loop)
theorem pe_dcS {S : Hp → Addr → V → V → Hp → Prop} {ob0 : HO} (so : StoreOk S ob0) {kx vx tg iter : Expr} {ifs : List Expr} {scope : Scope} {own : List (Str × Nat)} {pos : Pos} {wi : TI} {g : TG} {tt : TT} {tk tv : TE} (hc : X.calm = true) (hu : X.A.units + 1 < cLine) (hN : X.N.Nodup)
    (hi : PI X tg iter wi) (ok : BlkOk X.N X.env.scope scope own)
    (hg : ∀ (s : Shared) (H : Hp) (C : Addr) (cl : List (Str × Addr)) (fp : List Addr), PG (X.blk s H scope (compEnvC scope cl C X.env) fp) tg g) (ht : ∀ (s : Shared) (H : Hp) (C : Addr) (cl : List (Str × Addr)) (fp : List Addr), PTs (X.blk s H scope (compEnvC scope cl C X.env) fp) ifs tt)
    (hk : ∀ (s : Shared) (H : Hp) (C : Addr) (cl : List (Str × Addr)) (fp : List Addr), PE (X.blk s H scope (compEnvC scope cl C X.env) fp) kx tk)
    (he : ∀ (s : Shared) (H : Hp) (C : Addr) (cl : List (Str × Addr)) (fp : List Addr), PE (X.blk s H scope (compEnvC scope cl C X.env) fp) vx tv) (hs : ∀ x, foldedSetIterable iter X.env x = pure x := by intro _; rfl) :
    PE X (.DictComp kx vx [⟨tg, iter, ifs, 0⟩] scope pos) (tDcS S ob0 wi g tt tk tv (own.map (·.2))) := by
  refine ⟨fun pins s σ H Q I h => ?_⟩
  rw [arm_eval_DictComp]
  refine dc_coreS so hc hu hN I hi ok hg ht hk he hs h fun D C s' m H' I' q hn f => ⟨m, hn, fun h'' sb => ?_⟩
  obtain ⟨f0, f1, f2, f3, f4, f5⟩ := f
  exact ⟨.ref D, H', I'.turned (t' := s'.toks) (fun b o hb e => (sb.2 b hb).trans e) f0 f1 f3 f4 f5, rfl, q⟩
/-- name = {..}, the name a local -/
theorem ps_setDcS {i : Nat} {y : Str} {py spos : Pos} {S : Hp → Addr → V → V → Hp → Prop} {ob0 : HO} (so : StoreOk S ob0) {kx vx tg iter : Expr} {ifs : List Expr} {scope : Scope} {own : List (Str × Nat)} {pos : Pos} {wi : TI} {g : TG} {tt : TT} {tk tv : TE} (hc : X.calm = true) (hu : X.A.units + 1 < cLine) (hN : X.N.Nodup) (hy : X.N[i]? = some y) (hyl : X.env.scope.names.lookup y = some .local)
    (hsw : swapsWith (.DictComp kx vx [⟨tg, iter, ifs, 0⟩] scope pos) (some (.Name y py)) spos.line X.env = pure true) (hi : PI X tg iter wi) (ok : BlkOk X.N X.env.scope scope own)
    (hg : ∀ (s : Shared) (H : Hp) (C : Addr) (cl : List (Str × Addr)) (fp : List Addr), PG (X.blk s H scope (compEnvC scope cl C X.env) fp) tg g) (ht : ∀ (s : Shared) (H : Hp) (C : Addr) (cl : List (Str × Addr)) (fp : List Addr), PTs (X.blk s H scope (compEnvC scope cl C X.env) fp) ifs tt)
    (hk : ∀ (s : Shared) (H : Hp) (C : Addr) (cl : List (Str × Addr)) (fp : List Addr), PE (X.blk s H scope (compEnvC scope cl C X.env) fp) kx tk)
    (he : ∀ (s : Shared) (H : Hp) (C : Addr) (cl : List (Str × Addr)) (fp : List Addr), PE (X.blk s H scope (compEnvC scope cl C X.env) fp) vx tv) (hs : ∀ x, foldedSetIterable iter X.env x = pure x := by intro _; rfl) :
    PS X (.Assign [.Name y py] (.DictComp kx vx [⟨tg, iter, ifs, 0⟩] scope pos) spos) (tAsg (tDcS S ob0 wi g tt tk tv (own.map (·.2))) (gName i)) := by
  refine ⟨fun pins s σ H D I h => ?_⟩
  rw [exec_Assign_Name_used _ _ _ _ hsw]
  refine wpAny_bind (wpAny_standAt (wpAny_bind ?_))
  show wpAny _ X.A (do let _ ← comprehension (.DictComp kx vx [⟨tg, iter, ifs, 0⟩] scope pos) scope X.env (firstIterPos [⟨tg, iter, ifs, 0⟩] pos) newDict false (eval iter X.env) (some (assign (.Name y py) X.env))) _ _ s
  have h : tDcS S ob0 wi g tt tk tv (own.map (·.2)) σ H (fun x H1 => gName i x σ H1 D.nx) := h
  refine wpAny_bind (thn (dc_coreS (Qf := fun _ s' => SP X pins D .next s') so hc hu hN I hi ok hg ht hk he hs h fun L C s' m H' I' q hn f => ?_) fun _ s' hq => wpAny_pure (wpAny_pure hq))
  show wpAny _ _ (assign (.Name y py) X.env (.ref L)) _ _ _
  refine wpAny_assign_Name (store_ok2 (v := V.ref L) I' hN hy (.inl hyl) rfl (fun s2 I2 ⟨a, sb, ha⟩ => ?_) (.inr hyl))
  obtain ⟨f0, f1, f2, f3, f4, f5⟩ := f
  have haC : C ≠ a := by
    rcases ha with z | z
    · rw [z]; exact f1
    · exact fun e => f4 y a z e.symm
  refine ⟨m, hn.sameBut sb haC, fun h3 sb3 => ?_⟩
  exact ⟨_, H', I2.turned (t' := s2.toks) (fun b o hb e => (sb3.2 b hb).trans e) f0 f1 f3 f4 f5, q⟩
theorem sw_trueD {kx vx : Expr} {gs : List Comprehension} {scope : Scope} {pos py : Pos} {y : Str} {l : Nat} {env : Env} (hk : env.scope.kind = .function) (hy : env.scope.names.lookup y = some .local) (hl : (py.line == pos.line) = true)
    (ha : (scope.names.any fun (n, k) => n == y && (k == .local || k == .cell)) = false) : swapsWith (.DictComp kx vx gs scope pos) (some (.Name y py)) l env = pure true := by
  have ky : env.kindOf y = some .local := hy
  have hb : env.blockKind = .function := by unfold Env.blockKind; rw [hk]; rfl
  unfold swapsWith
  simp only [hb, ky, ha, Expr.pos, hl]
  rfl
end
end G
/-! My base, part 32: walks of dict comprehensions; a < b < c whose last part has effects. -/
namespace G
open PySem PySem.Spec PyProof.Rows L2 TL
section
variable {J : It} {n : Nat} {Gd : Hp → Prop} {Y : Nat → Hp → V → Hp → Prop} {S : Hp → Addr → V → V → Hp → Prop} {ob0 : HO} {g : TG} {tt : TT} {tk tv : TE} {vs : List Nat} {σ : L2.St} {H1 : Hp} {D : Addr} {Qd : Hp → Prop} {K : PySem.W.Frag}
theorem dS_it (w : Walk J n Gd Y) (Pv : Nat → Hp → Prop) (h0 : Pv 0 (upd H1 D ob0)) (hG : ∀ i H, i ≤ n → Pv i H → Gd H)
    (hs : ∀ i x H H', i < n → Pv i H → Y i H x H' → g x (wipe σ vs) H' fun σ2 H2 => wipe σ2 vs = wipe σ vs ∧ tt σ2 H2 fun b H3 =>
      if b = true then tk σ2 H3 fun y H4 => tv σ2 H4 fun z H5 => ∃ H6, S H5 D y z H6 ∧ Pv (i + 1) H6 else Pv (i + 1) H3) (hd : ∀ H, Pv n H → Qd H) :
    ∃ W : Nat → Nat → Hp → Prop, (∃ m, W 0 m (upd H1 D ob0)) ∧ ∀ i m H, W i m H →
      (J.stop i H ∧ Qd H) ∨ (J.go i H ∧ ∃ Nx : Hp → Prop, (∀ H', Nx H' → ∃ m', m' < m ∧ W (i + 1) m' H') ∧ ∀ x H', J.yld i H x H' → g x (wipe σ vs) H' fun σ2 H2 => wipe σ2 vs = wipe σ vs ∧ tt σ2 H2 fun b H3 =>
        if b = true then tk σ2 H3 fun y H4 => tv σ2 H4 fun z H5 => ∃ H6, S H5 D y z H6 ∧ Nx H6 else Nx H3) := by
  refine ⟨fun i m H => m = n - i ∧ i ≤ n ∧ Pv i H, ⟨n, by simp, Nat.zero_le _, h0⟩, ?_⟩
  rintro i m H ⟨rfl, hi, p⟩
  have q := hG i H hi p
  by_cases hlt : i < n
  · exact .inr ⟨w.goes i H hlt q, Pv (i + 1), fun H' p' => ⟨n - (i + 1), by omega, rfl, hlt, p'⟩, fun x H' y => hs i x H H' hlt p (w.yields i H x H' hlt q y)⟩
  · have e : i = n := by omega
    subst e
    exact .inl ⟨w.stops H q, hd H p⟩
abbrev DcGoal (S : Hp → Addr → V → V → Hp → Prop) (ob0 : HO) (J : It) (g : TG) (tt : TT) (tk tv : TE) (vs : List Nat) (σ : L2.St) (H1 : Hp) (D : Addr) (Qd : Hp → Prop) : Prop :=
    ∃ W : Nat → Nat → Hp → Prop, (∃ m, W 0 m (upd H1 D ob0)) ∧ ∀ i m H, W i m H →
      (J.stop i H ∧ Qd H) ∨ (J.go i H ∧ ∃ Nx : Hp → Prop, (∀ H', Nx H' → ∃ m', m' < m ∧ W (i + 1) m' H') ∧ ∀ x H', J.yld i H x H' → g x (wipe σ vs) H' fun σ2 H2 => wipe σ2 vs = wipe σ vs ∧ tt σ2 H2 fun b H3 =>
        if b = true then tk σ2 H3 fun y H4 => tv σ2 H4 fun z H5 => ∃ H6, S H5 D y z H6 ∧ Nx H6 else Nx H3)
abbrev DcStep (S : Hp → Addr → V → V → Hp → Prop) (g : TG) (tt : TT) (tk tv : TE) (vs : List Nat) (σ : L2.St) (D : Addr) (N : Hp → Prop) (x : V) (H : Hp) : Prop :=
  g x (wipe σ vs) H fun σ2 H2 => wipe σ2 vs = wipe σ vs ∧ tt σ2 H2 fun b H3 => if b = true then tk σ2 H3 fun y H4 => tv σ2 H4 fun z H5 => ∃ H6, S H5 D y z H6 ∧ N H6 else N H3
theorem dS_list {a : Addr} {xs : List V} (Pv : Nat → Hp → Prop) (h0 : Pv 0 (upd H1 D ob0)) (hl : ∀ i H, i ≤ xs.length → Pv i H → SqL K H a xs)
    (hs : ∀ i x H, xs[i]? = some x → Pv i H → DcStep S g tt tk tv vs σ D (Pv (i + 1)) x H) (hd : ∀ H, Pv xs.length H → Qd H) : DcGoal S ob0 (Itl K a) g tt tk tv vs σ H1 D Qd :=
  dS_it walk_list Pv h0 hl (fun i x H H' _ p y => by obtain ⟨e, y⟩ := y; subst e; exact hs i x _ y p) hd
theorem dS_tup {a : Addr} {xs : List V} (Pv : Nat → Hp → Prop) (h0 : Pv 0 (upd H1 D ob0)) (hl : ∀ i H, i ≤ xs.length → Pv i H → SqT K H a xs)
    (hs : ∀ i x H, xs[i]? = some x → Pv i H → DcStep S g tt tk tv vs σ D (Pv (i + 1)) x H) (hd : ∀ H, Pv xs.length H → Qd H) : DcGoal S ob0 (Itt K a) g tt tk tv vs σ H1 D Qd :=
  dS_it walk_tup Pv h0 hl (fun i x H H' _ p y => by obtain ⟨e, y⟩ := y; subst e; exact hs i x _ y p) hd
theorem dS_range {lo : Int} {n : Nat} (Pv : Nat → Hp → Prop) (h0 : Pv 0 (upd H1 D ob0))
    (hs : ∀ i H, i < n → Pv i H → DcStep S g tt tk tv vs σ D (Pv (i + 1)) (.int (lo + i)) H) (hd : ∀ H, Pv n H → Qd H) : DcGoal S ob0 (Itr lo n) g tt tk tv vs σ H1 D Qd :=
  dS_it walk_range Pv h0 (fun _ _ _ _ => trivial) (fun i x H H' hi p y => by obtain ⟨e, y⟩ := y; subst e y; exact hs i _ hi p) hd
theorem dS_zip {a b : Addr} {xs ys : List V} (Pv : Nat → Hp → Prop) (h0 : Pv 0 (upd H1 D ob0)) (hl : ∀ i H, i ≤ min xs.length ys.length → Pv i H → SqL K H a xs ∧ SqL K H b ys)
    (hs : ∀ i x y T H, xs[i]? = some x → ys[i]? = some y → H T = none → Pv i H → DcStep S g tt tk tv vs σ D (Pv (i + 1)) (.ref T) (upd H T (.tup [x, y]))) (hd : ∀ H, Pv (min xs.length ys.length) H → Qd H) : DcGoal S ob0 (Itz K a b) g tt tk tv vs σ H1 D Qd :=
  dS_it (walk_zip rfl) Pv h0 hl (fun i v H H' _ p ⟨T, x, y, e1, e2, e3, e4, e5⟩ => by subst e1 e3; exact hs i x y T H e4 e5 e2 p) hd
theorem dS_enum {a : Addr} {xs : List V} (Pv : Nat → Hp → Prop) (h0 : Pv 0 (upd H1 D ob0)) (hl : ∀ i H, i ≤ xs.length → Pv i H → SqL K H a xs)
    (hs : ∀ i x T H, xs[i]? = some x → H T = none → Pv i H → DcStep S g tt tk tv vs σ D (Pv (i + 1)) (.ref T) (upd H T (.tup [.int (i : Nat), x]))) (hd : ∀ H, Pv xs.length H → Qd H) : DcGoal S ob0 (Ite K a) g tt tk tv vs σ H1 D Qd :=
  dS_it walk_enum Pv h0 hl (fun i v H H' _ p ⟨T, x, y, e1, e2, e3, e4, e5⟩ => by
    subst e1 e3
    cases e4
    exact hs i y T H e5 e2 p) hd
theorem dS_str {z : Str} (Pv : Nat → Hp → Prop) (h0 : Pv 0 (upd H1 D ob0))
    (hs : ∀ i c H, z.cps[i]? = some c → Pv i H → DcStep S g tt tk tv vs σ D (Pv (i + 1)) (.str (sgn c)) H) (hd : ∀ H, Pv z.cps.size H → Qd H) : DcGoal S ob0 (Its z) g tt tk tv vs σ H1 D Qd :=
  dS_it walk_str Pv h0 (fun _ _ _ _ => trivial) (fun i x H H' _ p y => by
    obtain ⟨rfl, c, hc, rfl⟩ := y
    exact hs i c _ hc p) hd
theorem dS_keysT {d : Addr} {o : Obj} {kvs : List (List Key × V)} (Pv : Nat → Hp → Prop) (h0 : Pv 0 (upd H1 D ob0)) (hG : ∀ i H, i ≤ kvs.length → Pv i H → H d = some (.frz o (.dT kvs)))
    (hs : ∀ i k v q H, kvs[i]? = some (k, v) → H q = some (.tup (k.map kV)) → Pv i H → DcStep S g tt tk tv vs σ D (Pv (i + 1)) (.ref q) H) (hd : ∀ H, Pv kvs.length H → Qd H) : DcGoal S ob0 (Itkt d o kvs) g tt tk tv vs σ H1 D Qd :=
  dS_it walk_keysT Pv h0 hG (fun i x H H' hi p ⟨e1, k, v, q, e2, e3, e4⟩ => by subst e1 e3; exact hs i k v q _ e2 e4 p) hd
theorem dS_keysK {d : Addr} {o : Obj} {kvs : List (Key × V)} (Pv : Nat → Hp → Prop) (h0 : Pv 0 (upd H1 D ob0)) (hG : ∀ i H, i ≤ kvs.length → Pv i H → H d = some (.frz o (.dK kvs)))
    (hs : ∀ i k v H, kvs[i]? = some (k, v) → Pv i H → DcStep S g tt tk tv vs σ D (Pv (i + 1)) (kV k) H) (hd : ∀ H, Pv kvs.length H → Qd H) : DcGoal S ob0 (Itk d o kvs) g tt tk tv vs σ H1 D Qd :=
  dS_it walk_keysK Pv h0 hG (fun i x H H' hi p ⟨e1, k, v, e2, e3⟩ => by subst e1 e3; exact hs i k v _ e2 p) hd
theorem dS_itemsT {d : Addr} {o : Obj} {kvs : List (List Key × V)} (Pv : Nat → Hp → Prop) (h0 : Pv 0 (upd H1 D ob0)) (hG : ∀ i H, i ≤ kvs.length → Pv i H → H d = some (.frz o (.dT kvs)))
    (hs : ∀ i k v q T H, kvs[i]? = some (k, v) → H q = some (.tup (k.map kV)) → H T = none → Pv i H → DcStep S g tt tk tv vs σ D (Pv (i + 1)) (.ref T) (upd H T (.tup [.ref q, v]))) (hd : ∀ H, Pv kvs.length H → Qd H) : DcGoal S ob0 (ItiT d o kvs) g tt tk tv vs σ H1 D Qd :=
  dS_it walk_itemsT Pv h0 hG (fun i x H H' hi p ⟨T, k, v, q, e2, e3, e4, e5, e6⟩ => by subst e3 e6; exact hs i k v q T _ e2 e5 e4 p) hd
end
theorem dputAll_snoc {α β : Type} [DecidableEq α] : ∀ (xs : List (α × β)) (D : List (α × β)) (x : α) (y : β), dputAll D (xs ++ [(x, y)]) = dput (dputAll D xs) x y
  | [], _, _, _ => rfl
  | p :: xs, D, x, y => dputAll_snoc xs (dput D p.1 p.2) x y
section
variable {M : Addr → Prop} {F H : Hp} {σ : L2.St} {tc : TE} {r' : R2} {y : V} {Q : VK} {a c : Bool} {P : Hp → Hp → Prop}
theorem chJV (h2 : a = true → ∀ Q : VK, (∀ F' H', Gr M F H F' H' → P F' H' → Q (.bl c) H') → tc σ H fun w' H4 => r' y w' H4 Q) (h3 : a = false → c = false ∧ P F H) (fh : Same F H)
    (q : ∀ F' H', Gr M F H F' H' → P F' H' → Q (.bl c) H') : if a = true then (tc σ H fun w' H4 => r' y w' H4 Q) else Q (.bl false) H :=
  andJV (tb := fun σ H Q => tc σ H fun w' H4 => r' y w' H4 Q) h2 h3 fh q
end
/-- a list of one kind or of another -/
def lenA {α β : Type} : List α ⊕ List β → Nat
  | .inl xs => xs.length
  | .inr ys => ys.length
theorem R.alt_lst {α β : Type} [Enc α] [Enc β] {K : PySem.W.Frag} {F : Hp} {v : V} {x : List α ⊕ List β} (h : R K F v x) : ∃ p ws, v = .ref p ∧ SqL K F p ws ∧ ws.length = lenA x := by
  cases x with
  | inl xs =>
    obtain ⟨p, ws, e, hS, _, hA⟩ := R.lst_v (show R K F v xs from h)
    exact ⟨p, ws, e, hS, RL.len hA⟩
  | inr xs =>
    obtain ⟨p, ws, e, hS, _, hA⟩ := R.lst_v (show R K F v xs from h)
    exact ⟨p, ws, e, hS, RL.len hA⟩
end G
/-! My base, part 33: t[::-1] of tuples; xs.index(x). -/
namespace G
open PySem PySem.Spec PyProof.Rows L2 TL HT
theorem fm_map {α β : Type} {f : α → Option β} {g : α → β} : ∀ {l : List α}, (∀ m ∈ l, f m = some (g m)) → l.filterMap f = l.map g
  | [], _ => rfl
  | x :: l, h => by
    rw [List.filterMap_cons, h x (List.mem_cons_self ..), List.map_cons, fm_map fun m hm => h m (List.mem_cons_of_mem _ hm)]
theorem pick_rev (xs : Array Value) : ((List.range xs.size).filterMap fun (m : Nat) => xs[(((xs.size : Nat) : Int) - 1 + (m : Int) * -1).toNat]?).toArray = xs.toList.reverse.toArray := by
  congr 1
  have e : ∀ m ∈ List.range xs.size, xs[(((xs.size : Nat) : Int) - 1 + (m : Int) * -1).toNat]? = some ((xs.toList.reverse)[m]?.getD .none) := fun m hm => by
    have hm := List.mem_range.mp hm
    have e1 : (((xs.size : Nat) : Int) - 1 + (m : Int) * -1).toNat = xs.size - 1 - m := by omega
    rw [e1, List.getElem?_reverse (by rw [Array.length_toList]; exact hm), Array.length_toList, Array.getElem?_toList, Array.getElem?_eq_getElem (by omega)]
    rfl
  rw [fm_map e]
  refine List.ext_getElem? fun i => ?_
  rw [List.getElem?_map]
  by_cases c : i < xs.size
  · rw [List.getElem?_range c]
    have : i < xs.toList.reverse.length := by rw [List.length_reverse, Array.length_toList]; exact c
    rw [Option.map_some, List.getElem?_eq_getElem this, Option.getD_some]
  · rw [List.getElem?_eq_none (by rw [List.length_range]; omega), List.getElem?_eq_none (by rw [List.length_reverse, Array.length_toList]; omega)]
    rfl
section
variable {prog : Program} {w : World} {A : Around} {E : Value → Shared → Prop} {s : Shared}
theorem adjust_rev (n : Nat) : Builtin.Slice.sliceAdjust none none (-1) (n : Int) = (((n : Nat) : Int) - 1, -1) := by
  unfold Builtin.Slice.sliceAdjust
  simp
theorem places_rev (n : Nat) : Builtin.Slice.slicePlaces (((n : Nat) : Int) - 1) (-1) (-1) = n := by
  unfold Builtin.Slice.slicePlaces
  rw [if_neg (by decide)]
  split <;> simp <;> omega
theorem sliceApplied_rev {sl : Addr} {vl vu vs : Value} {n : Nat} {Q : Int × Int × Nat → Shared → Prop} (hs : s.heap.IsSliceOf sl vl vu vs) (pl : IsPart vl none) (pu : IsPart vu none) (ps : IsPart vs (some (-1)))
    (h : Q (((n : Nat) : Int) - 1, -1, n) s) : wpAny (model prog w) A (Builtin.Slice.sliceApplied (.ref sl) (pure (n : Int))) Q E s := by
  obtain ⟨os, hos, hcs, hds⟩ := id hs
  unfold Builtin.Slice.sliceApplied Builtin.Slice.sliceFields
  refine wpAny_bind (wpAny_bind (wpAny_field hos hds (x := vl) rfl (wpAny_bind (wpAny_field hos hds (x := vu) rfl (wpAny_bind (wpAny_field hos hds (x := vs) rfl (wpAny_pure ?_)))))))
  refine wpAny_bind (slicePart_ ps ?_)
  show wpAny _ _ (if ((-1 : Int) == 0) = true then _ else _) _ _ s
  rw [if_neg (by decide)]
  refine wpAny_bind (slicePart_ pl (wpAny_bind (slicePart_ pu (wpAny_bind (wpAny_pure ?_)))))
  show wpAny _ _ (match Builtin.Slice.sliceAdjust none none (-1) (n : Int) with | (lo, hi) => pure (lo, (-1 : Int), Builtin.Slice.slicePlaces lo hi (-1))) _ _ s
  rw [adjust_rev n]
  show wpAny _ _ (pure (((n : Nat) : Int) - 1, (-1 : Int), Builtin.Slice.slicePlaces (((n : Nat) : Int) - 1) (-1) (-1))) _ _ s
  rw [places_rev]
  exact wpAny_pure h
theorem getItem_tuple_rev {t sl : Addr} {items : Array Value} {vl vu vs : Value} {Q : Value → Shared → Prop} (ht : IsTup s.heap t items) (hs : s.heap.IsSliceOf sl vl vu vs) (pl : IsPart vl none) (pu : IsPart vu none) (ps : IsPart vs (some (-1)))
    (h : Q (.ref s.heap.objs.size) { s with heap := s.heap.push { cls := .type "tuple", data := .seq items.toList.reverse.toArray } })
    (hsz : items.size ≤ sizeLine) : wpAny (model prog w) A (getItem (.ref t) (.ref sl)) Q E s := by
  have htake : sizeOk (.seq items.toList.reverse.toArray) := by
    show items.toList.reverse.toArray.size ≤ sizeLine
    rw [List.size_toArray, List.length_reverse, Array.length_toList]
    exact hsz
  obtain ⟨os, hos, hcs, hds⟩ := id hs
  have hTs : s.TypeIs (.ref sl) "slice" := ⟨os, hos, hcs⟩
  unfold getItem
  try with_reducible refine wpAny_holding ?_
  first | refine wpAny_bind (wpAny_pure ?_) | skip
  refine wpAny_bind (wpAny_sequenceKey ht.typeIs (by decide) ?_)
  refine wpAny_bind (wpAny_callSpecial?_slot (name := Str.ofString "__getitem__") ht.typeIs PyProof.Rows.slot_tuple_getitem
    (wpAny_call_entry PyProof.Rows.slot_tuple_getitem ht.typeIs entry_tuple_getitem ?_ (args_tuple_getitem _ _)))
  show wpAny _ _ (Builtin.Tuple.tupleItemsOf (.ref t) >>= _) _ _ s
  refine wpAny_bind (tupleItemsOf_ ht ?_)
  refine wpAny_bind (wpAny_typeOf hTs ?_)
  rw [if_pos (by decide)]
  refine wpAny_bind (sliceApplied_rev hs pl pu ps ?_)
  have hno : ¬ ((((items.size : Nat) : Int) - 1 == 0 && (-1 : Int) == 1 && items.size == items.size) = true) := by
    intro q
    rw [Bool.and_eq_true, Bool.and_eq_true] at q
    exact absurd (eq_of_beq q.1.2) (by decide)
  show wpAny _ _ (if (((items.size : Nat) : Int) - 1 == 0 && (-1 : Int) == 1 && items.size == items.size) = true then _ else _) _ _ s
  rw [if_neg hno, pick_rev]
  first
    | exact wpAny_bind (m := Builtin.Tuple.tupleExact _) (wpAny_newObj_type (wpAny_pure ⟨_, rfl, wpAny_pure h⟩) htake)
    | exact wpAny_bind (m := Builtin.Tuple.tupleExact _) (wpAny_newObj_type (wpAny_bind (wpAny_pure (wpAny_pure ⟨_, rfl, wpAny_pure h⟩))) htake)
end
def tRevT (K : PySem.W.Frag) (te : TE) : TE := fun σ H Q => te σ H fun x H1 => ∃ a xs, x = .ref a ∧ SqT K H1 a xs ∧ ∀ p, H1 p = none → Q (.ref p) (upd H1 p (.tup xs.reverse))
theorem pe_revT {X : Cx} {e : Expr} {te : TE} {k : Nat} {p1 p2 p3 pos : Pos} (he : PE X e te) : PE X (.Subscript e (.Slice none none (some (.UnaryOp .USub (.Constant (.int 1) k p1) p2)) p3) pos) (tRevT X.K te) := by
  refine ⟨fun pins s σ H Q I h => ?_⟩
  refine Subscript_ (thn (he.run pins s σ H _ I h) fun v s1 ⟨x, H1, I1, r1, q1⟩ => ?_)
  obtain ⟨a, xs, ex, hx, q⟩ := q1
  subst ex
  cases r1
  have hst : PO X (some (.UnaryOp .USub (.Constant (.int 1) k p1) p2)) (tPart (tUn (rU fun i => .int (-i)) (tC (.int 1)))) := po_some (pe_un un_neg pe_int)
  refine wpAny_Slice (thn (po_none.run pins s1 σ H1 (fun o H2 => o = none ∧ H2 = H1) I1 ⟨rfl, rfl⟩) fun vl s2 ⟨l, H2, I2, pl, el, e2⟩ => ?_)
  subst el e2
  refine thn (po_none.run pins s2 σ H2 (fun o H3 => o = none ∧ H3 = H2) I2 ⟨rfl, rfl⟩) fun vu s3 ⟨u, H3, I3, pu, eu, e3⟩ => ?_
  subst eu e3
  refine thn (hst.run pins s3 σ H3 (fun o H4 => o = some (-1) ∧ H4 = H3) I3 ⟨1, rfl, -1, rfl, rfl, rfl⟩) fun vs s4 ⟨o, H4, I4, ps, eo, e4⟩ => ?_
  subst eo e4
  have I5 : Inv X pins σ H4 { s4 with heap := s4.heap.push { cls := .type "slice", data := .fields #[vl, vu, vs] } } := I4.kept (t' := s4.toks) fun b ob q => Heap.get?_push_of_some _ q
  obtain ⟨its, r, ht, hz⟩ := I5.tuple hx
  have hlen := r.length
  show wpAny (model X.prog X.w) X.A (subscriptTail e (.Slice none none (some (.UnaryOp .USub (.Constant (.int 1) k p1) p2)) p3) (.ref a) (.ref s4.heap.objs.size)) (EP X pins σ Q) X.xe { s4 with heap := s4.heap.push { cls := .type "slice", data := .fields #[vl, vu, vs] } }
  refine tail_any (ops := [.ref a, .ref s4.heap.objs.size]) ht.typeIs PyProof.Rows.slot_tuple_getitem.lookup ?_ (by with_unfolding_all rfl)
  refine getItem_tuple_rev ht (Heap.IsSliceOf.new _ vl vu vs) pl pu ps ?_ (by rw [List.size_toArray]; omega)
  refine ⟨.ref _, _, I5.laid (t' := s4.toks) (o := .tup xs.reverse) (fun b ob q => Heap.get?_push_of_some _ q) (Nat.le_refl _) ?_, rfl, q _ (I5.hok.fresh (Nat.le_refl _))⟩
  exact ⟨by rw [List.length_reverse]; exact hz, _, r.reverse, IsTup.new _ _⟩
theorem pe_revTK {X : Cx} {K : PySem.W.Frag} {e : Expr} {te : TE} {k : Nat} {p1 p2 p3 pos : Pos} (he : PE X e te) (h : X.K = K := by rfl) : PE X (.Subscript e (.Slice none none (some (.UnaryOp .USub (.Constant (.int 1) k p1) p2)) p3) pos) (tRevT K te) := by
  subst h; exact pe_revT he
/-! ### xs.index(x) -/
def idxN {α : Type} [Enc α] (xs : List α) (x : α) : Option Nat := xs.findIdx? fun y => eqD y x
def idxO {α : Type} [Enc α] (xs : List α) (x : α) : Option Int := (idxN xs x).map fun j => ((j : Nat) : Int)
theorem idxO_ok {α : Type} [Enc α] {xs : List α} {x : α} {r : Int} (h : idxO xs x = some r) : ∃ j, idxN xs x = some j ∧ ((j : Nat) : Int) = r := Option.map_eq_some_iff.mp h
def rIdx (α : Type) [Enc α] (K : PySem.W.Frag) : V → List V → Hp → VK → Prop := fun x ys H Q => ∃ (y : V) (xs : List α) (z : α) (j : Nat), ys = [y] ∧ R K H x xs ∧ R K H y z ∧ idxN xs z = some j ∧ Q (.int (j : Nat)) H
theorem mt_idx {α : Type} [Enc α] [Dep α] {X : Cx} (hd : Dep.n α ≤ 60) (hu : X.A.units + 65 < cLine) : MtR X "list.index" (rIdx α X.K) := by
  intro pins s σ H x xs v us Q I rx rxs h
  obtain ⟨y, l, z, j, rfl, hx, hy, hj, q⟩ := h
  obtain ⟨a, ws, rfl, hS, hl, hA⟩ := R.lst_v hx
  obtain ⟨h1, h2, h3⟩ := List.findIdx?_eq_some_iff_getElem.mp hj
  refine mt_indexD hu pins s σ H _ _ v us Q I rx rxs ⟨a, y, Enc.d z, l.map Enc.d, j, Enc.d l[j], rfl, rfl, Rp.dp _ _ hx, Rp.dp _ _ hy, ?_, R.shaped hy (by omega), ?_, h2, fun m z' hm hz' => ?_, q⟩
  · exact Bool.and_eq_true_iff.mpr ⟨Rp.lay _ _ hx, decide_eq_true (Nat.le_trans (Dep.le l) (by show Dep.n α + 1 ≤ 64; omega))⟩
  · rw [List.getElem?_map, List.getElem?_eq_getElem h1]; rfl
  · have hml : m < l.length := by omega
    rw [List.getElem?_map, List.getElem?_eq_getElem hml] at hz'
    rw [← Option.some.inj hz']
    have := h3 m hm
    exact Bool.eq_false_iff.mpr this
theorem mt_idxK {α : Type} [Enc α] [Dep α] {X : Cx} {K : PySem.W.Frag} (hu : X.A.units + 65 < cLine) (hd : Dep.n α ≤ 60 := by decide) (h : X.K = K := by rfl) : MtR X "list.index" (rIdx α K) := by subst h; exact mt_idx hd hu
end G
/-! My base, part 34: defs that run where nothing is being shown (no guards around them); repr of data; how the law's call begins there. -/
namespace G
open PySem PySem.Spec PyProof.Rows L2 TL
/-- a promise that is kept where no guard stands around -/
structure GnOk (P : Program) (w : World) (K : PySem.W.Frag) (mg : Str → Option Value) (base : Heap) (cx : CXT) (k : Nat) (f : Addr) (fd : FuncData) (ps : List Str) (sp : Sp) : Prop where
  ln : ∀ xs Hx Qx Ex, sp xs Hx Qx Ex → xs.length = ps.length
  go : ∀ (Ar : Around) (out : List Env) (sh : Shared) (Hx : Hp) (args : Args) (us : List Value) (xs : List V) (Qx : VK) (Ex : XK), Room k Ar → Ar.guards = some [] → Env0 P w K mg base Ar out sh Hx →
    BindsTo sh fd args (ps.zip us) → Vals xs us → sp xs Hx Qx Ex → codeAny (model P w) Ar (.call (.ref f) args) (CR cx out P w Hx sh Qx Ex) sh
theorem GnOk.of {P : Program} {w : World} {K : PySem.W.Frag} {mg : Str → Option Value} {base : Heap} {cx : CXT} {k : Nat} {f : Addr} {fd : FuncData} {ps : List Str} {sp : Sp} (F : FnOk P w K mg base cx k f fd ps sp) : GnOk P w K mg base cx k f fd ps sp :=
  ⟨F.len, fun Ar out sh Hx args us xs Qx Ex hr _ => F.run Ar out sh Hx args us xs Qx Ex hr⟩
section
variable {P : Program} {w : World} {K : PySem.W.Frag} {mg : Str → Option Value} {base : Heap} {x qual : Str} {params : Arguments} {body : List Stmt} {scope : Scope} {f : Addr} {fd : FuncData}
theorem fd_okG {N ps : List Str} {k : Nat} {sp : Sp} (F : FunD K x qual params body scope [] [] f fd) (S : FnScope N ps scope) (len : ∀ vs H Q E, sp vs H Q E → vs.length = ps.length)
    (hbody : ∀ (cdv : Value) (A : Around) (outer : List Env) (s : Shared) (H : Hp) (vs : List V) (Q : VK) (E : XK), Room k (A.deeper (envOfC qual scope s.heap.objs.size f cdv)) → (A.deeper (envOfC qual scope s.heap.objs.size f cdv)).guards = some [] → sp vs H Q E →
      ∃ t, PSs (cxOf CX0 P w K mg base N qual scope f cdv A outer s H E).nox body t ∧ t { nx := fun _ H' => Q .non H', rt := Q } (start N vs) H) : GnOk P w K mg base CX0 (k + 1) f fd ps sp := by
  obtain ⟨oc, od, dV, kV, doc, pm, an, cdv, ct, osl, rfl, lk, hcd, _, _⟩ := F.ex
  refine ⟨len, fun Ar out sh Hx args us xs Qx Ex hr hgd e0 hb rel hsp => ?_⟩
  have lenE := len _ _ _ _ hsp
  have kin0 : K.In sh.heap := e0.mod.kin.keeps fun a ob q => (e0.bs a ob q).1
  have lim0 : sh.heap.NoLimit := e0.mod.nolimit.keeps fun a ob q => (e0.bs a ob q).1
  have kinds : ∀ z ∈ ps.zip us, scope.names.lookup z.1 = some .local ∨ (scope.names.lookup z.1 = some .cell ∧ ((cellsFrom (sh.heap.objs.size + 1) scope.names []).lookup z.1).isSome = true) := fun ⟨m, u⟩ hz =>
    (S.par m (List.of_mem_zip hz).1).elim .inl fun c => .inr ⟨c, PySem.W.cellsFrom_some _ _ _ (.inl c)⟩
  refine codeAny_call_function hr.depth (kin0 _ _ lk) rfl S.co S.gen rfl (PySem.W.codeRec_of kin0 hcd) (hb _ _ _ _ (wpAny_newFunctionEnv_cells S.kind kinds fun en hen s1 inc => ?_))
  subst hen
  refine ⟨lim0.keeps inc.toInCall.keep, codeAny_func ?_⟩
  obtain ⟨t, ht, hq⟩ := hbody cdv Ar out sh Hx xs Qx Ex (hr.deeper _) hgd hsp
  have I0 : Inv (cxOf CX0 P w K mg base N qual scope f cdv Ar out sh Hx Ex) [] (start N xs) Hx s1 := inv_start S hr.hd e0 lenE rel inc
  refine wpAny_mono (ht.nox.run [] s1 (start N xs) Hx _ I0 hq) (fun fl s2 hs => ?_) fun e s2 hs => hs
  have close : ∀ {σ2 : L2.St} {H2 : Hp} {v : V} {u : Value}, Inv (cxOf CX0 P w K mg base N qual scope f cdv Ar out sh Hx Ex) [] σ2 H2 s2 → RelV v u → Qx v H2 → CE out P w Hx sh Qx u s2 :=
    fun {σ2 H2 v u} J rv qv => ⟨v, H2, J.os, J.bare, J.base, J.hok, rv, qv⟩
  match fl, hs with
  | .ret u, ⟨v, σ2, H2, J, rv, qv⟩ => exact close J rv qv
  | .next, ⟨σ2, H2, J, qv⟩ => exact close (v := V.non) (u := Value.none) J rfl qv
  | .brk, ⟨_, _, _, qv⟩ => exact False.elim qv
  | .cont, ⟨_, _, _, qv⟩ => exact False.elim qv
end
section
variable {X : Cx} {cx : CXT} {k : Nat} {f : Addr} {fd : FuncData} {ps : List Str} {sp : Sp} {dvs : List V} {ds : List Value} {E : XK} {x : Str} {p pos : Pos} {e : Expr} {es : List Expr} {t : TA}
theorem pe_callG (F : GnOk X.prog X.w X.K X.mg X.base cx k f fd ps sp) (hgd : X.A.guards = some []) (hr : Room k X.A) (hg : Gl X x) (hm : X.mg x = some (.ref f)) (hk : PySem.W.keepIn X.K (.ref f) = true) (hb : Binds X.K fd ps ds) (hd : Vals dvs ds) (hx : Passes cx X E)
    (ha : PA X (e :: es) t) (hdb : (x == ("__debug__" : Str)) = false := by decide) (he : starEach (e :: es) X.env = (false, eval e X.env) :: starEach es X.env := by rfl) (hpl : (backTo pos (starEach es X.env)).any (·.1) = false := by rfl) :
    PE X (.Call (.Name x p) (e :: es) [] pos) (tCall sp dvs E t) := by
  refine ⟨fun pins s σ H Q I h => wpAny_Call_Name_kw (ld_glob I hg hm ?_ hdb)⟩
  refine PySem.W.callWith_K (h₀ := X.base) I.ok.mod.kin hk (thn (ha.run pos pins s σ H _ I h) fun us s1 ⟨vs, H1, I1, r, q⟩ => ⟨I1.kIn, ?_⟩) he hpl
  have rel : Vals (vs ++ dvs) (us ++ ds) := r.append hd
  have lenU : (us ++ ds).length = ps.length := by rw [← rel.length]; exact F.ln _ _ _ _ q
  refine wpAny_call (codeAny_mono (F.go X.A X.stack s1 H1 ⟨us, []⟩ (us ++ ds) (vs ++ dvs) Q E hr hgd I1.env0 (hb s1 us I1.kIn lenU) rel q) fun res s2 hq => ?_)
  match res, hq with
  | .error ev, hq => exact hx pins σ H1 s1 ev s2 I1 hq
  | .ok (.ret u), hq => exact I1.after hq
  | .ok .next, hq => exact False.elim hq
  | .ok .brk, hq => exact False.elim hq
  | .ok .cont, hq => exact False.elim hq
end
/-! ### repr of data -/
section
variable {K : PySem.W.Frag} {F : Hp}
mutual
theorem Rp.nodict : ∀ (d : PyData) (v : V), Rp K F v d → d.hasDict = false
  | .none, _, _ => rfl
  | .bool b, _, _ => rfl
  | .int i, _, _ => rfl
  | .str x, _, _ => rfl
  | .list ds, _, h => by cases h with | lst hs hl ha => exact RpA.nodict ds _ ha
  | .tuple ds, _, h => by cases h with | tup hs hl ha => exact RpA.nodict ds _ ha
  | .dict _, _, h => by cases h
theorem RpA.nodict : ∀ (ds : List PyData) (vs : List V), RpA K F vs ds → PyData.hasDictAll ds = false
  | [], _, _ => rfl
  | d :: ds, _, h => by
    cases h with
    | cons h1 h2 =>
      show (d.hasDict || PyData.hasDictAll ds) = false
      rw [Rp.nodict d _ h1, RpA.nodict ds _ h2]
      rfl
end
end
/-- the text that is shown of a thing -/
def reprO {α : Type} [Enc α] (x : α) : Option Str := if (Enc.d x).showable = true ∧ (Enc.d x).shown.length ≤ sizeLine then some (Enc.d x).shown else none
theorem reprO_ok {α : Type} [Enc α] {x : α} {r : Str} (h : reprO x = some r) : ((Enc.d x).showable = true ∧ (Enc.d x).shown.length ≤ sizeLine) ∧ (Enc.d x).shown = r := by
  unfold reprO at h
  split at h
  · next c => exact ⟨c, Option.some.inj h⟩
  · cases h
def rReprD (α : Type) [Enc α] (K : PySem.W.Frag) : List V → Hp → VK → Prop := fun xs H Q => ∃ (p : Addr) (x : α), xs = [.ref p] ∧ R K H (.ref p) x ∧ ((Enc.d x).showable = true ∧ (Enc.d x).shown.length ≤ sizeLine) ∧ Q (.str (Enc.d x).shown) H
theorem call_reprD {α : Type} [Enc α] [Dep α] {X : Cx} (hgd : X.A.guards = some []) (hu : X.A.units + 65 < cLine) (hd : Dep.n α ≤ 60) : CallR X (.builtin "repr") (rReprD α X.K) := by
  intro pins s σ H xs us Q I r h
  obtain ⟨p, x, rfl, hx, ⟨sh, sz⟩, q⟩ := h
  obtain ⟨u, rfl, ru⟩ := vals1 r
  obtain rfl : u = Value.ref p := ru
  obtain ⟨as, rd⟩ := Dp.reads I _ _ _ (Rp.dp _ _ hx) rfl
  have dp := Dep.le x
  exact repr_of_reads' rd sh (fun z => by rw [Rp.nodict _ _ hx] at z; cases z) hgd (by omega) (fun _ _ e => e) (fun h' u tk hk => ⟨.str _, H, I.kept hk, ⟨u, rfl⟩, q⟩) sz
theorem call_reprDK {α : Type} [Enc α] [Dep α] {X : Cx} {K : PySem.W.Frag} (hgd : X.A.guards = some []) (hu : X.A.units + 65 < cLine) (hd : Dep.n α ≤ 60 := by decide) (h : X.K = K := by rfl) : CallR X (.builtin "repr") (rReprD α K) := by subst h; exact call_reprD hgd hu hd
/-! ### the law's own call -/
theorem law_begin {P : Program} {w : World} {K : PySem.W.Frag} {mg mb : Str → Option Value} {k : Nat} {fa a : Addr} {fd : FuncData} {x : Str} {sp : Sp} {s₁ : Shared} {vs : List Value} {ns : List Int}
    (kin : K.In s₁.heap) (nsm : s₁.heap.Ns mainGlobals mg) (nsb : s₁.heap.Ns builtinsNs mb) (boot : ∀ y : Str, y ≠ "__name__" → mb y = bootBuiltins y) (lim : s₁.heap.NoLimit) (nog : s₁.gens = #[])
    (scr : s₁.heap.get? a = some { cls := .type "list", data := .seq vs.toArray }) (sInts : IntsAre vs ns) (few : ns.length ≤ sizeLine) (room : Room k callerA)
    (F : ∀ base : Heap, K.In base → base.Ns mainGlobals mg → GnOk P w K mg base CX0 k fa fd [x] sp) (hbind : ∀ (s : Shared) (u : Value), BindsTo s fd ⟨[u], []⟩ [(x, u)])
    (hsp : ∀ H : Hp, Only H → SqL K H a (ns.map V.int) → sp [.ref a] H (fun v _ => v = .bl true) fun _ _ _ => False) :
    codeAny (model P w) callerA (.call (.ref fa) ⟨[.ref a], []⟩) (fun r s' => r = .ok (.ret (.bool true)) ∧ OldK s₁.heap s'.heap ∧ s'.os = s₁.os ∧ AllBare s'.gens) s₁ := by
  -- whatever is told of the script ahead
  have from_ : ∀ Hx : Hp, Only Hx → SqL K Hx a (ns.map V.int) → HOk P w Hx s₁.heap → (∀ b, Hx b ≠ none → b = a) → (Hx a ≠ none → K.lookup a = none) →
      codeAny (model P w) callerA (.call (.ref fa) ⟨[.ref a], []⟩) (fun r s' => r = .ok (.ret (.bool true)) ∧ OldK s₁.heap s'.heap ∧ s'.os = s₁.os ∧ AllBare s'.gens) s₁ := by
    intro Hx only seq ok one notK
    have hidden : ∀ {b : Addr} {ob : Obj}, s₁.heap.get? b = some ob → Hx b = none → (hidT s₁.heap Hx).get? b = some ob := fun q n => hidT_get q n
    have nodict : ∀ {b : Addr} {ob : Obj} {es : Array DictEntry} {ep : Nat}, s₁.heap.get? b = some ob → ob.data = .dict es ep → Hx b = none := fun {b ob es ep} q dd => Classical.byContradiction fun ne => by
      obtain rfl := one b ne
      rw [scr] at q
      cases q
      have z : Data.seq vs.toArray _ = Data.dict es ep := dd
      cases z
    have keepNs : ∀ {b : Addr} {m : Str → Option Value}, s₁.heap.Ns b m → (hidT s₁.heap Hx).Ns b m := fun {b m} ⟨ob, es, ep, q, dd, rr⟩ => ⟨ob, es, ep, hidden q (nodict q dd), dd, rr⟩
    have kinH : K.In (hidT s₁.heap Hx) := fun b ob q => hidden (kin b ob q) (Classical.byContradiction fun ne => by
      obtain rfl := one b ne
      rw [notK ne] at q
      cases q)
    have modH : Mod K mg (hidT s₁.heap Hx) := ⟨kinH, keepNs nsm, ⟨mb, keepNs nsb, boot⟩, let ⟨mc, z1, z2⟩ := lim; ⟨mc, keepNs z1, z2⟩⟩
    have env : Env0 P w K mg (hidT s₁.heap Hx) callerA [] s₁ Hx := ⟨rfl, modH, fun b ob q => of_hidT q, Nat.le_of_eq (hidT_size _ _), trivial, fun b hb => (List.not_mem_nil (show b ∈ ([] : List Addr) from hb)).elim, ok, .of_eq nog⟩
    refine codeAny_mono ((F _ kinH (keepNs nsm)).go callerA [] s₁ Hx ⟨[.ref a], []⟩ [.ref a] [.ref a] _ _ room rfl env (hbind s₁ (.ref a)) (.cons rfl .nil) (hsp Hx only seq)) fun res s2 hq => ?_
    match res, hq with
    | .error ev, hq => exact hq.elim
    | .ok .next, hq => exact False.elim hq
    | .ok .brk, hq => exact False.elim hq
    | .ok .cont, hq => exact False.elim hq
    | .ok (.ret u), ⟨v, H2, os2, bare2, un2, ok2, rel2, tv⟩ =>
      have tv2 : v = .bl true := tv
      subst tv2
      obtain rfl : u = Value.bool true := rel2
      refine ⟨rfl, OldK.of_keep fun b ob q => ?_, os2, bare2⟩
      rcases only b with z | ⟨ob2, xs, z⟩
      · exact un2.keep b ob q z (fun y => List.not_mem_nil (show b ∈ ([] : List Addr) from y)) (by simp)
      · have z2 := un2.frzs b ob2 _ z
        obtain ⟨e1, _⟩ := ok b _ z
        obtain ⟨e2, _⟩ := ok2 b _ z2
        rw [q] at e1
        cases e1
        exact e2
  have rel := vals_ints sInts
  have lenV := sInts.length
  cases hk : K.lookup a with
  | some ob =>
    have e := kin a ob hk
    rw [scr] at e
    cases e
    exact from_ (fun _ => none) (fun _ => .inl rfl) (.inr ⟨_, vs.toArray, _, hk, rfl, rfl, rfl, by rw [List.size_toArray, lenV]; exact few, by simpa using rel⟩) (fun b u z => by cases (show (none : Option HO) = some u from z)) (fun b z => absurd rfl z) fun z => absurd rfl z
  | none =>
    let one : Hp := fun b => if b = a then some (.frz { cls := .type "list", data := .seq vs.toArray } (.lst (ns.map V.int))) else none
    have at_ : one a = some (.frz { cls := .type "list", data := .seq vs.toArray } (.lst (ns.map V.int))) := if_pos rfl
    have off : ∀ b, b ≠ a → one b = none := fun b hb => if_neg hb
    refine from_ one (fun b => ?_) (.inl (.inr ⟨_, at_⟩)) (fun b u z => ?_) (fun b z => Classical.byContradiction fun ne => z (off b ne)) fun _ => hk
    · by_cases hb : b = a
      · exact .inr ⟨_, _, by rw [hb]; exact at_⟩
      · exact .inl (off b hb)
    · by_cases hb : b = a
      · subst hb
        rw [at_] at z
        cases z
        exact ⟨scr, by rw [List.length_map]; exact few, vs, _, rel, scr⟩
      · rw [off b hb] at z
        cases z
theorem walk_ofG {l : PySem.W.OpenLaw} {n k : Nat} {q : Program} {loose : List Str} {XP : (Str → Option Value) → Heap → Prop} {YP : World → Heap → Prop} {d : DefRec} {x : Str}
    (hn : l.most = some n) (hn2 : n ≤ sizeLine) (hdf : d.params.defaults = []) (room : Room k callerA)
    (F : ∀ (w : World) (mg : Str → Option Value) (fa : Addr) (hp : Heap), YP w hp → hp.Ns mainGlobals mg → mg d.name = some (.ref fa) →
      ∃ (K : PySem.W.Frag) (fd : FuncData) (sp : Sp), K.In hp ∧ (∀ (sh : Shared) (u : Value), BindsTo sh fd ⟨[u], []⟩ [(x, u)]) ∧
        (∀ (Hx : Hp) (a : Addr) (ns : List Int), ns.length ≤ n → Only Hx → SqL K Hx a (ns.map V.int) → sp [.ref a] Hx (fun v _ => v = .bl true) fun _ _ _ => False) ∧
        ∀ base : Heap, K.In base → base.Ns mainGlobals mg → GnOk l.prog w K mg base CX0 k fa fd [x] sp) :
    PySem.W.WalkO q loose XP YP l.row.toRowW d [] (fun f vs => PySem.call f vs) := by
  refine Att.attach_call hn hdf fun w s0 s1 mg mb fa ob pm cd doc a vs ns Gr_ Y _ _ _ hmg scr sInts few nog => ?_
  obtain ⟨K, fd, sp, kin, hb, hsp, hF⟩ := F w mg fa _ Y Gr_.T.g hmg
  exact law_begin kin Gr_.T.g Gr_.T.b Gr_.T.builtins Gr_.T.nolimit nog scr sInts (Nat.le_trans few hn2) room hF hb fun Hx hO hS => hsp Hx a ns few hO hS
end G
/-! My base, part 35: repr of data as the generator wants it. -/
namespace G
open PySem PySem.Spec PyProof.Rows L2 TL
def rReprO (α : Type) [Enc α] (K : PySem.W.Frag) : List V → Hp → VK → Prop := fun xs H Q => ∃ (p : Addr) (x : α) (t : Str), xs = [.ref p] ∧ R K H (.ref p) x ∧ reprO x = some t ∧ Q (.str t) H
theorem call_reprOK {α : Type} [Enc α] [Dep α] {X : Cx} {k : Nat} {K : PySem.W.Frag} (hgd : X.A.guards = some []) (hr : Room k X.A) (hd : Dep.n α ≤ 60 := by decide) (h : X.K = K := by rfl) : CallR X (.builtin "repr") (rReprO α K) := by
  subst h
  intro pins s σ H xs us Q I r h
  obtain ⟨p, x, t, rfl, hx, e, q⟩ := h
  obtain ⟨⟨h1, h2⟩, h3⟩ := reprO_ok e
  exact call_reprD (α := α) hgd (by have := hr.un; omega) hd pins s σ H _ us Q I r ⟨p, x, rfl, hx, ⟨h1, h2⟩, by rw [h3]; exact q⟩
section
variable {α β : Type} [Enc α] [Enc β] {K : PySem.W.Frag} {F : Hp} {ws : List V}
theorem RL.some {xs : List α} (h : RL K F ws xs) : RL K F ws (xs.map Option.some) := by
  show RpA K F ws _
  rw [List.map_map]
  exact h
theorem RL.inl {xs : List α} (h : RL K F ws xs) : RL K F ws (xs.map (Sum.inl : α → α ⊕ β)) := by
  show RpA K F ws _
  rw [List.map_map]
  exact h
end
/-! ### a list of lists of one's own is changed no more -/
section
variable {M : Addr → Prop} {F0 H0 F H F' : Hp} {f p q : Addr} {K : PySem.W.Frag} {rows : List (Addr × List V)} {ws : List V} {ob : HO}
theorem Nest.settle {α : Type} [Enc α] {xs : List (List α)} (w : Nest H0 F H f rows) (hA : RN K F rows xs) (g : Gr M F0 H0 F H) :
    ∃ F', Gr M F0 H0 F' H ∧ Same F F' ∧ Ow H0 F' H f (refsN rows) ∧ RL K F' (refsN rows) xs ∧ (∀ q, (∀ r ∈ rows, r.1 ≠ q) → F' q = F q) := by
  let F' : Hp := fun a => if a ∈ rows.map (·.1) then H a else F a
  have off : ∀ q, (∀ r ∈ rows, r.1 ≠ q) → F' q = F q := fun q h => if_neg fun m => by
    obtain ⟨r, hr, e⟩ := List.mem_map.mp m
    exact h r hr e
  have on : ∀ r ∈ rows, F' r.1 = H r.1 := fun r hr => if_pos (List.mem_map.mpr ⟨r, hr, rfl⟩)
  have cs : ∀ a, (∃ r ∈ rows, r.1 = a) ∨ F' a = F a := fun a => by
    by_cases h : a ∈ rows.map (·.1)
    · obtain ⟨r, hr, e⟩ := List.mem_map.mp h
      exact .inl ⟨r, hr, e⟩
    · exact .inr (if_neg h)
  have sm : Same F F' := fun b u e => by
    rcases cs b with ⟨r, hr, rfl⟩ | h
    · rw [w.rF r hr] at e; cases e
    · rw [h]; exact e
  have hF : ∀ j (r : Addr × List V), rows[j]? = some r → ∀ x : List α, RL K F r.2 x → r.2.length ≤ sizeLine → R K F' (.ref r.1) x := fun j r hj x h1 h2 => by
    have hr := List.mem_of_getElem? hj
    exact R.mkl (.inl (.inl ((on r hr).trans (w.rh r hr)))) h2 (RpA.up h1 sm)
  refine ⟨F', ⟨fun b u e => ?_, fun b u e => sm b u (g.ff b u e), g.keep, g.there, fun a e n => ?_⟩, sm, ⟨w.h, ?_, w.n0⟩, ?_, off⟩
  · rcases cs b with ⟨r, hr, rfl⟩ | h
    · rw [← on r hr]; exact e
    · rw [h] at e; exact g.fh b u e
  · rcases cs a with ⟨r, hr, rfl⟩ | h
    · exact absurd (w.r0 r hr) e
    · rw [h]; exact g.new a e n
  · rw [off f w.rf]; exact w.nF
  · obtain ⟨hl, hr⟩ := hA
    have go : ∀ (rs : List (Addr × List V)) (ys : List (List α)), rs.length = ys.length → (∀ (j : Nat) (r : Addr × List V), rs[j]? = some r → ∃ y, ys[j]? = some y ∧ R K F' (.ref r.1) y) → RL K F' (refsN rs) ys := by
      intro rs
      induction rs with
      | nil => intro ys e _; cases ys with | nil => exact .nil | cons _ _ => cases e
      | cons r rs ih =>
        intro ys e h
        cases ys with
        | nil => cases e
        | cons y ys =>
          obtain ⟨y', e1, h1⟩ := h 0 r rfl
          cases e1
          exact .cons h1 (ih ys (Nat.succ.inj e) fun j r' hj => h (j + 1) r' hj)
    exact go rows xs hl fun j r hj => by
      obtain ⟨x, h1, h2, h3⟩ := hr j r hj
      exact ⟨x, h1, hF j r hj x h2 h3⟩
theorem Ow.settle (w : Ow H0 F H p ws) (e : F' p = F p) : Ow H0 F' H p ws := ⟨w.h, e.trans w.nF, w.n0⟩
theorem Od.settle (w : Od H0 F H p ob) (e : F' p = F p) : Od H0 F' H p ob := ⟨w.h, e.trans w.nF, w.n0, w.nt⟩
end
/-! ### xs.extend(any list) -/
theorem ext_lst (l : Addr) (xs : Array Value) (n : Nat) (b : Addr) (ys : Array Value) (n2 : Nat) (sl : Array (Option Value)) (h0 : ¬(!xs.isEmpty && Builtin.List.listTooLong (xs.size + ys.size)) = true) (h1 : xs.size ≤ sizeLine) (h2 : xs.size + ys.size ≤ sizeLine + 1) :
    Meets (Builtin.«list.extend» ⟨[.ref l, .ref b], []⟩) (fun _ R s => s.heap.get? l = some { cls := .type "list", dict := none, data := .seq xs n, slots := #[] } ∧ s.heap.get? b = some { cls := .type "list", dict := none, data := .seq ys n2, slots := sl } ∧ R (.ok (.ret Value.none)) { s with heap := s.heap.update l (Obj.mapSeq fun x => x ++ ys), toks := s.toks }) :=
  .of_wp fun prog w A R s h => by
    obtain ⟨hp, g, d, tk, os⟩ := s; obtain ⟨hl, hb, h⟩ := h; have q1 := AutoSeq1.idx_int; have q2 := AutoSeq1.sub_tuple_tuple; have q3 := AutoSeq1.sub_list_list; have q4 := AutoSeq1.sub_tuple_list; have q5 := AutoSeq1.sub_list_tuple
    have hz : (xs ++ ys).size ≤ sizeLine + 1 := by rw [Array.size_append]; exact h2
    wp_walk using (wpAny_updateSeq hl rfl (hz := h1) (_hz' := hz)), AutoSeq1.wpAny_loadPart' hl, AutoSeq1.wpAny_loadPart' hb; exact ⟨_, rfl, h⟩
section
variable {X : Cx}
def rExtL (K : PySem.W.Frag) : V → List V → Hp → VK → Prop := fun x vs H Q => ∃ l b xs zs, x = .ref l ∧ vs = [.ref b] ∧ H l = some (.lst xs) ∧ SqL K H b zs ∧ xs.length + zs.length ≤ sizeLine ∧ Q .non (upd H l (.lst (xs ++ zs)))
theorem mt_extL : MtM X "list.extend" (rExtL X.K) := by
  intro pins s σ H x vs v us Q I rx rv h
  obtain ⟨l, b, xs, zs, rfl, rfl, hH, hB, hz, q⟩ := h
  cases rx
  obtain ⟨u, rfl, ru⟩ := rv.one
  cases ru
  obtain ⟨z, its, n, r, hl, e⟩ := I.lstM hH
  obtain ⟨its2, r2, ⟨⟨oc, od, dt, sl⟩, n2, ho, hc, hdi, hd⟩, hz2⟩ := I.list hB
  simp only at hc hd hdi
  subst hc; subst hd; subst hdi
  have hl2 := r2.length
  have hsz : its.toArray.size + its2.toArray.size ≤ sizeLine := by rw [List.size_toArray, List.size_toArray]; omega
  have hlong : ¬ (!its.toArray.isEmpty && Builtin.List.listTooLong (its.toArray.size + its2.toArray.size)) = true := by rw [notLongL hsz, Bool.and_false]; exact Bool.false_ne_true
  refine call_meets F.slot_list_extend ⟨_, e, rfl⟩ F.entry_list_extend (F.args_list_extend_2 _ _) (ext_lst l its.toArray n b its2.toArray n2 sl hlong (by rw [List.size_toArray]; omega) (by omega)) ⟨e, ho, ?_⟩
  exact ⟨.non, _, I.lset (its' := its ++ its2) hH e (by simp) (r.append r2) (by rw [List.length_append]; omega), rfl, q⟩
theorem mt_extLK {K : PySem.W.Frag} (h : X.K = K := by rfl) : MtM X "list.extend" (rExtL K) := by subst h; exact mt_extL
end
/-! ### loops that are left by break -/
section
variable {D : Ends} {σ : L2.St} {H : Hp} {t : TS} {g : TG} {c : TT} {wi : TI}
theorem p_forB (h : ∀ nx_ : L2.St → Hp → Prop, (∀ σ' H', D.nx σ' H' → nx_ σ' H') → tFor wi g t { D with nx := nx_ } σ H) : tFor wi g t D σ H := h D.nx fun _ _ z => z
theorem p_whileB (h : ∀ nx_ : L2.St → Hp → Prop, (∀ σ' H', D.nx σ' H' → nx_ σ' H') → tWhile c t { D with nx := nx_ } σ H) : tWhile c t D σ H := h D.nx fun _ _ z => z
theorem p_postL {P : Prop} {nx_ : L2.St → Hp → Prop} (Post : L2.St → Hp → Prop) (h2 : (∀ σ' H', Post σ' H' → nx_ σ' H') → P) (h1 : ∀ σ' H', Post σ' H' → nx_ σ' H') : P := h2 h1
end
end G
/-! My base, part 36: the pot (a bag whose inner list may be another one behind a draw); zip of two tuples in a comprehension. -/
namespace G
open PySem PySem.Spec PyProof.Rows L2 TL RZ
abbrev potP : Int := 170141183460469231731687303715884105727
structure Pot where
  cells : List Int
  stir : Int
  cnt : Int
structure PotAt (F H : Hp) (B C : Addr) (b : Pot) : Prop where
  hB : H B = some (.lst [.ref C, .int b.stir, .int b.cnt, .int potP])
  hC : H C = some (.lst (b.cells.map V.int))
  ne : B ≠ C
  fB : F B = none
  fC : F C = none
section
variable {M : Addr → Prop} {F0 H0 F H F' H' : Hp} {p q B C C0 C1 : Addr} {o : HO} {b b' : Pot} {ws : List V}
theorem PotAt.frz (a : PotAt F H B C b) (hq : H q = none) : PotAt (upd F q o) (upd H q o) B C b :=
  have n1 := ne_of_none a.hB hq
  have n2 := ne_of_none a.hC hq
  ⟨(upd_ne n1).trans a.hB, (upd_ne n2).trans a.hC, a.ne, (upd_ne n1).trans a.fB, (upd_ne n2).trans a.fC⟩
theorem PotAt.own (a : PotAt F H B C b) (hq : H q = none) : PotAt F (upd H q o) B C b :=
  have n1 := ne_of_none a.hB hq
  have n2 := ne_of_none a.hC hq
  ⟨(upd_ne n1).trans a.hB, (upd_ne n2).trans a.hC, a.ne, a.fB, a.fC⟩
theorem PotAt.nb (a : PotAt F H B C b) (hq : H q = none) : ¬ Bc B C q := fun z => by
  rcases z with z | z
  · exact ne_of_none a.hB hq z.symm
  · exact ne_of_none a.hC hq z.symm
theorem PotAt.other (a : PotAt F H B C b) (m : ¬ Bc B C q) : PotAt F (upd H q o) B C b :=
  have n1 : B ≠ q := fun z => m (.inl z.symm)
  have n2 : C ≠ q := fun z => m (.inr z.symm)
  ⟨(upd_ne n1).trans a.hB, (upd_ne n2).trans a.hC, a.ne, a.fB, a.fC⟩
theorem PotAt.fz (a : PotAt F H B C b) (m : ¬ Bc B C q) : PotAt (upd F q o) H B C b :=
  have n1 : B ≠ q := fun z => m (.inl z.symm)
  have n2 : C ≠ q := fun z => m (.inr z.symm)
  ⟨a.hB, a.hC, a.ne, (upd_ne n1).trans a.fB, (upd_ne n2).trans a.fC⟩
theorem PotAt.gr0 (a : PotAt F H B C b) (g : Gr M0 F H F' H') : PotAt F' H' B C b :=
  ⟨g.keep _ _ id a.hB, g.keep _ _ id a.hC, a.ne, g.newL (by rw [a.hB]; simp) a.fB (fun ts z => by rw [g.keep _ _ id a.hB] at z; cases z), g.newL (by rw [a.hC]; simp) a.fC (fun ts z => by rw [g.keep _ _ id a.hC] at z; cases z)⟩
theorem PotAt.apart (a : PotAt F H B C b) (k : Gr M0 H H F' H') : PotAt F H' B C b := ⟨k.keep _ _ id a.hB, k.keep _ _ id a.hC, a.ne, a.fB, a.fC⟩
theorem PotAt.put (a : PotAt F H B C b) (e : b'.cells = b.cells) : PotAt F (upd H B (.lst [.ref C, .int b'.stir, .int b'.cnt, .int potP])) B C b' :=
  ⟨upd_same, by rw [upd_ne a.ne.symm, a.hC, e], a.ne, a.fB, a.fC⟩
theorem PotAt.adopt {ts : List V} (a : PotAt F H B C b) (h : H q = some (.tup ts)) : PotAt (upd F q (.tup ts)) H B C b :=
  have n1 : B ≠ q := fun z => by subst z; rw [a.hB] at h; cases h
  have n2 : C ≠ q := fun z => by subst z; rw [a.hC] at h; cases h
  ⟨a.hB, a.hC, a.ne, (upd_ne n1).trans a.fB, (upd_ne n2).trans a.fC⟩
theorem Gr.transC (g : Gr (Bc B C0) F0 H0 F H) (c : C = C0 ∨ H0 C = none) (k : Gr (Bc B C) F H F' H') : Gr (Bc B C0) F0 H0 F' H' :=
  ⟨k.fh, g.ff.trans k.ff, fun a o m e => k.keep a o (fun z => by
      rcases z with z | z
      · exact m (.inl z)
      · rcases c with c | c
        · exact m (.inr (z.trans c))
        · rw [z, c] at e; cases e) (g.keep a o m e), fun a e => k.there a (g.there a e), fun a e n => by
    cases q : F a with
    | none => exact k.new a (g.there a e) q
    | some o =>
      rcases g.new a e n with z | ⟨ts, z⟩
      · rw [z] at q; cases q
      · have := g.fh a o q
        rw [z] at this; cases this
        exact .inr ⟨ts, k.fh _ _ (k.ff _ _ q)⟩⟩
theorem CF.step (g : Gr (Bc B C0) F0 H0 F H) (c : C = C0 ∨ H0 C = none) (c1 : C1 = C ∨ H C1 = none) : C1 = C0 ∨ H0 C1 = none := by
  rcases c1 with c1 | n
  · rw [c1]; exact c
  · exact .inr (g.none0 n)
theorem Nb.step (n : ¬ Bc B C p) (h : H p = some o) (c1 : C1 = C ∨ H C1 = none) : ¬ Bc B C1 p := fun z => by
  rcases z with z | z
  · exact n (.inl z)
  · rcases c1 with c1 | c1
    · exact n (.inr (z.trans c1))
    · rw [← z, h] at c1; cases c1
end
/-! ### zip of two lists, or of two tuples -/
theorem pi_zipAK {X : Cx} {K : PySem.W.Frag} {e e2 : Expr} {ta : TA} {p pos tpos : Pos} {elts : List Expr} {kk : Nat} (hg : Gl X "zip") (hm : X.mg "zip" = none) (ha : PA X [e, e2] ta) (h : X.K = K := by rfl)
    (hs : starEach [e, e2] X.env = (false, eval e X.env) :: starEach [e2] X.env := by rfl) (hpl : (backTo pos (starEach [e2] X.env)).any (·.1) = false := by rfl) :
    PI X (.Tuple elts kk tpos) (.Call (.Name "zip" p) [e, e2] [] pos) (iZipA K ta) := by subst h; exact pi_zipA hg hm ha hs hpl
section
variable {K : PySem.W.Frag} {a b : Addr} {xs ys : List V}
theorem walk_zipT {n : Nat} (hn : n = min xs.length ys.length) : Walk (ItzT K a b) n (fun H => SqT K H a xs ∧ SqT K H b ys) (YPair (fun i => xs[i]?) (fun i => ys[i]?)) := by
  subst hn
  refine ⟨fun i _ hi q => ?_, fun _ q => ⟨xs, ys, q.1, q.2, by omega⟩, fun i H v H' _ q y => ?_⟩
  · have h1 : i < xs.length := by omega
    have h2 : i < ys.length := by omega
    exact ⟨xs, ys, xs[i], ys[i], q.1, q.2, by simp [h1], by simp [h2]⟩
  · obtain ⟨T, x, z, h1, h2, h3, h4, h5⟩ := y
    exact ⟨T, x, z, h1, h2, h3, h4 xs q.1, h5 ys q.2⟩
theorem lc_zipT {g : TG} {tt : TT} {te : TE} {vs : List Nat} {σ : L2.St} {H1 : Hp} {D : Addr} {Qd : Hp → Prop} (Pv : Nat → Hp → Prop) (h0 : Pv 0 (upd H1 D (.lst [])))
    (hl : ∀ i H, i ≤ min xs.length ys.length → Pv i H → SqT K H a xs ∧ SqT K H b ys)
    (hs : ∀ i x y T H, xs[i]? = some x → ys[i]? = some y → H T = none → Pv i H → g (.ref T) (wipe σ vs) (upd H T (.tup [x, y])) fun σ2 H2 => wipe σ2 vs = wipe σ vs ∧ tt σ2 H2 fun b H3 =>
      if b = true then te σ2 H3 fun y H4 => ∃ acc, H4 D = some (.lst acc) ∧ acc.length < sizeLine ∧ Pv (i + 1) (upd H4 D (.lst (acc ++ [y]))) else Pv (i + 1) H3) (hd : ∀ H, Pv (min xs.length ys.length) H → Qd H) :
    ∃ W : Nat → Nat → Hp → Prop, (∃ m, W 0 m (upd H1 D (.lst []))) ∧ ∀ i m H, W i m H →
      ((ItzT K a b).stop i H ∧ Qd H) ∨ ((ItzT K a b).go i H ∧ ∃ Nx : Hp → Prop, (∀ H', Nx H' → ∃ m', m' < m ∧ W (i + 1) m' H') ∧ ∀ x H', (ItzT K a b).yld i H x H' → g x (wipe σ vs) H' fun σ2 H2 => wipe σ2 vs = wipe σ vs ∧ tt σ2 H2 fun b H3 =>
        if b = true then te σ2 H3 fun y H4 => ∃ acc, H4 D = some (.lst acc) ∧ acc.length < sizeLine ∧ Nx (upd H4 D (.lst (acc ++ [y]))) else Nx H3) :=
  lc_it (walk_zipT rfl) Pv h0 hl (fun i v H H' _ p ⟨T, x, y, e1, e2, e3, e4, e5⟩ => by subst e1 e3; exact hs i x y T H e4 e5 e2 p) hd
end
theorem al_sq2 {K : PySem.W.Frag} {H : Hp} {v1 v2 : V} {d : PyData} {n : Nat} (r1 : Rp K H v1 d) (r2 : Rp K H v2 d) (hc : (tyD d == "list" || tyD d == "tuple") = true) (hd : d.depth ≤ n) :
    ∃ a1 ws1 a2 ws2 ds m, v1 = .ref a1 ∧ v2 = .ref a2 ∧ ((SqL K H a1 ws1 ∧ SqL K H a2 ws2) ∨ (SqT K H a1 ws1 ∧ SqT K H a2 ws2)) ∧ ws1.length ≤ sizeLine ∧ ws2.length ≤ sizeLine ∧ RpA K H ws1 ds ∧ RpA K H ws2 ds ∧ n = m + 1 ∧ ∀ d ∈ ds, d.depth ≤ m := by
  cases r1 with
  | non => exact absurd hc (by decide)
  | bl b => exact absurd hc (by simp [tyD])
  | int i => exact absurd hc (by simp [tyD])
  | str x _ => exact absurd hc (by simp [tyD])
  | lst h1 h2 h3 =>
    cases r2 with
    | lst k1 k2 k3 =>
      cases n with
      | zero => exact absurd hd (Nat.not_succ_le_zero _)
      | succ m => exact ⟨_, _, _, _, _, m, rfl, rfl, .inl ⟨h1, k1⟩, h2, k2, h3, k3, rfl, fun d hd2 => depth_list hd hd2⟩
  | tup h1 h2 h3 =>
    cases r2 with
    | tup k1 k2 k3 =>
      cases n with
      | zero => exact absurd hd (Nat.not_succ_le_zero _)
      | succ m => exact ⟨_, _, _, _, _, m, rfl, rfl, .inr ⟨.inl (.inl h1), .inl (.inl k1)⟩, h2, k2, h3, k3, rfl, fun d hd2 => depth_list hd hd2⟩
end G
/-! My base, part 37: a list of one's own, or None; min and max of a list of data. -/
namespace G
open PySem PySem.Spec PyProof.Rows L2 TL
def oV {α : Type} : Option α → Addr → V
  | none, _ => .non
  | some _, p => .ref p
theorem oV_isN {α : Type} (o : Option α) (p : Addr) : decide (oV o p = .non) = o.isNone := by cases o <;> rfl
/-- where there is a list, it is ours -/
def OwC {α : Type} (H0 F H : Hp) (p : Addr) (ws : List V) (o : Option α) : Prop := o.isSome = true → Ow H0 F H p ws
section
variable {α : Type} {M : Addr → Prop} {F0 H0 F H F' H' : Hp} {p q : Addr} {o : HO} {ws : List V} {r : Option α}
theorem OwC.frz (w : OwC H0 F H p ws r) (hq : H q = none) : OwC H0 (upd F q o) (upd H q o) p ws r := fun c => (w c).frz hq
theorem OwC.own (w : OwC H0 F H p ws r) (hq : H q = none) : OwC H0 F (upd H q o) p ws r := fun c => (w c).own hq
theorem OwC.other (w : OwC H0 F H p ws r) (ne : r.isSome = true → p ≠ q) : OwC H0 F (upd H q o) p ws r := fun c => (w c).other (ne c)
theorem OwC.ne (w : OwC H0 F H p ws r) (hq : H q = none) : r.isSome = true → p ≠ q := fun c => (w c).ne hq
theorem OwC.gr (w : OwC H0 F H p ws r) (g : Gr M F H F' H') (m : r.isSome = true → ¬ M p) : OwC H0 F' H' p ws r := fun c => (w c).gr g (m c)
theorem OwC.gr0 (w : OwC H0 F H p ws r) (g : Gr M0 F H F' H') : OwC H0 F' H' p ws r := fun c => (w c).gr0 g
theorem OwC.fz (w : OwC H0 F H p ws r) (ne : r.isSome = true → p ≠ q) : OwC H0 (upd F q o) H p ws r := fun c => (w c).fz (ne c)
theorem OwC.apart (w : OwC H0 F H p ws r) (k : Gr M0 H H F' H') : OwC H0 F H' p ws r := fun c => (w c).apart k
theorem OwC.adopt {ts : List V} (w : OwC H0 F H p ws r) (h : H q = some (.tup ts)) : OwC H0 (upd F q (.tup ts)) H p ws r := fun c => (w c).adopt h
end
def RLO {α : Type} [Enc α] (K : PySem.W.Frag) (F : Hp) (ws : List V) : Option (List α) → Prop
  | none => True
  | some l => RL K F ws l
theorem RLO.up {α : Type} [Enc α] {K : PySem.W.Frag} {F F' : Hp} {ws : List V} {o : Option (List α)} (h : RLO K F ws o) (e : Same F F') : RLO K F' ws o := by
  cases o with
  | none => trivial
  | some l => exact RpA.up h e
/-! ### min, max of a list of data -/
def bestI {α : Type} [Enc α] (xs : List α) : Nat := PySem.argBest (fun i j => PySem.W.dataLt ((xs.map Enc.d).getD i .none) ((xs.map Enc.d).getD j .none)) (xs.length - 1)
def bestX {α : Type} [Enc α] (xs : List α) : Nat := PySem.argBest (fun i j => PySem.W.dataLt ((xs.map Enc.d).getD j .none) ((xs.map Enc.d).getD i .none)) (xs.length - 1)
def minL {α : Type} [Enc α] (xs : List α) : Option α := xs[bestI xs]?
def maxL {α : Type} [Enc α] (xs : List α) : Option α := xs[bestX xs]?
theorem alikeAll_of {α : Type} [Enc α] [Alk α] (xs : List α) : PySem.W.AlikeAll (xs.map Enc.d) :=
  ⟨fun x hx y hy => by
    obtain ⟨a, _, rfl⟩ := List.mem_map.mp hx
    obtain ⟨b, _, rfl⟩ := List.mem_map.mp hy
    exact Alk.ak a b, fun x hx => by
    obtain ⟨a, _, rfl⟩ := List.mem_map.mp hx
    exact Alk.nn a⟩
def rMinL (α : Type) [Enc α] (f : List α → Nat) (K : PySem.W.Frag) : List V → Hp → VK → Prop := fun vs H Q => ∃ (a : Addr) (ws : List V) (xs : List α) (w : V), vs = [V.ref a] ∧ SqL K H a ws ∧ RL K H ws xs ∧ xs ≠ [] ∧ ws[f xs]? = some w ∧ Q w H
theorem cr_minL {α : Type} [Enc α] [Alk α] [Dep α] {X : Cx} (hc : X.calm = true) (hd : Dep.n α ≤ 60) (hu : X.A.units + 64 < cLine) : CallR X (.builtin "min") (rMinL α bestI X.K) := by
  intro pins s σ H vs us Q I r h
  obtain ⟨a, ws, xs, w, rfl, hs, hA, hne, hw, q⟩ := h
  obtain ⟨its, rv, hl, _⟩ := I.list hs
  rw [Vals.ref1 r]
  obtain ⟨as, ra⟩ := Dp.readsAll I _ _ _ (RpA.dp _ _ hA) rv
  have hl2 := hA.len
  have hlen : its.length = xs.length := by rw [← rv.length]; exact hl2
  have hn : 0 < xs.length := List.length_pos_iff.mpr hne
  have hroom : X.A.units + 1 + PyData.depthAll (xs.map Enc.d) < cLine := by
    have := depthAll_le xs
    omega
  refine PySem.call_min_walkH (PySem.W.iter_listW (A := X.A.in1) (I.ok.hd hc) hl.isList fun s₂ e W st hfp hw2 hk => ?_)
  refine ⟨_, _, _, _, _, _, _, s.heap, _, rfl, W, st, hfp, by rw [List.size_toArray]; omega, hw2, hk, PySem.W.cmpIn_lt (A := X.A.in1) (by simpa using ra) (alikeAll_of xs) (by show X.A.units + 1 + _ < _; exact hroom), fun v s' hP m => ?_⟩
  obtain ⟨h', tk, rfl, hk'⟩ := PySem.W.moved_old e rfl m
  obtain ⟨u, hu1, ru⟩ := rv.get hw
  have eu : v = u := by
    have e1 : its.toArray.size - 1 = xs.length - 1 := by rw [List.size_toArray]; omega
    rw [e1] at hP
    have h2 : its[bestI xs]? = some v := by
      have : its.toArray[bestI xs]? = some v := hP
      simpa using this
    rw [hu1] at h2
    exact (Option.some.inj h2).symm
  subst eu
  exact ⟨w, H, I.kept hk', ru, q⟩
theorem cr_maxL {α : Type} [Enc α] [Alk α] [Dep α] {X : Cx} (hc : X.calm = true) (hd : Dep.n α ≤ 60) (hu : X.A.units + 64 < cLine) : CallR X (.builtin "max") (rMinL α bestX X.K) := by
  intro pins s σ H vs us Q I r h
  obtain ⟨a, ws, xs, w, rfl, hs, hA, hne, hw, q⟩ := h
  obtain ⟨its, rv, hl, _⟩ := I.list hs
  rw [Vals.ref1 r]
  obtain ⟨as, ra⟩ := Dp.readsAll I _ _ _ (RpA.dp _ _ hA) rv
  have hl2 := hA.len
  have hlen : its.length = xs.length := by rw [← rv.length]; exact hl2
  have hn : 0 < xs.length := List.length_pos_iff.mpr hne
  have hroom : X.A.units + 1 + PyData.depthAll (xs.map Enc.d) < cLine := by
    have := depthAll_le xs
    omega
  refine PySem.call_max_walkH (PySem.W.iter_listW (A := X.A.in1) (I.ok.hd hc) hl.isList fun s₂ e W st hfp hw2 hk => ?_)
  refine ⟨_, _, _, _, _, _, _, s.heap, _, rfl, W, st, hfp, by rw [List.size_toArray]; omega, hw2, hk, PySem.W.cmpIn_gt (A := X.A.in1) (by simpa using ra) (alikeAll_of xs) (by show X.A.units + 1 + _ < _; exact hroom), fun v s' hP m => ?_⟩
  obtain ⟨h', tk, rfl, hk'⟩ := PySem.W.moved_old e rfl m
  obtain ⟨u, hu1, ru⟩ := rv.get hw
  have eu : v = u := by
    have e1 : its.toArray.size - 1 = xs.length - 1 := by rw [List.size_toArray]; omega
    rw [e1] at hP
    have h2 : its[bestX xs]? = some v := by
      have : its.toArray[bestX xs]? = some v := hP
      simpa using this
    rw [hu1] at h2
    exact (Option.some.inj h2).symm
  subst eu
  exact ⟨w, H, I.kept hk', ru, q⟩
theorem cr_minLK {α : Type} [Enc α] [Alk α] [Dep α] {X : Cx} {K : PySem.W.Frag} (hc : X.calm = true) (hu : X.A.units + 64 < cLine) (hd : Dep.n α ≤ 60 := by decide) (h : X.K = K := by rfl) : CallR X (.builtin "min") (rMinL α bestI K) := by subst h; exact cr_minL hc hd hu
theorem cr_maxLK {α : Type} [Enc α] [Alk α] [Dep α] {X : Cx} {K : PySem.W.Frag} (hc : X.calm = true) (hu : X.A.units + 64 < cLine) (hd : Dep.n α ≤ 60 := by decide) (h : X.K = K := by rfl) : CallR X (.builtin "max") (rMinL α bestX K) := by subst h; exact cr_maxL hc hd hu
theorem get_ne {α : Type} {xs : List α} {i : Nat} {x : α} (h : xs[i]? = some x) : xs ≠ [] := fun e => by rw [e] at h; cases h
theorem p_par {i j : Nat} {ta : TA} {D : Ends} {σ : L2.St} {H : Hp} (h : ta σ H fun vs H1 => ∃ v w, vs = [v, w] ∧ D.nx ((σ.set i (some v)).set j (some w)) H1) : tPar i j ta D σ H := h
theorem p_par3 {i j l : Nat} {ta : TA} {D : Ends} {σ : L2.St} {H : Hp} (h : ta σ H fun vs H1 => ∃ u v w, vs = [u, v, w] ∧ D.nx (((σ.set i (some u)).set j (some v)).set l (some w)) H1) : tPar3 i j l ta D σ H := h
/-- a comprehension within a comprehension -/
theorem relabel_free {env : Env} : ∀ {names : List (Str × NameKind)} {x : Str}, (names.lookup x = some .cell ∨ names.lookup x = some .free) →
    ((names.map fun (n, k) => if (k == NameKind.free && env.scope.kind == .function && env.kindOf n == some .cell) then (n, NameKind.cell) else (n, k)).lookup x = some .cell ∨
     (names.map fun (n, k) => if (k == NameKind.free && env.scope.kind == .function && env.kindOf n == some .cell) then (n, NameKind.cell) else (n, k)).lookup x = some .free)
  | [], x, h => by simp at h
  | (n, k) :: r, x, h => by
    have ih := @relabel_free env r x
    rw [List.map_cons]
    cases hx : x == n with
    | true =>
      rw [List.lookup_cons, hx] at h
      by_cases c : (k == NameKind.free && env.scope.kind == .function && env.kindOf n == some .cell) = true
      · refine .inl ?_
        show List.lookup x ((if _ then (n, NameKind.cell) else (n, k)) :: _) = _
        rw [if_pos c, List.lookup_cons, hx]
      · show List.lookup x ((if _ then (n, NameKind.cell) else (n, k)) :: _) = _ ∨ List.lookup x ((if _ then (n, NameKind.cell) else (n, k)) :: _) = _
        rw [if_neg c, List.lookup_cons, hx]
        exact h
    | false =>
      rw [List.lookup_cons, hx] at h
      show List.lookup x ((if _ then (n, NameKind.cell) else (n, k)) :: _) = _ ∨ List.lookup x ((if _ then (n, NameKind.cell) else (n, k)) :: _) = _
      split <;> (rw [List.lookup_cons, hx]; exact ih h)
theorem blkOk_in {X : Cx} {s : Shared} {H : Hp} {sc0 scope : Scope} {cl : List (Str × Addr)} {C : Addr} {fp : List Addr} {own : List (Str × Nat)} {N : List Str} (hN : X.N = N) (h : blkC N sc0 scope own = true) :
    BlkOk (X.blk s H sc0 (compEnvC sc0 cl C X.env) fp).N (X.blk s H sc0 (compEnvC sc0 cl C X.env) fp).env.scope scope own := by
  subst hN
  have h2 : BlkOk X.N sc0 scope own := blkOk_by h
  exact ⟨h2.kind, h2.uniq, h2.ix, fun y hy e => relabel_free (h2.free y hy e), h2.own⟩
end G
/-! My base, part 38: sorted(a list of data). -/
namespace G
open PySem PySem.Spec PyProof.Rows L2 TL
open PySem.W (EachIs)
class Srt (α : Type) [Enc α] : Prop where
  ok : (∀ b : α, ∃ x r, Enc.d b = PyData.tuple (x :: r)) ∨ (∀ b : α, Enc.d b ≠ PyData.none ∧ ∀ xs, Enc.d b ≠ PyData.tuple xs)
instance {α : Type} [Enc α] : Srt (List α) := ⟨.inr fun _ => ⟨nofun, nofun⟩⟩
instance : Srt Int := ⟨.inr fun _ => ⟨nofun, nofun⟩⟩
instance : Srt Str := ⟨.inr fun _ => ⟨nofun, nofun⟩⟩
instance {α β : Type} [Enc α] [Enc β] : Srt (α × β) := ⟨.inl fun _ => ⟨_, _, rfl⟩⟩
instance {α β γ : Type} [Enc α] [Enc β] [Enc γ] : Srt (T3 α β γ) := ⟨.inl fun _ => ⟨_, _, rfl⟩⟩
instance {α β γ δ : Type} [Enc α] [Enc β] [Enc γ] [Enc δ] : Srt (T4 α β γ δ) := ⟨.inl fun _ => ⟨_, _, rfl⟩⟩
def sortD {α : Type} [Enc α] (xs : List α) : List α := xs.mergeSort (PySem.W.dataLe false Enc.d)
theorem sortD_perm {α : Type} [Enc α] (xs : List α) : (sortD xs).Perm xs := List.mergeSort_perm _ _
theorem sortD_len {α : Type} [Enc α] (xs : List α) : (sortD xs).length = xs.length := (sortD_perm xs).length_eq
def rSortedD (α : Type) [Enc α] (K : PySem.W.Frag) : List V → Hp → VK → Prop := fun vs H Q => ∃ (a : Addr) (xs : List V) (ds : List α), vs = [V.ref a] ∧ SqL K H a xs ∧ RL K H xs ds ∧
  ∀ (ys : List V) (p : Addr), ys.length = xs.length → (∀ F, RL K F xs ds → RL K F ys (sortD ds)) → H p = none → Q (.ref p) (upd H p (.lst ys))
section
variable {α : Type} [Enc α]
theorem each_zip {K : PySem.W.Frag} {F : Hp} : ∀ {xs : List V} {ds : List α} {its : List Value}, Vals xs its → RL K F xs ds → EachIs (fun (u : Value) (q : V × α) => RelV q.1 u) its (xs.zip ds)
  | [], _, _, r, h => by
    cases r
    exact .nil
  | x :: xs, ds, _, r, h => by
    cases r with
    | cons h1 h2 =>
      cases ds with
      | nil => exact absurd (RL.len h) (by simp)
      | cons d ds =>
        cases h with
        | cons k1 k2 => exact .cons h1 (each_zip h2 k2)
theorem each_reads {h : Heap} : ∀ {xs : List V} {ds : List α} {its : List Value} {as : List Addr}, xs.length = ds.length → its.length = xs.length → ReadsAll h its (ds.map Enc.d) as → EachIs (fun (v : Value) (q : V × α) => ∃ as, Reads h v (Enc.d q.2) as) its (xs.zip ds)
  | [], _, its, _, _, hl2, _ => by
    have : its = [] := List.eq_nil_of_length_eq_zero hl2
    subst this
    exact .nil
  | x :: xs, [], _, _, hl, _, _ => by cases hl
  | x :: xs, d :: ds, its, as, hl, hl2, r => by
    cases its with
    | nil => cases hl2
    | cons v its =>
      have r' : ReadsAll h (v :: its) (Enc.d d :: ds.map Enc.d) as := r
      cases r' with
      | cons h1 h2 => exact .cons ⟨_, h1⟩ (each_reads (Nat.succ.inj hl) (Nat.succ.inj hl2) h2)
theorem each_vals : ∀ {out : List Value} {l : List (V × α)}, EachIs (fun (u : Value) (q : V × α) => RelV q.1 u) out l → Vals (l.map (·.1)) out
  | _, _, .nil => .nil
  | _, _, .cons h t => .cons h (each_vals t)
theorem RL.of_pairs {K : PySem.W.Frag} {F : Hp} : ∀ {l : List (V × α)}, (∀ q ∈ l, R K F q.1 q.2) → RL K F (l.map (·.1)) (l.map (·.2))
  | [], _ => .nil
  | q :: l, h => .cons (h q (List.mem_cons_self ..)) (RL.of_pairs fun x hx => h x (List.mem_cons_of_mem _ hx))
theorem RL.pairs {K : PySem.W.Frag} {F : Hp} : ∀ {xs : List V} {ds : List α}, RL K F xs ds → ∀ q ∈ xs.zip ds, R K F q.1 q.2
  | [], _, _, _, hq => by simp at hq
  | x :: xs, ds, h, q, hq => by
    cases ds with
    | nil => simp at hq
    | cons d ds =>
      cases h with
      | cons k1 k2 =>
        rw [List.zip_cons_cons] at hq
        rcases List.mem_cons.mp hq with rfl | hq
        · exact k1
        · exact RL.pairs k2 q hq
theorem cr_sortedD {X : Cx} [Alk α] [Dep α] [Srt α] (hd : Dep.n α ≤ 60) (hu : X.A.units + 64 < cLine) : CallR X (.builtin "sorted") (rSortedD α X.K) := by
  intro pins s σ H vs us Q I r h
  obtain ⟨a, xs, ds, rfl, hs, hA, q⟩ := h
  have hlen : xs.length = ds.length := RL.len hA
  obtain ⟨its, rv, hl, hz⟩ := I.list hs
  rw [Vals.ref1 r]
  obtain ⟨as, ra⟩ := Dp.readsAll I _ _ _ (RpA.dp _ _ hA) rv
  have hil : its.length = xs.length := rv.length.symm
  have hzl : (xs.zip ds).length = xs.length := by rw [List.length_zip, hlen, Nat.min_self]
  have hsnd : (xs.zip ds).map (·.2) = ds := by rw [List.map_snd_zip (by omega)]
  have hfst : (xs.zip ds).map (·.1) = xs := by rw [List.map_fst_zip (by omega)]
  refine PySem.W.sorted_data (β := V × α) (enc := fun q => Enc.d q.2) (vs := its) (bs := xs.zip ds) hl.isList (each_zip rv hA) (each_reads hlen hil ra) (PySem.W.AllAlike.of fun b b' => Alk.ak b.2 b'.2)
    (by rcases (Srt.ok : (∀ b : α, ∃ x r, Enc.d b = PyData.tuple (x :: r)) ∨ (∀ b : α, Enc.d b ≠ PyData.none ∧ ∀ xs, Enc.d b ≠ PyData.tuple xs)) with h | h
        · exact PySem.W.Sortable.tuples fun b => h b.2
        · exact PySem.W.Sortable.others fun b => h b.2) (by rw [hzl]; exact hz) (fun b _ => by have := Dep.le b.2; omega) fun out h1 h2 => ?_
  have hv := each_vals h2
  have hmap : ((xs.zip ds).mergeSort (PySem.W.dataLe false fun q : V × α => Enc.d q.2)).map (·.2) = sortD ds := by
    have := List.map_mergeSort (f := fun q : V × α => q.2) (r := PySem.W.dataLe false fun q : V × α => Enc.d q.2) (s := PySem.W.dataLe false (Enc.d : α → PyData)) (l := xs.zip ds) (fun _ _ _ _ => rfl)
    rw [this, hsnd]
    rfl
  obtain ⟨ep, he⟩ := PyProof.Rows.sortedAll_at s.heap its (List.toArray out)
  have hyl : (((xs.zip ds).mergeSort (PySem.W.dataLe false fun q : V × α => Enc.d q.2)).map (·.1)).length = xs.length := by rw [List.length_map, List.length_mergeSort, hzl]
  refine ⟨.ref _, upd H (s.heap.objs.size + 1) (.lst (((xs.zip ds).mergeSort (PySem.W.dataLe false fun q : V × α => Enc.d q.2)).map (·.1))), I.laid (t' := s.toks) (fun _ _ => PyProof.Rows.sortedAll_old) (Nat.le_succ _) ⟨by rw [hyl]; exact hz, out, ep, hv, he⟩, rfl, q _ _ hyl (fun F hF => ?_) (I.hok.fresh (Nat.le_succ _))⟩
  rw [← hmap]
  exact RL.of_pairs fun q hq => RL.pairs hF q ((List.mergeSort_perm _ _).mem_iff.mp hq)
theorem cr_sortedDK {X : Cx} [Alk α] [Dep α] [Srt α] {K : PySem.W.Frag} (hu : X.A.units + 64 < cLine) (hd : Dep.n α ≤ 60 := by decide) (h : X.K = K := by rfl) : CallR X (.builtin "sorted") (rSortedD α K) := by subst h; exact cr_sortedD hd hu
end
end G
/-! My base, part 39: x.replace(written, written), where a token is out. -/
namespace G
open PySem PySem.Spec PyProof.Rows L2 TL CwR
theorem thnT {α : Type} {M : Model} {A : Around} {c : Sem α} {Q Q' : α → Shared → Prop} {E : Value → Shared → Prop} {s : Shared} (h : wpAny M A c Q E s) (k : ∀ v s1, s.toks ≤ s1.toks → Q v s1 → Q' v s1) : wpAny M A c Q' E s :=
  wpAny_mono (PySem.wpAny_toks h) (fun v s1 q => k v s1 q.1 q.2) fun _ _ z => z.2
section
variable {X : Cx}
theorem psst_nox {st : List Stmt} {t : TS} (h : PSsT X.nox st t) : PSsT X st t := fun pins s σ H D h0 I hw =>
  wpAny_mono (h pins s σ H D h0 (I.wish _) hw) (fun _ _ q => q.unwish) fun _ _ z => False.elim z
theorem pst_asg {tg e : Expr} {te : TE} {g : TG} {pos : Pos} (he : PET X e te) (hg : PG X tg g) (hs : swapsWithSole [tg] e pos.line X.env = pure false := by rfl) (hw : swappedStores [tg] e X.env = pure none := by rfl)
    (h1 : (assignEach [tg] X.env).map (·.2) = [assign tg X.env] := by rfl) : PST X (.Assign [tg] e pos) (tAsg te g) := by
  intro pins s σ H D h0 I h
  refine wpAny_Assign_stores (thn (he pins s σ H _ h0 I h) fun v s1 ⟨x, H1, I1, r1, q1⟩ => ?_) hs hw
  rw [h1]
  exact thn (hg.run pins s1 σ H1 x v _ I1 r1 q1) fun _ s2 q => q
theorem pst_set {i : Nat} {x : Str} {e : Expr} {te : TE} {pos pos' : Pos} (hN : X.N.Nodup) (hi : X.N[i]? = some x) (hx : Loc X.env.scope x) (he : PET X e te) (hs : swapsWith e (some (.Name x pos')) pos.line X.env = pure false := by rfl) (hf : X.fn x = true ∨ X.env.scope.names.lookup x = some .local := by first | exact .inl rfl | exact .inr rfl | assumption) :
    PST X (.Assign [.Name x pos'] e pos) (tAsg te (gName i)) := by
  intro pins s σ H D h0 I h
  refine wpAny_Assign_Name (thn (he pins s σ H _ h0 I h) fun v s1 ⟨y, H1, I1, r1, q1⟩ => ?_) hs
  exact store_ok I1 hN hi hx r1 (fun s2 I2 => ⟨_, H1, I2, q1⟩) hf
theorem psst_cut {st : Stmt} {rest : List Stmt} {t u : TS} (h1 : PST X st t) (h2 : PSsT X rest u) : PSsT X (st :: rest) (tCut t u) := by
  intro pins s σ H D h0 I h
  obtain ⟨Mid, hm, hu⟩ := h
  refine wpAny_execs_cons (thnT (h1 pins s σ H { D with nx := Mid } h0 I hm) fun f s1 k1 q => ?_)
  cases f with
  | next =>
    obtain ⟨σ', H', I', q⟩ := q
    exact h2 pins s1 σ' H' D (Nat.le_trans h0 k1) I' (hu σ' H' q)
  | ret v => exact q
  | brk => exact q
  | cont => exact q
theorem pst_forT {tg iter : Expr} {body : List Stmt} {wi : TI} {g : TG} {tb : TS} {pos : Pos} (hp : PassesOwn (model X.prog X.w) X.A X.env X.xe) (hc : X.calm = true) (hi : PI X tg iter wi) (hg : PG X tg g) (hb : PSsT X body tb)
    (hs : ∀ x, foldedSetIterable iter X.env x = pure x := by intro _; rfl) : PST X (.For tg iter body [] pos) (tFor wi g tb) := by
  intro pins s σ H D h0 I h
  refine wpAny_For (thnT (hi.run pins s σ H _ I h) fun v s1 k1 h1 => thnT h1 fun itv s2 k2 h2 => ?_) hs
  obtain ⟨it, fp, tn, J, H2, e, I2, T, st2, f2, W, ⟨m0, w0⟩, turn⟩ := h2
  subst e
  have t2 : 1 ≤ s2.toks := by omega
  have stat : ∀ {H' : Hp}, (∀ b ∈ fp, H' b = none) → ∀ b ∈ fp, FpOk X pins H' b := fun hn b hb => ⟨hn b hb, (f2 b hb).2⟩
  refine codeAny_forLoop_any (fun n s' => 1 ≤ s'.toks ∧ ∃ i σ' H', Inv X pins σ' H' s' ∧ tn i s'.heap ∧ (∀ b ∈ fp, H' b = none) ∧ W i n σ' H') ?_ m0 ⟨t2, 0, σ, H2, I2, st2, fun b hb => (f2 b hb).1, w0⟩
  rintro n s3 ⟨t3, i, σ3, H3, I3, st3, fr3, w3⟩
  rcases turn i n σ3 H3 w3 with ⟨stop, qn⟩ | ⟨go, N, hN, step⟩
  · refine wpAny_passesOwn hp (thn (T.done X rfl rfl rfl hc i pins s3 σ3 H3 X.xe I3 (stat fr3) st3 stop) fun r s4 ⟨hr, I4⟩ => ?_)
    subst hr
    exact wpAny_execs_nil ⟨σ3, H3, I4, qn⟩
  · refine wpAny_passesOwn hp (thnT (T.item X rfl rfl rfl hc i pins s3 σ3 H3 X.xe I3 (stat fr3) st3 go) fun r s4 k4 ⟨u, hr, h4⟩ => ?_)
    subst hr
    refine wpAny_passesOwn hp (thnT h4 fun _ s5 k5 ⟨x, H5, I5, r5, y5, st5, fr5⟩ => ?_)
    have I5' := I5.pinned (stat fr5) (T.obj _ _ st5)
    refine wpAny_passesOwn hp (thnT (hg.run _ s5 σ3 H5 x u _ I5' r5 (step x H5 y5)) fun _ s6 k6 ⟨σ6, H6, I6, q6⟩ => ?_)
    have t6 : 1 ≤ s6.toks := by omega
    refine wpAny_passesOwn hp (thnT (hb _ s6 σ6 H6 _ t6 I6 q6) fun f s7 k7 q7 => ?_)
    have t7 : 1 ≤ s7.toks := by omega
    have again : ∀ {σ7 : L2.St} {H7 : Hp}, Inv X (pins ++ pinsAt fp s5.heap) σ7 H7 s7 → N σ7 H7 → ∃ m, m < n ∧ (1 ≤ s7.toks ∧ ∃ i σ' H', Inv X pins σ' H' s7 ∧ tn i s7.heap ∧ (∀ b ∈ fp, H' b = none) ∧ W i m σ' H') := fun {σ7 H7} I7 n7 => by
      obtain ⟨m', hm, w7⟩ := hN σ7 H7 n7
      refine ⟨m', hm, t7, i + 1, σ7, H7, I7.unpinned, T.keep _ _ _ st5 fun b hb o e => (I7.pin (b, o) (List.mem_append_right _ (List.mem_append_right _ (mem_pinsAt hb e)))).1, fun b hb => ?_, w7⟩
      obtain ⟨o, e, d⟩ := T.obj _ _ st5 b hb
      exact (I7.pin (b, o) (List.mem_append_right _ (List.mem_append_right _ (mem_pinsAt hb e)))).2.1
    cases f with
    | next => obtain ⟨σ7, H7, I7, n7⟩ := q7; exact again I7 n7
    | cont => obtain ⟨σ7, H7, I7, n7⟩ := q7; exact again I7 n7
    | brk => obtain ⟨σ7, H7, I7, q7⟩ := q7; exact ⟨σ7, H7, I7.unpinned, q7⟩
    | ret v => obtain ⟨x7, σ7, H7, I7, r7, q7⟩ := q7; exact ⟨x7, σ7, H7, I7.unpinned, r7, q7⟩
end
section
variable {P : Program} {w : World} {K : PySem.W.Frag} {mg : Str → Option Value} {base : Heap} {x qual : Str} {params : Arguments} {body : List Stmt} {scope : Scope} {f : Addr} {fd : FuncData}
theorem fd_okT {N ps : List Str} {k : Nat} {sp : Sp} (F : FunD K x qual params body scope [] [] f fd) (S : FnScope N ps scope) (len : ∀ vs H Q E, sp vs H Q E → vs.length = ps.length)
    (hnc : ∀ y ∈ scope.names, y.2 ≠ .cell) (hps : 1 ≤ ps.length)
    (hbody : ∀ (cdv : Value) (A : Around) (outer : List Env) (s : Shared) (H : Hp) (vs : List V) (Q : VK) (E : XK), Room k (A.deeper (envOfC qual scope s.heap.objs.size f cdv)) → sp vs H Q E →
      ∃ t, PSsT (cxOf CX0 P w K mg base N qual scope f cdv A outer s H E).nox body t ∧ t { nx := fun _ H' => Q .non H', rt := Q } (start N vs) H) : FnOk P w K mg base CX0 (k + 1) f fd ps sp := by
  obtain ⟨oc, od, dV, kV, doc, pm, an, cdv, ct, osl, rfl, lk, hcd, _, _⟩ := F.ex
  exact fn_ofT lk hcd S hnc hps len fun A outer s H vs Q E hr hsp =>
    let ⟨t, h, q⟩ := hbody cdv A outer s H vs Q E hr hsp
    ⟨t, psst_nox h, q⟩
end
/-- x.replace(one sign, nothing) -/
def strike (x : Str) (c : Nat) : Str := Txt.replace x ⟨#[c]⟩ ⟨#[]⟩
theorem strike_tl (x : Str) (c : Nat) : tl (strike x c) = (tl x).filter (· != c) := PyProof.Rows.replace_strikes x c
theorem GS.strike {x : Str} (h : GS x) (c : Nat) : GS (strike x c) := by
  refine h.sub (fun d hd => ?_) ?_
  · rw [strike_tl] at hd
    exact (List.mem_filter.mp hd).1
  · rw [strike_tl]
    exact List.length_filter_le ..
theorem GS.strike_len {x : Str} (h : GS x) (c : Nat) : x.length + (x.length + 1) * (⟨#[]⟩ : Str).length ≤ 16777216 := by
  have := h.len
  rw [sizeLine_eq] at this
  show x.length + (x.length + 1) * 0 ≤ _
  omega
/-- str(0 | 1) -/
def strO (i : Int) : Option Str := if i = 0 then some "0" else if i = 1 then some "1" else none
theorem strO_gs {i : Int} {s : Str} (h : strO i = some s) : GS s := by
  unfold strO at h
  split at h
  · cases h
    exact ⟨by decide +kernel, by decide +kernel⟩
  · split at h
    · cases h
      exact ⟨by decide +kernel, by decide +kernel⟩
    · cases h
theorem call_strB {X : Cx} : CallR X (.type "str") (fun xs H Q => ∃ i s, xs = [V.int i] ∧ strO i = some s ∧ Q (.str s) H) := by
  intro pins s σ H xs us Q I r h
  obtain ⟨i, t, e1, e2, q⟩ := h
  subst e1
  unfold strO at e2
  refine call_str_int pins s σ H _ us Q I r ⟨i, rfl, ?_, ?_⟩
  · split at e2
    · next h => subst h; decide +kernel
    · split at e2
      · next h => subst h; decide +kernel
      · cases e2
  · split at e2
    · next h => subst h; cases e2; exact q
    · split at e2
      · next h => subst h; cases e2; exact q
      · cases e2
end G
/-! My base, part 40: comprehensions of two clauses. -/
namespace G
open PySem PySem.Spec PyProof.Rows L2 TL
def lineO {α : Type} (xs : List α) : Option (List α) := if xs.length ≤ sizeLine then some xs else none
theorem lineO_ok {α : Type} {xs r : List α} (h : lineO xs = some r) : xs.length ≤ sizeLine ∧ xs = r := by
  unfold lineO at h
  split at h
  · next h1 => exact ⟨h1, Option.some.inj h⟩
  · cases h
section
variable {K : PySem.W.Frag} {a : Addr} {xs : List V} {g g1 : TG} {tt tt1 : TT} {te : TE} {wi1 : TI} {vs vs1 : List Nat} {σ : L2.St} {H1 : Hp} {D : Addr} {Qd : Hp → Prop}
theorem lc2_list (Pv : Nat → Hp → Prop) (h0 : Pv 0 (upd H1 D (.lst []))) (hl : ∀ i H, i ≤ xs.length → Pv i H → SqL K H a xs)
    (hs : ∀ i x H, xs[i]? = some x → Pv i H → g x (wipe σ vs) H fun σ2 H2 => wipe σ2 vs = wipe σ vs ∧ tt σ2 H2 fun b H3 =>
      if b = true then wi1 σ2 H3 fun J1 H4 => ∃ W1 : Nat → Nat → Hp → Prop, (∃ m, W1 0 m H4) ∧ ∀ j k H, W1 j k H → (J1.stop j H ∧ Pv (i + 1) H) ∨ (J1.go j H ∧ ∃ Nx1 : Hp → Prop, (∀ H', Nx1 H' → ∃ k', k' < k ∧ W1 (j + 1) k' H') ∧
        ∀ x H', J1.yld j H x H' → g1 x (wipe σ2 vs1) H' fun σ3 H5 => wipe σ3 vs1 = wipe σ2 vs1 ∧ tt1 σ3 H5 fun b H6 => if b = true then te σ3 H6 fun y H7 => ∃ acc, H7 D = some (.lst acc) ∧ acc.length < sizeLine ∧ Nx1 (upd H7 D (.lst (acc ++ [y]))) else Nx1 H6)
      else Pv (i + 1) H3) (hd : ∀ H, Pv xs.length H → Qd H) :
    ∃ W : Nat → Nat → Hp → Prop, (∃ m, W 0 m (upd H1 D (.lst []))) ∧ ∀ i m H, W i m H →
      ((Itl K a).stop i H ∧ Qd H) ∨ ((Itl K a).go i H ∧ ∃ Nx : Hp → Prop, (∀ H', Nx H' → ∃ m', m' < m ∧ W (i + 1) m' H') ∧ ∀ x H', (Itl K a).yld i H x H' → g x (wipe σ vs) H' fun σ2 H2 => wipe σ2 vs = wipe σ vs ∧ tt σ2 H2 fun b H3 =>
        if b = true then wi1 σ2 H3 fun J1 H4 => ∃ W1 : Nat → Nat → Hp → Prop, (∃ m, W1 0 m H4) ∧ ∀ j k H, W1 j k H → (J1.stop j H ∧ Nx H) ∨ (J1.go j H ∧ ∃ Nx1 : Hp → Prop, (∀ H', Nx1 H' → ∃ k', k' < k ∧ W1 (j + 1) k' H') ∧
        ∀ x H', J1.yld j H x H' → g1 x (wipe σ2 vs1) H' fun σ3 H5 => wipe σ3 vs1 = wipe σ2 vs1 ∧ tt1 σ3 H5 fun b H6 => if b = true then te σ3 H6 fun y H7 => ∃ acc, H7 D = some (.lst acc) ∧ acc.length < sizeLine ∧ Nx1 (upd H7 D (.lst (acc ++ [y]))) else Nx1 H6)
        else Nx H3) := by
  refine ⟨fun i m H => m = xs.length - i ∧ i ≤ xs.length ∧ Pv i H, ⟨xs.length, by simp, Nat.zero_le _, h0⟩, ?_⟩
  rintro i m H ⟨rfl, hi, p⟩
  have q := hl i H hi p
  by_cases hlt : i < xs.length
  · refine .inr ⟨⟨xs, xs[i], q, by simp [hlt]⟩, Pv (i + 1), fun H' p' => ⟨xs.length - (i + 1), by omega, rfl, hlt, p'⟩, fun x H' y => ?_⟩
    obtain ⟨e, y⟩ := y
    subst e
    exact hs i x _ (y xs q) p
  · have e : i = xs.length := by omega
    subst e
    exact .inl ⟨⟨xs, q, Nat.le_refl _⟩, hd H p⟩
theorem in_tup {Nx : Hp → Prop} (Pv : Nat → Hp → Prop) (h0 : Pv 0 H1) (hl : ∀ i H, i ≤ xs.length → Pv i H → SqT K H a xs)
    (hs : ∀ i x H, xs[i]? = some x → Pv i H → g x (wipe σ vs) H fun σ2 H2 => wipe σ2 vs = wipe σ vs ∧ tt σ2 H2 fun b H3 =>
      if b = true then te σ2 H3 fun y H4 => ∃ acc, H4 D = some (.lst acc) ∧ acc.length < sizeLine ∧ Pv (i + 1) (upd H4 D (.lst (acc ++ [y]))) else Pv (i + 1) H3) (hd : ∀ H, Pv xs.length H → Nx H) :
    ∃ W : Nat → Nat → Hp → Prop, (∃ m, W 0 m H1) ∧ ∀ i m H, W i m H →
      ((Itt K a).stop i H ∧ Nx H) ∨ ((Itt K a).go i H ∧ ∃ Nx1 : Hp → Prop, (∀ H', Nx1 H' → ∃ m', m' < m ∧ W (i + 1) m' H') ∧ ∀ x H', (Itt K a).yld i H x H' → g x (wipe σ vs) H' fun σ2 H2 => wipe σ2 vs = wipe σ vs ∧ tt σ2 H2 fun b H3 =>
        if b = true then te σ2 H3 fun y H4 => ∃ acc, H4 D = some (.lst acc) ∧ acc.length < sizeLine ∧ Nx1 (upd H4 D (.lst (acc ++ [y]))) else Nx1 H3) := by
  refine ⟨fun i m H => m = xs.length - i ∧ i ≤ xs.length ∧ Pv i H, ⟨xs.length, by simp, Nat.zero_le _, h0⟩, ?_⟩
  rintro i m H ⟨rfl, hi, p⟩
  have q := hl i H hi p
  by_cases hlt : i < xs.length
  · refine .inr ⟨⟨xs, xs[i], q, by simp [hlt]⟩, Pv (i + 1), fun H' p' => ⟨xs.length - (i + 1), by omega, rfl, hlt, p'⟩, fun x H' y => ?_⟩
    obtain ⟨e, y⟩ := y
    subst e
    exact hs i x _ (y xs q) p
  · have e : i = xs.length := by omega
    subst e
    exact .inl ⟨⟨xs, q, Nat.le_refl _⟩, hd H p⟩
end
theorem take_at {α : Type} {l : List α} {j : Nat} {x : α} (h : l[j]? = some x) : l.take (j + 1) = l.take j ++ [x] := by rw [List.take_succ, h]; rfl
theorem take_end {α : Type} {l : List α} {n : Nat} (h : n = l.length) : l.take n = l := by subst h; exact List.take_length
theorem lt_two {α : Type} [Enc α] {K : PySem.W.Frag} {F : Hp} {acc : List V} {ds L1 rest l0 : List α} {j : Nat} {x : α} (h : RL K F acc (ds ++ L1.take j)) (he : L1[j]? = some x) (hr : ds ++ (L1 ++ rest) = l0) (hk : l0.length ≤ sizeLine) : acc.length < sizeLine := by
  have h1 := RL.len h
  have h2 := (List.getElem?_eq_some_iff.mp he).1
  rw [List.length_append, List.length_take] at h1
  rw [← hr, List.length_append, List.length_append] at hk
  omega
end G
/-! Plain laws: how the makings come out. -/
namespace G
open PySem PySem.Spec PyProof.Rows L2 TL
section
variable {α β γ δ S : Type} {I : S → Prop}
def O1 (o : Option α) (P : α → Prop) : Prop := ∃ a, o = some a ∧ P a
def O2 (I : S → Prop) (o : Option (α × S)) (P : α → Prop) : Prop := ∃ a b, o = some (a, b) ∧ I b ∧ P a
theorem O1.ret {a : α} {P : α → Prop} (h : P a) : O1 (some a) P := ⟨a, rfl, h⟩
theorem O1.imp {o : Option α} {P Q : α → Prop} (h : O1 o P) (k : ∀ a, P a → Q a) : O1 o Q := let ⟨a, e, p⟩ := h; ⟨a, e, k a p⟩
theorem O1.bind {o : Option α} {f : α → Option β} {P : α → Prop} {Q : β → Prop} (h : O1 o P) (k : ∀ a, P a → O1 (f a) Q) : O1 (Option.bind o f) Q := by
  obtain ⟨a, rfl, p⟩ := h
  exact k a p
theorem O2.ret {a : α} {b : S} {P : α → Prop} (hb : I b) (h : P a) : O2 I (some (a, b)) P := ⟨a, b, rfl, hb, h⟩
theorem O2.imp {o : Option (α × S)} {P Q : α → Prop} (h : O2 I o P) (k : ∀ a, P a → Q a) : O2 I o Q := let ⟨a, b, e, i, p⟩ := h; ⟨a, b, e, i, k a p⟩
theorem O2.bind1 {o : Option α} {f : α → Option (β × S)} {P : α → Prop} {Q : β → Prop} (h : O1 o P) (k : ∀ a, P a → O2 I (f a) Q) : O2 I (Option.bind o f) Q := by
  obtain ⟨a, rfl, p⟩ := h
  exact k a p
theorem O2.ite {c : Bool} {x y : Option (α × S)} {P : α → Prop} (h1 : c = true → O2 I x P) (h2 : c = false → O2 I y P) : O2 I (if c = true then x else y) P := by
  cases c with
  | true => exact h1 rfl
  | false => exact h2 rfl
theorem O1.ite {c : Bool} {x y : Option α} {P : α → Prop} (h1 : c = true → O1 x P) (h2 : c = false → O1 y P) : O1 (if c = true then x else y) P := by
  cases c with
  | true => exact h1 rfl
  | false => exact h2 rfl
end
section
variable {α β : Type} {S : Type} {I : S → Prop}
theorem O2.bind {o : Option (α × S)} {f : α → S → Option (β × S)} {P : α → Prop} {Q : β → Prop} (h : O2 I o P) (k : ∀ a b, I b → P a → O2 I (f a b) Q) : O2 I (bind2 o f) Q := by
  obtain ⟨a, b, rfl, i, p⟩ := h
  exact k a b i p
end
section
variable {α β γ δ R T S : Type} {I : S → Prop} {Q : T → Prop} {g : R → Option (T × S)}
theorem O2.bL0 {o : Option (Lp Unit R)} {f : Option (T × S)} (e : o = some (.go ())) (k : O2 I f Q) : O2 I (bindL0 o f g) Q := by subst e; exact k
theorem O2.bL1 {o : Option (Lp α R)} {f : α → Option (T × S)} {a : α} (e : o = some (.go a)) (k : O2 I (f a) Q) : O2 I (bindL1 o f g) Q := by subst e; exact k
theorem O2.bL2 {o : Option (Lp (α × β) R)} {f : α → β → Option (T × S)} {a : α} {b : β} (e : o = some (.go (a, b))) (k : O2 I (f a b) Q) : O2 I (bindL2 o f g) Q := by subst e; exact k
theorem O2.bL3 {o : Option (Lp (α × β × γ) R)} {f : α → β → γ → Option (T × S)} {a : α} {b : β} {c : γ} (e : o = some (.go (a, b, c))) (k : O2 I (f a b c) Q) : O2 I (bindL3 o f g) Q := by subst e; exact k
end
theorem O2.true_ {S : Type} {I : S → Prop} {o : Option (Bool × S)} (h : O2 I o (fun r => r = true)) : ∃ b, o = some (true, b) := by
  obtain ⟨r, b, e, _, rfl⟩ := h
  exact ⟨b, e⟩
/-! ### lists and texts -/
theorem atI_O {α : Type} {xs : List α} {i : Int} {P : α → Prop} (h0 : 0 ≤ i) (h1 : i < xs.length) (h : ∀ x ∈ xs, P x) : O1 (atI xs i) P := by
  obtain ⟨n, rfl⟩ := Int.eq_ofNat_of_zero_le h0
  have hn : n < xs.length := by omega
  have e : xs[n]? = some xs[n] := List.getElem?_eq_getElem hn
  exact ⟨_, atI_nat e, h _ (List.getElem_mem hn)⟩
theorem tl_inj {x y : Str} (h : tl x = tl y) : x = y := by
  obtain ⟨⟨l⟩⟩ := x
  obtain ⟨⟨m⟩⟩ := y
  have h' : l = m := h
  rw [h']
theorem eqS_tl {x y : Str} : eqS x y = decide (tl x = tl y) := by
  rw [eqS_iff]
  exact decide_eq_decide.mpr ⟨fun h => by rw [h], tl_inj⟩
theorem tl_cut {z : Str} {lo hi : Option Int} : tl (cutS z lo hi) = ((tl z).drop (HT.sIx (tl z).length 0 lo)).take (HT.sIx (tl z).length (tl z).length hi - HT.sIx (tl z).length 0 lo) := by
  rw [← len_tl]
  unfold cutS tl
  rfl
theorem sIx_neg (n d : Nat) {k : Nat} (hk : 0 < k) : HT.sIx n d (some (-(k : Int))) = n - k := by
  show (if (-(k : Int)) < 0 then (-(k : Int) + (n : Int)).toNat else min (-(k : Int)).toNat n) = n - k
  rw [if_pos (by omega)]
  omega
theorem sIx_neg1 (n d : Nat) : HT.sIx n d (some (-1)) = n - 1 := sIx_neg n d (k := 1) (by decide)
theorem sIx_n (n d : Nat) : HT.sIx n d none = d := rfl
theorem tl_sgn (c : Nat) : tl (sgn c) = [c] := rfl
theorem catS_O {a b : Str} {P : Str → Prop} (h : (tl a).length + (tl b).length ≤ 16777216) (p : P (a ++ b)) : O1 (catS a b) P := by
  refine ⟨a ++ b, ?_, p⟩
  unfold catS
  rw [if_pos (by rw [len_tl, len_tl, sizeLine_eq]; exact h)]
theorem mulS_O {x : Str} {n : Int} {P : Str → Prop} (h1 : -(2 ^ 63 : Int) ≤ n) (h2 : n ≤ 16777216) (h3 : (tl x).length * n.toNat ≤ 16777216) (p : P (Txt.mul x n)) : O1 (mulS x n) P := by
  refine ⟨_, ?_, p⟩
  unfold mulS
  rw [if_pos ⟨h1, h2, by rw [len_tl]; exact h3⟩]
theorem codeAt_O {x : Str} {i : Int} {P : Nat → Prop} (h0 : 0 ≤ i) (h1 : i < (tl x).length) (h : ∀ c ∈ tl x, P c) : O1 (codeAt x i) P := atI_O h0 h1 h
theorem rangeO1_O {n : Int} {P : List Int → Prop} (h : n ≤ 16777216) (h0 : -(2 ^ 62) ≤ n) (p : P (rangeL 0 n.toNat)) : O1 (rangeO1 n) P := by
  refine ⟨_, ?_, p⟩
  unfold rangeO1
  rw [if_pos ⟨⟨h0, by omega⟩, by rw [sizeLine_eq]; omega⟩]
theorem joinS_O {sep : Str} {ys : List Str} {P : Str → Prop} (h : (ys.map fun y => (tl y).length).sum + ys.length * (tl sep).length ≤ 16777216) (p : P (Txt.join sep ys)) : O1 (joinS sep ys) P := by
  refine ⟨_, ?_, p⟩
  unfold joinS
  rw [if_pos]
  have e : (ys.map fun y => y.length) = ys.map fun y => (tl y).length := List.map_congr_left fun y _ => len_tl y
  show (ys.map fun y => y.length).sum + ys.length * sep.length ≤ _
  rw [e, len_tl]
  exact h
theorem tl_empty : tl ("" : Str) = [] := by decide +kernel
theorem joinL_nil : ∀ (ys : List (List Nat)), joinL [] ys = ys.flatten
  | [] => rfl
  | [y] => by show y = [y].flatten; simp
  | y :: z :: r => by
    show y ++ ([] ++ joinL [] (z :: r)) = _
    rw [joinL_nil (z :: r)]
    simp
theorem tl_join0 (ys : List Str) : tl (Txt.join ("" : Str) ys) = (ys.map tl).flatten := by rw [tl_joinS, tl_empty, joinL_nil]
/-- a text of no more than n signs -/
def Sh (n : Nat) (x : Str) : Prop := (tl x).length ≤ n
theorem Sh.mono {n m : Nat} {x : Str} (h : Sh n x) (k : n ≤ m) : Sh m x := Nat.le_trans h k
theorem Sh.cut {n : Nat} {x : Str} {lo hi : Option Int} (h : Sh n x) : Sh n (cutS x lo hi) := by
  unfold Sh at *
  rw [tl_cut, List.length_take, List.length_drop]
  omega
theorem Sh.sgn {c : Nat} : Sh 1 (sgn c) := Nat.le_refl 1
theorem Sh.rev {n : Nat} {x : Str} (h : Sh n x) : Sh n (revS x) := by
  unfold Sh at *
  rw [tl_revS, List.length_reverse]
  exact h
theorem Sh.cat {n m : Nat} {a b : Str} (ha : Sh n a) (hb : Sh m b) : Sh (n + m) (a ++ b) := by
  unfold Sh at *
  rw [tl_append, List.length_append]
  omega
theorem Sh.cat_O {n m : Nat} {a b : Str} (ha : Sh n a) (hb : Sh m b) (h : n + m ≤ 16777216 := by decide) : O1 (catS a b) (Sh (n + m)) :=
  catS_O (Nat.le_trans (Nat.add_le_add ha hb) h) (ha.cat hb)
theorem tl_mul_len (x : Str) (n : Int) : (tl (Txt.mul x n)).length = n.toNat * (tl x).length := by
  rw [tl_mul, List.length_flatten, List.map_replicate, List.sum_replicate_nat]
theorem Sh.mul_O {n m : Nat} {x : Str} {i : Int} (hx : Sh n x) (h0 : -1000000 ≤ i) (h1 : i ≤ (m : Nat)) (h2 : m * n ≤ 16777216) (h3 : m ≤ 16777216) : O1 (mulS x i) (Sh (m * n)) := by
  have h4 : i.toNat ≤ m := by omega
  have h5 : i.toNat * (tl x).length ≤ m * n := Nat.mul_le_mul h4 hx
  refine mulS_O (by omega) (by omega) (by rw [Nat.mul_comm]; omega) ?_
  unfold Sh
  rw [tl_mul_len]
  exact h5
theorem sh_sum {n : Nat} : ∀ {ys : List Str}, (∀ y ∈ ys, Sh n y) → (ys.map fun y => (tl y).length).sum ≤ ys.length * n
  | [], _ => by simp
  | y :: ys, h => by
    have h1 := sh_sum (n := n) (ys := ys) fun z hz => h z (List.mem_cons_of_mem _ hz)
    have h2 : (tl y).length ≤ n := h y (List.mem_cons_self ..)
    rw [List.map_cons, List.sum_cons, List.length_cons, Nat.add_mul, Nat.one_mul]
    omega
theorem Sh.join_O {n m : Nat} {ys : List Str} (h : ∀ y ∈ ys, Sh n y) (hm : ys.length ≤ m) (h2 : m * n ≤ 16777216) : O1 (joinS ("" : Str) ys) (Sh (m * n)) := by
  have h1 := sh_sum h
  have h3 : ys.length * n ≤ m * n := Nat.mul_le_mul_right n hm
  have e : (tl ("" : Str)).length = 0 := by rw [tl_empty]; rfl
  refine joinS_O (by rw [e]; omega) ?_
  unfold Sh
  rw [tl_join0, List.length_flatten, List.map_map]
  exact Nat.le_trans h1 h3
theorem rangeL_length {lo : Int} {n : Nat} : (rangeL lo n).length = n := rangeL_len lo n
/-! ### == of data -/
class EqvD (α : Type) [Enc α] : Prop where
  iff : ∀ x y : α, PyData.eqv (Enc.d x) (Enc.d y) = true ↔ x = y
instance : EqvD Int := ⟨fun x y => by show (x == y) = true ↔ _; exact beq_iff_eq⟩
instance : EqvD Bool := ⟨fun x y => by show (x == y) = true ↔ _; exact beq_iff_eq⟩
instance : EqvD Str := ⟨fun x y => by show (x == y) = true ↔ _; exact beq_iff_eq⟩
instance {α : Type} [Enc α] [EqvD α] [NN α] : EqvD (Option α) := ⟨fun x y => by
  cases x with
  | none =>
    cases y with
    | none => exact ⟨fun _ => rfl, fun _ => rfl⟩
    | some y =>
      have n := NN.ne y
      refine ⟨fun h => ?_, (fun h => nomatch h)⟩
      have h' : PyData.eqv .none (Enc.d y) = true := h
      revert h' n
      generalize Enc.d y = d
      intro n h'
      cases d <;> first | exact absurd rfl n | cases h'
  | some x =>
    cases y with
    | none =>
      have n := NN.ne x
      refine ⟨fun h => ?_, (fun h => nomatch h)⟩
      have h' : PyData.eqv (Enc.d x) .none = true := h
      revert h' n
      generalize Enc.d x = d
      intro n h'
      cases d <;> first | exact absurd rfl n | cases h'
    | some y => exact ⟨fun h => congrArg some ((EqvD.iff x y).mp h), fun h => (EqvD.iff x y).mpr (Option.some.inj h)⟩⟩
theorem eqvAll_iff {α : Type} [Enc α] [EqvD α] : ∀ xs ys : List α, PyData.eqvAll (xs.map Enc.d) (ys.map Enc.d) = true ↔ xs = ys
  | [], [] => ⟨fun _ => rfl, fun _ => rfl⟩
  | [], _ :: _ => ⟨(fun h => nomatch h), (fun h => nomatch h)⟩
  | _ :: _, [] => ⟨(fun h => nomatch h), (fun h => nomatch h)⟩
  | x :: xs, y :: ys => by
    show (PyData.eqv (Enc.d x) (Enc.d y) && PyData.eqvAll (xs.map Enc.d) (ys.map Enc.d)) = true ↔ _
    rw [Bool.and_eq_true, EqvD.iff, eqvAll_iff xs ys, List.cons.injEq]
instance {α : Type} [Enc α] [EqvD α] : EqvD (List α) := ⟨fun x y => eqvAll_iff x y⟩
instance {α : Type} [Enc α] [EqvD α] : EqvD (VT α) := ⟨fun x y => by
  obtain ⟨x⟩ := x
  obtain ⟨y⟩ := y
  rw [VT.mk.injEq]
  exact eqvAll_iff x y⟩
instance {α β : Type} [Enc α] [Enc β] [EqvD α] [EqvD β] : EqvD (α × β) := ⟨fun x y => by
  obtain ⟨a, b⟩ := x
  obtain ⟨c, d⟩ := y
  show (PyData.eqv (Enc.d a) (Enc.d c) && (PyData.eqv (Enc.d b) (Enc.d d) && true)) = true ↔ _
  rw [Bool.and_true, Bool.and_eq_true, EqvD.iff, EqvD.iff, Prod.mk.injEq]⟩
instance {α β γ : Type} [Enc α] [Enc β] [Enc γ] [EqvD α] [EqvD β] [EqvD γ] : EqvD (T3 α β γ) := ⟨fun x y => by
  obtain ⟨a, b, e⟩ := x
  obtain ⟨c, d, f⟩ := y
  show (PyData.eqv (Enc.d a) (Enc.d c) && (PyData.eqv (Enc.d b) (Enc.d d) && (PyData.eqv (Enc.d e) (Enc.d f) && true))) = true ↔ _
  rw [Bool.and_true, Bool.and_eq_true, Bool.and_eq_true, EqvD.iff, EqvD.iff, EqvD.iff, T3.mk.injEq]⟩
instance {α β γ δ : Type} [Enc α] [Enc β] [Enc γ] [Enc δ] [EqvD α] [EqvD β] [EqvD γ] [EqvD δ] : EqvD (T4 α β γ δ) := ⟨fun x y => by
  obtain ⟨a, b, e, g⟩ := x
  obtain ⟨c, d, f, h⟩ := y
  show (PyData.eqv (Enc.d a) (Enc.d c) && (PyData.eqv (Enc.d b) (Enc.d d) && (PyData.eqv (Enc.d e) (Enc.d f) && (PyData.eqv (Enc.d g) (Enc.d h) && true)))) = true ↔ _
  rw [Bool.and_true, Bool.and_eq_true, Bool.and_eq_true, Bool.and_eq_true, EqvD.iff, EqvD.iff, EqvD.iff, EqvD.iff, T4.mk.injEq]⟩
theorem eqD_iff {α : Type} [Enc α] [EqvD α] {x y : α} : eqD x y = true ↔ x = y := EqvD.iff x y
theorem eqD_dec {α : Type} [Enc α] [EqvD α] [DecidableEq α] {x y : α} : eqD x y = decide (x = y) := by
  rw [Bool.eq_iff_iff, eqD_iff, decide_eq_true_iff]
theorem eqD_refl {α : Type} [Enc α] [EqvD α] (x : α) : eqD x x = true := eqD_iff.mpr rfl
theorem eqD_false {α : Type} [Enc α] [EqvD α] {x y : α} (h : x ≠ y) : eqD x y = false := Bool.eq_false_iff.mpr fun e => h (eqD_iff.mp e)
theorem alike_self {α : Type} [DecidableEq α] (x : α) : m_l_alike x x = some true := by
  unfold m_l_alike
  rw [if_pos rfl]
theorem bind2_some {α β γ : Type} {a : α} {b : β} {f : α → β → Option γ} : bind2 (some (a, b)) f = f a b := rfl
theorem notT {α : Type} {a b : α} : (if (!true) = true then a else b) = b := rfl
theorem alike_O {α : Type} [DecidableEq α] {x y : α} {P : Bool → Prop} (h : x = y) (p : P true) : O1 (m_l_alike x y) P := by
  refine ⟨true, ?_, p⟩
  unfold m_l_alike
  rw [if_pos h]
end G
/-! Plain laws: patterns, their worth, addresses written. -/
namespace G
open PySem PySem.Spec PyProof.Rows L2 TL
/-- a sign of '01' -/
def isB (c : Nat) : Bool := decide (c ∈ [48, 49])
theorem isB_iff {c : Nat} : isB c = true ↔ c = 48 ∨ c = 49 := by unfold isB; simp
theorem tl01 : tl ("01" : Str) = [48, 49] := by decide +kernel
theorem tlStar : tl ("*" : Str) = [42] := by decide +kernel
theorem tl0 : tl ("0" : Str) = [48] := by decide +kernel
theorem tl1 : tl ("1" : Str) = [49] := by decide +kernel
def Bits (bs : List Nat) : Prop := ∀ c ∈ bs, isB c = true
theorem Bits.nil : Bits [] := fun _ h => nomatch h
theorem Bits.app {a b : List Nat} (ha : Bits a) (hb : Bits b) : Bits (a ++ b) := fun c h => (List.mem_append.mp h).elim (ha c) (hb c)
theorem Bits.take {a : List Nat} (n : Nat) (ha : Bits a) : Bits (a.take n) := fun c h => ha c (List.mem_of_mem_take h)
theorem Bits.drop {a : List Nat} (n : Nat) (ha : Bits a) : Bits (a.drop n) := fun c h => ha c (List.mem_of_mem_drop h)
theorem Bits.one {c : Nat} (h : isB c = true) : Bits [c] := fun d hd => by rw [List.mem_singleton.mp hd]; exact h
theorem Bits.mem01 {c : Nat} (h : c ∈ tl ("01" : Str)) : isB c = true := by rw [tl01] at h; exact decide_eq_true h
theorem Bits.no42 {a : List Nat} (ha : Bits a) : 42 ∉ a := fun h => absurd (ha 42 h) (by decide)
/-- the pattern of w signs that bits bs make -/
def patL (w : Nat) (bs : List Nat) : List Nat := bs ++ (if bs.length < w then [42] else [])
structure Pat (w : Nat) (bs : List Nat) (x : Str) : Prop where
  bits : Bits bs
  le : bs.length ≤ w
  eq : tl x = patL w bs
theorem tl_strip (x y : Str) : tl (Txt.stripChars x y) = ((tl x).take (stripHi y.cps.contains true x (stripLo y.cps.contains true x))).drop (stripLo y.cps.contains true x) := by
  unfold Txt.stripChars
  rw [stripBy_eq]
  show (x.cps.extract _ _).toList = _
  rw [List.drop_take]
  simp [tl]
theorem tw0 {p : Nat → Bool} : ∀ l : List Nat, (∀ c, l.head? = some c → p c = false) → l.takeWhile p = []
  | [], _ => rfl
  | c :: r, h => by rw [List.takeWhile_cons, if_neg (by rw [h c rfl]; exact Bool.false_ne_true)]
theorem strip_star {x : Str} {bs st : List Nat} (e : tl x = bs ++ st) (h : 42 ∉ bs) (hs : st = [] ∨ st = [42]) : tl (Txt.stripChars x ("*" : Str)) = bs := by
  have hc : ∀ c : Nat, (("*" : Str)).cps.contains c = decide (c = 42) := fun c => by
    have e1 : (("*" : Str)).cps = #[42] := by decide +kernel
    rw [e1]
    simp [Bool.beq_eq_decide_eq]
  rw [tl_strip]
  generalize hg : (("*" : Str)).cps.contains = g at *
  have hx : x.cps.toList = bs ++ st := e
  have hlen : x.length = bs.length + st.length := by rw [len_tl, e, List.length_append]
  cases bs with
  | nil =>
    rcases hs with rfl | rfl
    · rw [e]; simp
    · have h1 : stripLo g true x = 1 := by
        unfold stripLo
        rw [if_pos rfl, hx]
        show (List.takeWhile g [42]).length = 1
        rw [List.takeWhile_cons, if_pos (by rw [hc]; decide)]
        rfl
      rw [h1, e]
      rw [List.drop_eq_nil_iff, List.length_take]
      exact Nat.min_le_right _ _
  | cons c r =>
    have hc42 : g c = false := by rw [hc]; exact decide_eq_false fun z => h (by rw [z]; exact List.mem_cons_self ..)
    have h1 : stripLo g true x = 0 := by
      unfold stripLo
      rw [if_pos rfl, hx]
      show (List.takeWhile g (c :: (r ++ st))).length = 0
      rw [List.takeWhile_cons, if_neg (by rw [hc42]; decide)]
      rfl
    have hlast : ∀ l : List Nat, 42 ∉ l → l.reverse.takeWhile g = [] := fun l hl => tw0 _ fun d hd => by
      rw [hc]
      refine decide_eq_false fun z => hl ?_
      rw [← z]
      exact List.mem_reverse.mp (List.mem_of_mem_head? hd)
    have h2 : stripHi g true x 0 = (c :: r).length := by
      unfold stripHi
      rw [if_pos rfl, hx, List.drop_zero, hlen]
      rcases hs with rfl | rfl
      · rw [List.append_nil, hlast _ h]
        simp
      · rw [List.reverse_append]
        show _ - (List.takeWhile g (42 :: (c :: r).reverse)).length = _
        rw [List.takeWhile_cons, if_pos (by rw [hc]; decide), hlast _ h]
        simp
    rw [h1, h2, e, List.drop_zero, List.take_left]
theorem part_star {x : Str} {bs st : List Nat} (e : tl x = bs ++ st) (h : 42 ∉ bs) (hs : st = [] ∨ st = [42]) : tl (partS x ("*" : Str)).a = bs := by
  have ex : x = ⟨bs.toArray⟩ ++ (⟨st.toArray⟩ : Str) := tl_inj (by rw [tl_append, e])
  have hb : 42 ∉ tl (⟨bs.toArray⟩ : Str) := by simpa [tl] using h
  rcases hs with rfl | rfl
  · have e2 : x = ⟨bs.toArray⟩ := tl_inj (by rw [e]; simp [tl])
    show tl (Txt.partition x ("*" : Str)).1 = bs
    rw [e2, TL.partition_none tlStar hb]
  · have e2 : x = (⟨bs.toArray⟩ : Str) ++ ("*" : Str) ++ Str.empty := tl_inj (by rw [tl_append, tl_append, tlStar, e]; simp [tl, Str.empty])
    show tl (Txt.partition x ("*" : Str)).1 = bs
    rw [e2, TL.partition_app tlStar hb]
theorem Pat.strip {w : Nat} {bs : List Nat} {x : Str} (p : Pat w bs x) : tl (Txt.stripChars x ("*" : Str)) = bs := by
  refine strip_star (st := if bs.length < w then [42] else []) p.eq p.bits.no42 ?_
  split
  · exact .inr rfl
  · exact .inl rfl
theorem Pat.part {w : Nat} {bs : List Nat} {x : Str} (p : Pat w bs x) : tl (partS x ("*" : Str)).a = bs := by
  refine part_star (st := if bs.length < w then [42] else []) p.eq p.bits.no42 ?_
  split
  · exact .inr rfl
  · exact .inl rfl
theorem Pat.len {w : Nat} {bs : List Nat} {x : Str} (p : Pat w bs x) : (tl x).length ≤ w := by
  rw [p.eq, patL, List.length_append]
  have := p.le
  split
  · simp; omega
  · simp; omega
/-! ### worth -/
def wr (bs : List Nat) : Nat := bs.foldl (fun n c => 2 * n + (if c = 49 then 1 else 0)) 0
theorem wr_from (bs : List Nat) : ∀ a : Nat, bs.foldl (fun n c => 2 * n + (if c = 49 then 1 else 0)) a = a * 2 ^ bs.length + wr bs := by
  induction bs with
  | nil => intro a; simp [wr]
  | cons c bs ih =>
    intro a
    have h0 := ih (2 * 0 + (if c = 49 then 1 else 0))
    show List.foldl _ (2 * a + (if c = 49 then 1 else 0)) bs = _
    rw [ih]
    have h1 : wr (c :: bs) = (2 * 0 + (if c = 49 then 1 else 0)) * 2 ^ bs.length + wr bs := h0
    rw [h1, List.length_cons, Nat.pow_succ]
    generalize (if c = 49 then 1 else 0) = d
    generalize 2 ^ bs.length = p
    rw [Nat.add_mul, Nat.mul_zero, Nat.zero_add, Nat.add_assoc, Nat.mul_comm 2 a, Nat.mul_assoc, Nat.mul_comm 2 p]
theorem wr_app (a b : List Nat) : wr (a ++ b) = wr a * 2 ^ b.length + wr b := by
  unfold wr
  rw [List.foldl_append]
  exact wr_from b _
theorem wr_cons (c : Nat) (b : List Nat) : wr (c :: b) = (if c = 49 then 1 else 0) * 2 ^ b.length + wr b := by
  have := wr_app [c] b
  rw [List.singleton_append] at this
  rw [this]
  congr 2
  simp [wr]
theorem wr_snoc (a : List Nat) (c : Nat) : wr (a ++ [c]) = 2 * wr a + (if c = 49 then 1 else 0) := by
  unfold wr
  rw [List.foldl_append]
  rfl
theorem wr_lt : ∀ bs : List Nat, wr bs < 2 ^ bs.length
  | [] => by decide
  | c :: bs => by
    have := wr_lt bs
    rw [wr_cons, List.length_cons, Nat.pow_succ]
    split <;> omega
theorem wr_zeros (k : Nat) : wr (List.replicate k 48) = 0 := by
  induction k with
  | zero => rfl
  | succ k ih => rw [List.replicate_succ, wr_cons, ih]; simp
theorem wr_ones (k : Nat) : wr (List.replicate k 49) + 1 = 2 ^ k := by
  induction k with
  | zero => rfl
  | succ k ih =>
    rw [List.replicate_succ, wr_cons, List.length_replicate, Nat.pow_succ, if_pos rfl]
    omega
theorem wr_inj : ∀ {a b : List Nat}, Bits a → Bits b → a.length = b.length → wr a = wr b → a = b
  | [], [], _, _, _, _ => rfl
  | [], _ :: _, _, _, h, _ => nomatch h
  | _ :: _, [], _, _, h, _ => nomatch h
  | c :: a, d :: b, ha, hb, h, e => by
    have hl : a.length = b.length := Nat.succ.inj h
    rw [wr_cons, wr_cons, hl] at e
    have h1 := wr_lt a
    have h2 := wr_lt b
    rw [hl] at h1
    have hc := isB_iff.mp (ha c (List.mem_cons_self ..))
    have hd := isB_iff.mp (hb d (List.mem_cons_self ..))
    have he : c = d ∧ wr a = wr b := by
      rcases hc with rfl | rfl <;> rcases hd with rfl | rfl <;> simp at e ⊢ <;> omega
    rw [he.1, wr_inj (fun x hx => ha x (List.mem_cons_of_mem _ hx)) (fun x hx => hb x (List.mem_cons_of_mem _ hx)) hl he.2]
theorem toI_sgn1 (c : Nat) : toI (eqS (sgn c) ("1" : Str)) = ((if c = 49 then 1 else 0 : Nat) : Int) := by
  rw [eqS_tl, tl_sgn, tl1]
  by_cases h : c = 49
  · subst h; rfl
  · rw [decide_eq_false (fun e => h (List.cons.inj e).1), if_neg h]; rfl
theorem log2_lt64 {a : Nat} (h : a < 2 ^ 64) : a.log2 < 64 := by
  by_cases h0 : a = 0
  · subst h0; decide
  · exact (Nat.log2_lt h0).mpr h
theorem mulI_nat {a b : Nat} (ha : a < 2 ^ 64) (hb : b < 2 ^ 64) : mulI (a : Int) (b : Int) = some ((a * b : Nat) : Int) := by
  unfold mulI
  have h1 := log2_lt64 ha
  have h2 := log2_lt64 hb
  rw [if_pos (by rw [Int.natAbs_natCast, Int.natAbs_natCast]; omega)]
  rfl
theorem shlI_one {k : Nat} (h : k ≤ 1000000) : shlI 1 (k : Int) = some ((2 ^ k : Nat) : Int) := by
  unfold shlI
  rw [if_pos ⟨by omega, by omega, by decide⟩, Int.one_mul, Int.toNat_natCast]
  simp
theorem shrI_nat {n k : Nat} : shrI (n : Int) (k : Int) = some ((n / 2 ^ k : Nat) : Int) := by
  unfold shrI
  rw [if_pos (by omega), Int.toNat_natCast]
  simp
theorem and_one (n : Nat) : Builtin.bitAnd (n : Int) 1 = ((n % 2 : Nat) : Int) := by
  have := Bits.bitAnd_mask (x := (n : Int)) 1 (by omega)
  rw [show ((2 : Int) ^ 1 - 1) = 1 by decide] at this
  rw [this]
  simp
theorem pow_lt64 {k : Nat} (h : k < 64) : 2 ^ k < 2 ^ 64 := Nat.pow_lt_pow_right (by decide) h
/-! ### an address written with w signs -/
def bin : Nat → Nat → List Nat
  | 0, _ => []
  | w + 1, n => bin w (n / 2) ++ [48 + n % 2]
theorem bin_len : ∀ w n : Nat, (bin w n).length = w
  | 0, _ => rfl
  | w + 1, n => by rw [bin, List.length_append, bin_len w]; rfl
theorem bin_bits : ∀ w n : Nat, Bits (bin w n)
  | 0, _ => Bits.nil
  | w + 1, n => (bin_bits w _).app (Bits.one (isB_iff.mpr (by have := Nat.mod_two_eq_zero_or_one n; omega)))
theorem wr_bin : ∀ w n : Nat, wr (bin w n) = n % 2 ^ w
  | 0, n => by rw [Nat.pow_zero, Nat.mod_one]; rfl
  | w + 1, n => by
    rw [bin, wr_snoc, wr_bin w, Nat.pow_succ, Nat.mul_comm (2 ^ w) 2, Nat.mod_mul]
    have : (if 48 + n % 2 = 49 then 1 else 0) = n % 2 := by
      have := Nat.mod_two_eq_zero_or_one n
      split <;> omega
    rw [this]
    omega
theorem bin_take : ∀ (k j n : Nat), (bin (k + j) n).take k = bin k (n / 2 ^ j)
  | k, 0, n => by
    rw [Nat.add_zero, Nat.pow_zero, Nat.div_one]
    exact List.take_of_length_le (by rw [bin_len]; exact Nat.le_refl _)
  | k, j + 1, n => by
    show (bin (k + j) (n / 2) ++ [48 + n % 2]).take k = _
    rw [List.take_append_of_le_length (by rw [bin_len]; omega), bin_take k j, Nat.div_div_eq_div_mul, Nat.pow_succ, Nat.mul_comm 2]
theorem bin_top : ∀ k n : Nat, bin (k + 1) n = (48 + n / 2 ^ k % 2) :: bin k n
  | 0, n => by rw [Nat.pow_zero, Nat.div_one]; rfl
  | k + 1, n => by
    rw [bin, bin_top k (n / 2), Nat.div_div_eq_div_mul, Nat.mul_comm 2, ← Nat.pow_succ]
    rfl
theorem code01 {d : Nat} (h : d < 2) : codeAt ("01" : Str) (d : Nat) = some (48 + d) := by
  have : d = 0 ∨ d = 1 := by omega
  rcases this with rfl | rfl
  · exact atI_nat (by rw [tl01]; rfl)
  · exact atI_nat (by rw [tl01]; rfl)
end G
namespace G
open PySem PySem.Spec PyProof.Rows L2 TL
/-! ### addresses that spans have within a block -/
def cn1 (s : Int × Int) (a e : Int) : Int := max 0 (min e s.2 - max a s.1)
def ct (S : List (Int × Int)) (a e : Int) : Int := (S.map fun s => cn1 s a e).sum
theorem ct_nil (a e : Int) : ct [] a e = 0 := rfl
theorem ct_cons (s : Int × Int) (S : List (Int × Int)) (a e : Int) : ct (s :: S) a e = cn1 s a e + ct S a e := by unfold ct; rw [List.map_cons, List.sum_cons]
theorem ct_app (S T : List (Int × Int)) (a e : Int) : ct (S ++ T) a e = ct S a e + ct T a e := by
  induction S with
  | nil => rw [List.nil_append, ct_nil]; omega
  | cons s S ih => rw [List.cons_append, ct_cons, ct_cons, ih]; omega
theorem cn1_nn (s : Int × Int) (a e : Int) : 0 ≤ cn1 s a e := by unfold cn1; omega
theorem ct_nn (S : List (Int × Int)) (a e : Int) : 0 ≤ ct S a e := by
  induction S with
  | nil => exact Int.le_refl _
  | cons s S ih => rw [ct_cons]; have := cn1_nn s a e; omega
theorem cn1_cut {s : Int × Int} {a m e : Int} (h1 : a ≤ m) (h2 : m ≤ e) : cn1 s a e = cn1 s a m + cn1 s m e ∨ s.2 ≤ s.1 := by
  unfold cn1
  omega
/-- rising spans, that may touch -/
def Rise (S : List (Int × Int)) : Prop := (∀ s ∈ S, s.1 < s.2) ∧ S.Pairwise fun s t => s.2 ≤ t.1
/-- rising spans with gaps -/
def Gaps (S : List (Int × Int)) : Prop := (∀ s ∈ S, s.1 < s.2) ∧ S.Pairwise fun s t => s.2 < t.1
theorem Gaps.rise {S : List (Int × Int)} (h : Gaps S) : Rise S := ⟨h.1, h.2.imp fun h => Int.le_of_lt h⟩
theorem Rise.tail {s : Int × Int} {S : List (Int × Int)} (h : Rise (s :: S)) : Rise S := ⟨fun t ht => h.1 t (List.mem_cons_of_mem _ ht), (List.pairwise_cons.mp h.2).2⟩
theorem Gaps.tail {s : Int × Int} {S : List (Int × Int)} (h : Gaps (s :: S)) : Gaps S := ⟨fun t ht => h.1 t (List.mem_cons_of_mem _ ht), (List.pairwise_cons.mp h.2).2⟩
theorem ct_cut {S : List (Int × Int)} (h : Rise S) {a m e : Int} (h1 : a ≤ m) (h2 : m ≤ e) : ct S a e = ct S a m + ct S m e := by
  induction S with
  | nil => rfl
  | cons s S ih =>
    rw [ct_cons, ct_cons, ct_cons, ih h.tail]
    have := h.1 s (List.mem_cons_self ..)
    rcases cn1_cut (s := s) h1 h2 with e | e <;> omega
/-- what stands behind k alone has at most what is behind k -/
theorem ct_from {S : List (Int × Int)} (h : Rise S) {k a e : Int} (hk : ∀ s ∈ S, k ≤ s.1) : ct S a e ≤ max 0 (e - max a k) := by
  induction S generalizing k with
  | nil => rw [ct_nil]; omega
  | cons s S ih =>
    rw [ct_cons]
    have h1 := h.1 s (List.mem_cons_self ..)
    have h2 := hk s (List.mem_cons_self ..)
    have h3 := ih h.tail (k := s.2) fun t ht => (List.pairwise_cons.mp h.2).1 t ht
    unfold cn1
    omega
theorem ct_le {S : List (Int × Int)} (h : Rise S) {a e : Int} (hae : a ≤ e) : ct S a e ≤ e - a := by
  cases S with
  | nil => rw [ct_nil]; omega
  | cons s S =>
    have h3 := ct_from h.tail (k := s.2) (a := a) (e := e) fun t ht => (List.pairwise_cons.mp h.2).1 t ht
    have h1 := h.1 s (List.mem_cons_self ..)
    rw [ct_cons]
    unfold cn1
    omega
/-- a block that is had whole is had by one, where there are gaps -/
theorem ct_full {S : List (Int × Int)} (h : Gaps S) {a e : Int} (hae : a < e) (hc : ct S a e = e - a) : ∃ A s B, S = A ++ s :: B ∧ s.1 ≤ a ∧ e ≤ s.2 ∧ (∀ t ∈ A, cn1 t a e = 0) ∧ (∀ t ∈ B, cn1 t a e = 0) := by
  induction S with
  | nil => rw [ct_nil] at hc; omega
  | cons s S ih =>
    rw [ct_cons] at hc
    have h1 := h.1 s (List.mem_cons_self ..)
    have hp := (List.pairwise_cons.mp h.2).1
    by_cases hz : cn1 s a e = 0
    · obtain ⟨A, t, B, rfl, k1, k2, k3, k4⟩ := ih h.tail (by omega)
      refine ⟨s :: A, t, B, rfl, k1, k2, fun u hu => ?_, k4⟩
      rcases List.mem_cons.mp hu with rfl | hu
      · exact hz
      · exact k3 u hu
    · have h3 := ct_from h.tail.rise (k := s.2 + 1) (a := a) (e := e) fun t ht => hp t ht
      have hb : s.1 ≤ a ∧ e ≤ s.2 := by unfold cn1 at hz hc; omega
      refine ⟨[], s, S, rfl, hb.1, hb.2, (fun t ht => absurd ht (List.not_mem_nil)), fun t ht => ?_⟩
      have := hp t ht
      unfold cn1
      omega
def ends1 (s : Int × Int) (a e : Int) : Nat := (if a < s.1 ∧ s.1 < e then 1 else 0) + (if a < s.2 ∧ s.2 < e then 1 else 0)
def ends (S : List (Int × Int)) (a e : Int) : Nat := (S.map fun s => ends1 s a e).sum
theorem ends_cons (s : Int × Int) (S : List (Int × Int)) (a e : Int) : ends (s :: S) a e = ends1 s a e + ends S a e := by unfold ends; rw [List.map_cons, List.sum_cons]
theorem ends_le (S : List (Int × Int)) (a e : Int) : ends S a e ≤ 2 * S.length := by
  induction S with
  | nil => exact Nat.le_refl _
  | cons s S ih =>
    rw [ends_cons, List.length_cons]
    have : ends1 s a e ≤ 2 := by unfold ends1; split <;> split <;> omega
    omega
theorem ends_cut (S : List (Int × Int)) {a m e : Int} (h1 : a ≤ m) (h2 : m ≤ e) : ends S a m + ends S m e ≤ ends S a e := by
  induction S with
  | nil => exact Nat.le_refl _
  | cons s S ih =>
    rw [ends_cons, ends_cons, ends_cons]
    have : ends1 s a m + ends1 s m e ≤ ends1 s a e := by
      unfold ends1
      repeat' split
      all_goals omega
    omega
theorem ends_zero {S : List (Int × Int)} (h : Rise S) {a e : Int} (hae : a < e) (hz : ends S a e = 0) : ct S a e = 0 ∨ ct S a e = e - a := by
  induction S with
  | nil => exact .inl rfl
  | cons s S ih =>
    rw [ends_cons] at hz
    have hl := ct_le h (Int.le_of_lt hae)
    rw [ct_cons] at hl ⊢
    have h1 := h.1 s (List.mem_cons_self ..)
    have h0 : ends1 s a e = 0 := by omega
    have hs : cn1 s a e = 0 ∨ cn1 s a e = e - a := by
      unfold ends1 at h0
      unfold cn1
      split at h0 <;> split at h0 <;> omega
    have hn := ct_nn S a e
    rcases ih h.tail (by omega) with e1 | e1 <;> rcases hs with e2 | e2 <;> omega
/-! ### the leaves -/
abbrev H2 (j : Nat) : Int := ((2 ^ j : Nat) : Int)
theorem H2_succ (j : Nat) : H2 (j + 1) = 2 * H2 j := by show ((2 ^ (j + 1) : Nat) : Int) = 2 * ((2 ^ j : Nat) : Int); rw [Nat.pow_succ]; omega
theorem H2_pos (j : Nat) : 0 < H2 j := Int.ofNat_lt.mpr (Nat.two_pow_pos j)
theorem H2_zero : H2 0 = 1 := rfl
def can (S : List (Int × Int)) : Nat → Int → List Nat → List (List Nat)
  | 0, a, bs => if ct S a (a + H2 0) = 0 then [] else [bs]
  | j + 1, a, bs => if ct S a (a + H2 (j + 1)) = 0 then [] else if ct S a (a + H2 (j + 1)) = H2 (j + 1) then [bs ++ [42]] else can S j a (bs ++ [48]) ++ can S j (a + H2 j) (bs ++ [49])
/-- a leaf as it is written -/
def leaf (j : Nat) (bs : List Nat) : List Nat := if j = 0 then bs else bs ++ [42]
theorem can_none {S : List (Int × Int)} {j : Nat} {a : Int} {bs : List Nat} (h : ct S a (a + H2 j) = 0) : can S j a bs = [] := by
  cases j <;> (unfold can; rw [if_pos h])
theorem can_full {S : List (Int × Int)} {j : Nat} {a : Int} {bs : List Nat} (h : ct S a (a + H2 j) = H2 j) : can S j a bs = [leaf j bs] := by
  have := H2_pos j
  cases j with
  | zero => unfold can; rw [if_neg (by omega)]; rfl
  | succ j => unfold can; rw [if_neg (by omega), if_pos h]; rfl
theorem can_part {S : List (Int × Int)} {j : Nat} {a : Int} {bs : List Nat} (h1 : ct S a (a + H2 (j + 1)) ≠ 0) (h2 : ct S a (a + H2 (j + 1)) ≠ H2 (j + 1)) : can S (j + 1) a bs = can S j a (bs ++ [48]) ++ can S j (a + H2 j) (bs ++ [49]) := by
  conv => lhs; unfold can
  rw [if_neg h1, if_neg h2]
theorem can_len {S : List (Int × Int)} (h : Rise S) : ∀ (j : Nat) (a : Int) (bs : List Nat), (can S j a bs).length ≤ 1 + j * ends S a (a + H2 j)
  | 0, a, bs => by
    unfold can
    split
    · exact Nat.zero_le _
    · exact Nat.le_add_right _ _
  | j + 1, a, bs => by
    have hp := H2_pos (j + 1)
    have hj := H2_pos j
    have hs := H2_succ j
    by_cases h0 : ct S a (a + H2 (j + 1)) = 0
    · rw [can_none h0]; exact Nat.zero_le _
    · by_cases h1 : ct S a (a + H2 (j + 1)) = H2 (j + 1)
      · rw [can_full h1]; exact Nat.le_add_right _ _
      · rw [can_part h0 h1, List.length_append]
        have l := can_len h j a (bs ++ [48])
        have r := can_len h j (a + H2 j) (bs ++ [49])
        have he : a + H2 j + H2 j = a + H2 (j + 1) := by omega
        rw [he] at r
        have hc := ends_cut S (a := a) (m := a + H2 j) (e := a + H2 (j + 1)) (by omega) (by omega)
        have hz : ends S a (a + H2 (j + 1)) ≠ 0 := fun e => by
          rcases ends_zero h (by omega) e with e | e <;> omega
        generalize ends S a (a + H2 (j + 1)) = x at *
        generalize ends S a (a + H2 j) = y at *
        generalize ends S (a + H2 j) (a + H2 (j + 1)) = z at *
        have : j * y + j * z ≤ j * x := by rw [← Nat.mul_add]; exact Nat.mul_le_mul_left _ hc
        have : (j + 1) * x = j * x + x := Nat.succ_mul j x
        omega
theorem can_congr {S T : List (Int × Int)} : ∀ (j : Nat) (a : Int) (bs : List Nat), (∀ f b, a ≤ f → b ≤ a + H2 j → ct S f b = ct T f b) → can S j a bs = can T j a bs
  | 0, a, bs, h => by
    unfold can
    rw [h a (a + H2 0) (Int.le_refl _) (Int.le_refl _)]
  | j + 1, a, bs, h => by
    have hj := H2_pos j
    have hs := H2_succ j
    unfold can
    rw [h a _ (Int.le_refl _) (Int.le_refl _), can_congr j a _ fun f b h1 h2 => h f b h1 (by omega), can_congr j (a + H2 j) _ fun f b h1 h2 => h f b (by omega) (by omega)]
theorem flat_nil {α β : Type} {f : α → List β} : ∀ {l : List α}, (∀ x ∈ l, f x = []) → l.flatMap f = []
  | [], _ => rfl
  | x :: l, h => by rw [List.flatMap_cons, h x (List.mem_cons_self ..), flat_nil fun y hy => h y (List.mem_cons_of_mem _ hy)]; rfl
theorem ct_zero {S : List (Int × Int)} {a e : Int} : ct S a e = 0 ↔ ∀ s ∈ S, cn1 s a e = 0 := by
  induction S with
  | nil => exact ⟨fun _ t h => absurd h (List.not_mem_nil), fun _ => rfl⟩
  | cons s S ih =>
    rw [ct_cons]
    have h1 := cn1_nn s a e
    have h2 := ct_nn S a e
    constructor
    · intro h t ht
      rcases List.mem_cons.mp ht with rfl | ht
      · omega
      · exact ih.mp (by omega) t ht
    · intro h
      have h3 := h s (List.mem_cons_self ..)
      have h4 := ih.mpr fun t ht => h t (List.mem_cons_of_mem _ ht)
      omega
theorem ct_one (s : Int × Int) (a e : Int) : ct [s] a e = cn1 s a e := by rw [ct_cons, ct_nil]; omega
/-- the leaves of spans with gaps are those of each -/
theorem can_each {S : List (Int × Int)} (h : Gaps S) : ∀ (j : Nat) (a : Int) (bs : List Nat), can S j a bs = S.flatMap fun s => can [s] j a bs := fun j => by
  induction j with
  | zero =>
    intro a bs
    by_cases h0 : ct S a (a + H2 0) = 0
    · rw [can_none h0, flat_nil fun s hs => can_none (by rw [ct_one]; exact ct_zero.mp h0 s hs)]
    · have hl := ct_le h.rise (a := a) (e := a + H2 0) (by rw [H2_zero]; omega)
      have hn := ct_nn S a (a + H2 0)
      exact full h 0 a bs (by rw [H2_zero] at *; omega)
  | succ j ih =>
    intro a bs
    have hj := H2_pos j
    have hs := H2_succ j
    by_cases h0 : ct S a (a + H2 (j + 1)) = 0
    · rw [can_none h0, flat_nil fun s hs => can_none (by rw [ct_one]; exact ct_zero.mp h0 s hs)]
    · by_cases h1 : ct S a (a + H2 (j + 1)) = H2 (j + 1)
      · exact full h (j + 1) a bs h1
      · rw [can_part h0 h1, ih, ih]
        have e1 : S.flatMap (fun s => can [s] (j + 1) a bs) = S.flatMap fun s => can [s] j a (bs ++ [48]) ++ can [s] j (a + H2 j) (bs ++ [49]) := by
          have hle : ∀ T : List (Int × Int), (∀ t ∈ T, t.1 < t.2) → ct T a (a + H2 (j + 1)) < H2 (j + 1) → (T.flatMap fun s => can [s] (j + 1) a bs) = T.flatMap fun s => can [s] j a (bs ++ [48]) ++ can [s] j (a + H2 j) (bs ++ [49]) := fun T => by
            induction T with
            | nil => exact fun _ _ => rfl
            | cons t T ihT =>
              intro ht hc
              rw [ct_cons] at hc
              have n1 := cn1_nn t a (a + H2 (j + 1))
              have n2 := ct_nn T a (a + H2 (j + 1))
              rw [List.flatMap_cons, List.flatMap_cons, ihT (fun u hu => ht u (List.mem_cons_of_mem _ hu)) (by omega)]
              congr 1
              have ht1 := ht t (List.mem_cons_self ..)
              by_cases hz : ct [t] a (a + H2 (j + 1)) = 0
              · rw [can_none hz]
                have hcut := ct_cut (S := [t]) ⟨fun u hu => by rw [List.mem_singleton.mp hu]; exact ht1, List.pairwise_singleton _ _⟩ (a := a) (m := a + H2 j) (e := a + H2 (j + 1)) (by omega) (by omega)
                have m1 := ct_nn [t] a (a + H2 j)
                have m2 := ct_nn [t] (a + H2 j) (a + H2 (j + 1))
                have he : a + H2 j + H2 j = a + H2 (j + 1) := by omega
                rw [can_none (by omega : ct [t] a (a + H2 j) = 0), can_none (by rw [he]; omega)]
                rfl
              · exact can_part hz (by rw [ct_one]; omega)
          have hl := ct_le h.rise (a := a) (e := a + H2 (j + 1)) (by omega)
          exact hle S h.1 (by omega)
        rw [e1]
        exact (inter h (m := a + H2 j) (L := fun s => can [s] j a (bs ++ [48])) (R := fun s => can [s] j (a + H2 j) (bs ++ [49])) (fun s hs => can_none (by rw [ct_one]; unfold cn1; omega)) (fun s hs => can_none (by rw [ct_one]; unfold cn1; omega)))
where
  full {S : List (Int × Int)} (h : Gaps S) (j : Nat) (a : Int) (bs : List Nat) (h1 : ct S a (a + H2 j) = H2 j) : can S j a bs = S.flatMap fun s => can [s] j a bs := by
    have hj := H2_pos j
    obtain ⟨A, s, B, rfl, k1, k2, k3, k4⟩ := ct_full h (a := a) (e := a + H2 j) (by omega) (by omega)
    rw [can_full h1, List.flatMap_append, List.flatMap_cons, flat_nil fun t ht => can_none (by rw [ct_one]; exact k3 t ht), flat_nil fun t ht => can_none (by rw [ct_one]; exact k4 t ht), can_full (by rw [ct_one]; unfold cn1; omega)]
    rfl
  inter {S : List (Int × Int)} {m : Int} {L R : Int × Int → List (List Nat)} (h : Gaps S) (hL : ∀ s, m ≤ s.1 → L s = []) (hR : ∀ s, s.2 ≤ m → R s = []) : S.flatMap L ++ S.flatMap R = S.flatMap fun s => L s ++ R s := by
    induction S with
    | nil => rfl
    | cons s S ih =>
      rw [List.flatMap_cons, List.flatMap_cons, List.flatMap_cons, ← ih h.tail]
      by_cases hs : s.2 ≤ m
      · rw [hR s hs]; simp
      · have : S.flatMap L = [] := flat_nil fun t ht => hL t (by have := (List.pairwise_cons.mp h.2).1 t ht; omega)
        rw [this]; simp
end G
namespace G
open PySem PySem.Spec PyProof.Rows L2 TL
/-! ### the address at which a block begins -/
abbrev beg (bs : List Nat) (j : Nat) : Int := ((wr bs * 2 ^ j : Nat) : Int)
theorem beg0 (bs : List Nat) (j : Nat) : beg (bs ++ [48]) j = beg bs (j + 1) := by
  unfold beg
  rw [wr_snoc, if_neg (by decide), Nat.pow_succ, Nat.add_zero, Nat.mul_comm 2, Nat.mul_assoc, Nat.mul_comm 2]
theorem beg1 (bs : List Nat) (j : Nat) : beg (bs ++ [49]) j = beg bs (j + 1) + H2 j := by
  unfold beg
  rw [wr_snoc, if_pos rfl, Nat.pow_succ, Nat.add_mul, Nat.one_mul, Nat.mul_comm 2, Nat.mul_assoc, Nat.mul_comm 2, Int.natCast_add]
theorem beg_nil (j : Nat) : beg [] j = 0 := by unfold beg; rw [show wr [] = 0 from rfl, Nat.zero_mul]; rfl
/-! ### the leaves without their stars -/
def canB (S : List (Int × Int)) : Nat → Int → List Nat → List (List Nat)
  | 0, a, bs => if ct S a (a + H2 0) = 0 then [] else [bs]
  | j + 1, a, bs => if ct S a (a + H2 (j + 1)) = 0 then [] else if ct S a (a + H2 (j + 1)) = H2 (j + 1) then [bs] else canB S j a (bs ++ [48]) ++ canB S j (a + H2 j) (bs ++ [49])
theorem canB_none {S : List (Int × Int)} {j : Nat} {a : Int} {bs : List Nat} (h : ct S a (a + H2 j) = 0) : canB S j a bs = [] := by
  cases j <;> (unfold canB; rw [if_pos h])
theorem canB_full {S : List (Int × Int)} {j : Nat} {a : Int} {bs : List Nat} (h : ct S a (a + H2 j) = H2 j) : canB S j a bs = [bs] := by
  have := H2_pos j
  cases j with
  | zero => unfold canB; rw [if_neg (by omega)]
  | succ j => unfold canB; rw [if_neg (by omega), if_pos h]
theorem canB_part {S : List (Int × Int)} {j : Nat} {a : Int} {bs : List Nat} (h1 : ct S a (a + H2 (j + 1)) ≠ 0) (h2 : ct S a (a + H2 (j + 1)) ≠ H2 (j + 1)) : canB S (j + 1) a bs = canB S j a (bs ++ [48]) ++ canB S j (a + H2 j) (bs ++ [49]) := by
  conv => lhs; unfold canB
  rw [if_neg h1, if_neg h2]
/-- which of the three -/
theorem can_cases {S : List (Int × Int)} (h : Rise S) {P : Nat → Int → List Nat → Prop} (j : Nat) (a : Int) (bs : List Nat)
    (h0 : ∀ j a bs, ct S a (a + H2 j) = 0 → P j a bs) (h1 : ∀ j a bs, ct S a (a + H2 j) = H2 j → P j a bs)
    (h2 : ∀ j a bs, ct S a (a + H2 (j + 1)) ≠ 0 → ct S a (a + H2 (j + 1)) ≠ H2 (j + 1) → P j a (bs ++ [48]) → P j (a + H2 j) (bs ++ [49]) → P (j + 1) a bs) : P j a bs := by
  induction j generalizing a bs with
  | zero =>
    by_cases e : ct S a (a + H2 0) = 0
    · exact h0 _ _ _ e
    · have l := ct_le h (a := a) (e := a + H2 0) (by rw [H2_zero]; omega)
      have n := ct_nn S a (a + H2 0)
      exact h1 _ _ _ (by have := H2_zero; omega)
  | succ j ih =>
    by_cases e : ct S a (a + H2 (j + 1)) = 0
    · exact h0 _ _ _ e
    · by_cases e2 : ct S a (a + H2 (j + 1)) = H2 (j + 1)
      · exact h1 _ _ _ e2
      · exact h2 _ _ _ e e2 (ih _ _) (ih _ _)
theorem patL_leaf {w j : Nat} {bs : List Nat} (h : bs.length + j = w) : patL w bs = leaf j bs := by
  unfold patL leaf
  by_cases e : j = 0
  · rw [if_neg (by omega), if_pos e, List.append_nil]
  · rw [if_pos (by omega), if_neg e]
theorem can_canB {S : List (Int × Int)} (h : Rise S) {w : Nat} (j : Nat) (a : Int) (bs : List Nat) : bs.length + j = w → can S j a bs = (canB S j a bs).map (patL w) :=
  can_cases h (P := fun j a bs => bs.length + j = w → can S j a bs = (canB S j a bs).map (patL w)) j a bs
    (fun j a bs e _ => by rw [can_none e, canB_none e]; rfl)
    (fun j a bs e hl => by rw [can_full e, canB_full e, List.map_cons, patL_leaf hl]; rfl)
    (fun j a bs e1 e2 i1 i2 hl => by
      rw [can_part e1 e2, canB_part e1 e2, List.map_append, i1 (by rw [List.length_append]; show _ + 1 + _ = _; omega), i2 (by rw [List.length_append]; show _ + 1 + _ = _; omega)])
theorem canB_pre {S : List (Int × Int)} (h : Rise S) (j : Nat) (a : Int) (bs : List Nat) : ∀ x ∈ canB S j a bs, ∃ u, x = bs ++ u ∧ u.length ≤ j ∧ Bits u ∧ (u = [] → ct S a (a + H2 j) = H2 j) :=
  can_cases h (P := fun j a bs => ∀ x ∈ canB S j a bs, ∃ u, x = bs ++ u ∧ u.length ≤ j ∧ Bits u ∧ (u = [] → ct S a (a + H2 j) = H2 j)) j a bs
    (fun j a bs e x hx => by rw [canB_none e] at hx; exact (List.not_mem_nil hx).elim)
    (fun j a bs e x hx => by
      rw [canB_full e] at hx
      rw [List.mem_singleton.mp hx]
      exact ⟨[], (List.append_nil _).symm, Nat.zero_le _, Bits.nil, fun _ => e⟩)
    (fun j a bs e1 e2 i1 i2 x hx => by
      rw [canB_part e1 e2] at hx
      rcases List.mem_append.mp hx with hx | hx
      · obtain ⟨u, rfl, hl, hb, _⟩ := i1 x hx
        exact ⟨48 :: u, by simp, Nat.succ_le_succ hl, (Bits.one (by decide)).app hb, fun z => nomatch z⟩
      · obtain ⟨u, rfl, hl, hb, _⟩ := i2 x hx
        exact ⟨49 :: u, by simp, Nat.succ_le_succ hl, (Bits.one (by decide)).app hb, fun z => nomatch z⟩)
/-- not the two halves of one -/
def NoSib (x y : List Nat) : Prop := ¬ (x.length = y.length ∧ x.dropLast = y.dropLast)
theorem canB_sib {S : List (Int × Int)} (h : Rise S) (j : Nat) (a : Int) (bs : List Nat) : (canB S j a bs).Pairwise NoSib :=
  can_cases h (P := fun j a bs => (canB S j a bs).Pairwise NoSib) j a bs
    (fun j a bs e => by rw [canB_none e]; exact List.Pairwise.nil)
    (fun j a bs e => by rw [canB_full e]; exact List.pairwise_singleton _ _)
    (fun j a bs e1 e2 i1 i2 => by
      rw [canB_part e1 e2]
      refine List.pairwise_append.mpr ⟨i1, i2, fun x hx y hy => ?_⟩
      obtain ⟨u, rfl, hl, _, hu⟩ := canB_pre h _ _ _ x hx
      obtain ⟨v, rfl, hl2, _, hv⟩ := canB_pre h _ _ _ y hy
      rintro ⟨z1, z2⟩
      have hlen : u.length = v.length := by simp at z1; exact z1
      cases u with
      | nil =>
        cases v with
        | nil =>
          have a1 := hu rfl
          have a2 := hv rfl
          have hj := H2_pos j
          have hs := H2_succ j
          have hc := ct_cut h (a := a) (m := a + H2 j) (e := a + H2 (j + 1)) (by omega) (by omega)
          rw [show a + H2 j + H2 j = a + H2 (j + 1) by omega] at a2
          omega
        | cons _ _ => simp at hlen
      | cons c u =>
        cases v with
        | nil => simp at hlen
        | cons d v =>
          rw [List.append_assoc, List.append_assoc, List.dropLast_append_of_ne_nil (by simp), List.dropLast_append_of_ne_nil (by simp), List.dropLast_append_of_ne_nil (by simp)] at z2
          have := List.append_cancel_left z2
          simp at this)
/-! ### the spans of leaves -/
def spB (w : Nat) (x : List Nat) : Int × Int := (beg x (w - x.length), beg x (w - x.length) + H2 (w - x.length))
theorem spB_at {w j : Nat} {bs : List Nat} (h : bs.length + j = w) : spB w bs = (beg bs j, beg bs j + H2 j) := by
  unfold spB
  rw [show w - bs.length = j by omega]
theorem ct_sub {S : List (Int × Int)} (h : Rise S) {a e x y : Int} (h1 : a ≤ x) (h2 : x ≤ y) (h3 : y ≤ e) : ct S a e = ct S a x + ct S x y + ct S y e := by
  rw [ct_cut h (a := a) (m := x) (e := e) h1 (by omega), ct_cut h (a := x) (m := y) (e := e) h2 h3]
  omega
theorem ct_rev {S : List (Int × Int)} {x y : Int} (h : y ≤ x) : ct S x y = 0 := ct_zero.mpr fun s _ => by unfold cn1; omega
theorem ct_canB {S : List (Int × Int)} (h : Rise S) {w : Nat} (j : Nat) (a : Int) (bs : List Nat) : bs.length + j = w → a = beg bs j → ∀ f b, ct ((canB S j a bs).map (spB w)) f b = ct S (max f a) (min b (a + H2 j)) :=
  can_cases h (P := fun j a bs => bs.length + j = w → a = beg bs j → ∀ f b, ct ((canB S j a bs).map (spB w)) f b = ct S (max f a) (min b (a + H2 j))) j a bs
    (fun j a bs e _ _ f b => by
      have hj := H2_pos j
      rw [canB_none e, List.map_nil, ct_nil]
      by_cases hh : max f a ≤ min b (a + H2 j)
      · have := ct_sub h (a := a) (e := a + H2 j) (x := max f a) (y := min b (a + H2 j)) (by omega) hh (by omega)
        have n1 := ct_nn S a (max f a)
        have n2 := ct_nn S (max f a) (min b (a + H2 j))
        have n3 := ct_nn S (min b (a + H2 j)) (a + H2 j)
        omega
      · rw [ct_rev (by omega)])
    (fun j a bs e hl ha f b => by
      have hj := H2_pos j
      rw [canB_full e, List.map_cons, List.map_nil, ct_one, spB_at hl, ← ha]
      unfold cn1
      show max 0 (min b (a + H2 j) - max f a) = _
      by_cases hh : max f a ≤ min b (a + H2 j)
      · have := ct_sub h (a := a) (e := a + H2 j) (x := max f a) (y := min b (a + H2 j)) (by omega) hh (by omega)
        have n1 := ct_le h (a := a) (e := max f a) (by omega)
        have n2 := ct_le h (a := max f a) (e := min b (a + H2 j)) hh
        have n3 := ct_le h (a := min b (a + H2 j)) (e := a + H2 j) (by omega)
        omega
      · rw [ct_rev (by omega)]; omega)
    (fun j a bs e1 e2 i1 i2 hl ha f b => by
      have hj := H2_pos j
      have hs := H2_succ j
      rw [canB_part e1 e2, List.map_append, ct_app, i1 (by rw [List.length_append]; show _ + 1 + _ = _; omega) (by rw [beg0]; exact ha), i2 (by rw [List.length_append]; show _ + 1 + _ = _; omega) (by rw [beg1, ha])]
      rw [show a + H2 j + H2 j = a + H2 (j + 1) by omega]
      by_cases k1 : max f a ≤ min b (a + H2 (j + 1))
      · by_cases k2 : max f a ≤ a + H2 j
        · by_cases k3 : a + H2 j ≤ min b (a + H2 (j + 1))
          · rw [ct_cut h (a := max f a) (m := a + H2 j) (e := min b (a + H2 (j + 1))) k2 k3, show min b (a + H2 j) = a + H2 j by omega, show max f (a + H2 j) = a + H2 j by omega]
          · rw [ct_rev (x := max f (a + H2 j)) (by omega), show min b (a + H2 j) = min b (a + H2 (j + 1)) by omega]
            omega
        · rw [ct_rev (x := max f a) (y := min b (a + H2 j)) (by omega), show max f (a + H2 j) = max f a by omega]
          omega
      · rw [ct_rev (x := max f a) (y := min b (a + H2 j)) (by omega), ct_rev (x := max f (a + H2 j)) (by omega), ct_rev (by omega)]
        omega)
theorem spB_in {S : List (Int × Int)} (h : Rise S) {w : Nat} (j : Nat) (a : Int) (bs : List Nat) : bs.length + j = w → a = beg bs j → ∀ s ∈ (canB S j a bs).map (spB w), a ≤ s.1 ∧ s.1 < s.2 ∧ s.2 ≤ a + H2 j :=
  can_cases h (P := fun j a bs => bs.length + j = w → a = beg bs j → ∀ s ∈ (canB S j a bs).map (spB w), a ≤ s.1 ∧ s.1 < s.2 ∧ s.2 ≤ a + H2 j) j a bs
    (fun j a bs e _ _ s hs => by rw [canB_none e] at hs; exact (List.not_mem_nil hs).elim)
    (fun j a bs e hl ha s hs => by
      have hj := H2_pos j
      rw [canB_full e, List.map_cons, List.map_nil] at hs
      rw [List.mem_singleton.mp hs, spB_at hl, ← ha]
      exact ⟨Int.le_refl _, by show a < a + H2 j; omega, Int.le_refl _⟩)
    (fun j a bs e1 e2 i1 i2 hl ha s hs => by
      have hj := H2_pos j
      have hs2 := H2_succ j
      rw [canB_part e1 e2, List.map_append] at hs
      rcases List.mem_append.mp hs with hs | hs
      · have := i1 (by rw [List.length_append]; show _ + 1 + _ = _; omega) (by rw [beg0]; exact ha) s hs
        omega
      · have := i2 (by rw [List.length_append]; show _ + 1 + _ = _; omega) (by rw [beg1, ha]) s hs
        omega)
theorem spB_rise {S : List (Int × Int)} (h : Rise S) {w : Nat} (j : Nat) (a : Int) (bs : List Nat) : bs.length + j = w → a = beg bs j → Rise ((canB S j a bs).map (spB w)) := fun hl ha =>
  ⟨fun s hs => (spB_in h j a bs hl ha s hs).2.1, can_cases h (P := fun j a bs => bs.length + j = w → a = beg bs j → ((canB S j a bs).map (spB w)).Pairwise fun s t => s.2 ≤ t.1) j a bs
    (fun j a bs e _ _ => by rw [canB_none e]; exact List.Pairwise.nil)
    (fun j a bs e _ _ => by rw [canB_full e]; exact List.pairwise_singleton _ _)
    (fun j a bs e1 e2 i1 i2 hl ha => by
      rw [canB_part e1 e2, List.map_append]
      have l1 : (bs ++ [48]).length + j = w := by rw [List.length_append]; show _ + 1 + _ = _; omega
      have l2 : (bs ++ [49]).length + j = w := by rw [List.length_append]; show _ + 1 + _ = _; omega
      have b1 : a = beg (bs ++ [48]) j := by rw [beg0]; exact ha
      have b2 : a + H2 j = beg (bs ++ [49]) j := by rw [beg1, ha]
      refine List.pairwise_append.mpr ⟨i1 l1 b1, i2 l2 b2, fun s hs t ht => ?_⟩
      have := spB_in h j a _ l1 b1 s hs
      have := spB_in h j _ _ l2 b2 t ht
      omega) hl ha⟩
/-! ### the leaves of both -/
def canM (S : List (Int × Int)) : Nat → Int → List Nat → List (List Nat)
  | 0, _, bs => [bs]
  | j + 1, a, bs => if ct S a (a + H2 (j + 1)) = 0 ∨ ct S a (a + H2 (j + 1)) = H2 (j + 1) then [bs] else canM S j a (bs ++ [48]) ++ canM S j (a + H2 j) (bs ++ [49])
theorem canM_one {S : List (Int × Int)} {j : Nat} {a : Int} {bs : List Nat} (h : ct S a (a + H2 j) = 0 ∨ ct S a (a + H2 j) = H2 j) : canM S j a bs = [bs] := by
  cases j with
  | zero => rfl
  | succ j => unfold canM; rw [if_pos h]
theorem canM_part {S : List (Int × Int)} {j : Nat} {a : Int} {bs : List Nat} (h1 : ct S a (a + H2 (j + 1)) ≠ 0) (h2 : ct S a (a + H2 (j + 1)) ≠ H2 (j + 1)) : canM S (j + 1) a bs = canM S j a (bs ++ [48]) ++ canM S j (a + H2 j) (bs ++ [49]) := by
  conv => lhs; unfold canM
  rw [if_neg (by rintro (h | h); exact h1 h; exact h2 h)]
theorem canM_perm {S R : List (Int × Int)} (h : Rise S) (j : Nat) (a : Int) (bs : List Nat) : (∀ x y, a ≤ x → x ≤ y → y ≤ a + H2 j → ct S x y + ct R x y = y - x) → (canM S j a bs).Perm (canB S j a bs ++ canB R j a bs) :=
  can_cases h (P := fun j a bs => (∀ x y, a ≤ x → x ≤ y → y ≤ a + H2 j → ct S x y + ct R x y = y - x) → (canM S j a bs).Perm (canB S j a bs ++ canB R j a bs)) j a bs
    (fun j a bs e hc => by
      have hj := H2_pos j
      have := hc a (a + H2 j) (Int.le_refl _) (by omega) (Int.le_refl _)
      rw [canM_one (.inl e), canB_none e, canB_full (by omega : ct R a (a + H2 j) = H2 j)]
      exact List.Perm.refl _)
    (fun j a bs e hc => by
      have hj := H2_pos j
      have := hc a (a + H2 j) (Int.le_refl _) (by omega) (Int.le_refl _)
      rw [canM_one (.inr e), canB_full e, canB_none (by omega : ct R a (a + H2 j) = 0)]
      exact List.Perm.refl _)
    (fun j a bs e1 e2 i1 i2 hc => by
      have hj := H2_pos j
      have hs := H2_succ j
      have := hc a (a + H2 (j + 1)) (Int.le_refl _) (by omega) (Int.le_refl _)
      rw [canM_part e1 e2, canB_part e1 e2, canB_part (by omega : ct R a (a + H2 (j + 1)) ≠ 0) (by omega)]
      refine ((i1 fun x y h1 h2 h3 => hc x y h1 h2 (by omega)).append (i2 fun x y h1 h2 h3 => hc x y (by omega) h2 (by omega))).trans ?_
      rw [List.append_assoc, List.append_assoc]
      refine List.Perm.append_left _ ?_
      rw [← List.append_assoc, ← List.append_assoc]
      exact List.Perm.append_right _ List.perm_append_comm)
/-- the one has a 0 where the other has a 1, all alike ahead of it -/
def Apart (x y : List Nat) : Prop := ∃ c u v, x = c ++ 48 :: u ∧ y = c ++ 49 :: v
theorem canM_pre {S : List (Int × Int)} (h : Rise S) (j : Nat) (a : Int) (bs : List Nat) : ∀ x ∈ canM S j a bs, ∃ u, x = bs ++ u ∧ u.length ≤ j ∧ Bits u :=
  can_cases h (P := fun j a bs => ∀ x ∈ canM S j a bs, ∃ u, x = bs ++ u ∧ u.length ≤ j ∧ Bits u) j a bs
    (fun j a bs e x hx => by
      rw [canM_one (.inl e)] at hx
      exact ⟨[], by rw [List.mem_singleton.mp hx, List.append_nil], Nat.zero_le _, Bits.nil⟩)
    (fun j a bs e x hx => by
      rw [canM_one (.inr e)] at hx
      exact ⟨[], by rw [List.mem_singleton.mp hx, List.append_nil], Nat.zero_le _, Bits.nil⟩)
    (fun j a bs e1 e2 i1 i2 x hx => by
      rw [canM_part e1 e2] at hx
      rcases List.mem_append.mp hx with hx | hx
      · obtain ⟨u, rfl, hl, hb⟩ := i1 x hx
        exact ⟨48 :: u, by simp, Nat.succ_le_succ hl, (Bits.one (by decide)).app hb⟩
      · obtain ⟨u, rfl, hl, hb⟩ := i2 x hx
        exact ⟨49 :: u, by simp, Nat.succ_le_succ hl, (Bits.one (by decide)).app hb⟩)
theorem canM_apart {S : List (Int × Int)} (h : Rise S) (j : Nat) (a : Int) (bs : List Nat) : (canM S j a bs).Pairwise Apart :=
  can_cases h (P := fun j a bs => (canM S j a bs).Pairwise Apart) j a bs
    (fun j a bs e => by rw [canM_one (.inl e)]; exact List.pairwise_singleton _ _)
    (fun j a bs e => by rw [canM_one (.inr e)]; exact List.pairwise_singleton _ _)
    (fun j a bs e1 e2 i1 i2 => by
      rw [canM_part e1 e2]
      refine List.pairwise_append.mpr ⟨i1, i2, fun x hx y hy => ?_⟩
      obtain ⟨u, rfl, _⟩ := canM_pre h _ _ _ x hx
      obtain ⟨v, rfl, _⟩ := canM_pre h _ _ _ y hy
      exact ⟨bs, u, v, by simp, by simp⟩)
/-! ### spans one behind the other -/
def Tile : Int → List (Int × Int) → Int → Prop
  | a, [], e => a = e
  | a, s :: T, e => s.1 = a ∧ s.1 < s.2 ∧ Tile s.2 T e
theorem Tile.app : ∀ {T U : List (Int × Int)} {a m e : Int}, Tile a T m → Tile m U e → Tile a (T ++ U) e
  | [], _, _, _, _, h, k => by cases (show _ = _ from h); exact k
  | _ :: _, _, _, _, _, ⟨h1, h2, h3⟩, k => ⟨h1, h2, Tile.app h3 k⟩
theorem Tile.le : ∀ {T : List (Int × Int)} {a e : Int}, Tile a T e → a ≤ e
  | [], _, _, h => Int.le_of_eq h
  | _ :: _, _, _, ⟨h1, h2, h3⟩ => by have := h3.le; omega
theorem Tile.mem : ∀ {T : List (Int × Int)} {a e : Int}, Tile a T e → ∀ s ∈ T, a ≤ s.1 ∧ s.1 < s.2 ∧ s.2 ≤ e
  | s :: T, a, e, ⟨h1, h2, h3⟩, t, ht => by
    rcases List.mem_cons.mp ht with rfl | ht
    · exact ⟨by omega, h2, h3.le⟩
    · have := h3.mem t ht
      omega
theorem Tile.rise : ∀ {T : List (Int × Int)} {a e : Int}, Tile a T e → Rise T
  | [], _, _, _ => ⟨fun _ h => (List.not_mem_nil h).elim, List.Pairwise.nil⟩
  | s :: T, a, e, h@⟨h1, h2, h3⟩ => ⟨fun t ht => (h.mem t ht).2.1, List.pairwise_cons.mpr ⟨fun t ht => (h3.mem t ht).1, h3.rise.2⟩⟩
theorem Tile.ct : ∀ {T : List (Int × Int)} {a e : Int}, Tile a T e → ∀ x y, ct T x y = max 0 (min y e - max x a)
  | [], a, e, h, x, y => by cases (show _ = _ from h); rw [ct_nil]; omega
  | s :: T, a, e, ⟨h1, h2, h3⟩, x, y => by
    rw [ct_cons, h3.ct]
    have := h3.le
    unfold cn1
    omega
theorem Tile.sum : ∀ {T : List (Int × Int)} {a e : Int}, Tile a T e → (T.map fun s => s.2 - s.1).sum = e - a
  | [], a, e, h => by cases (show _ = _ from h); exact (Int.sub_self _).symm
  | s :: T, a, e, ⟨h1, h2, h3⟩ => by rw [List.map_cons, List.sum_cons, h3.sum]; omega
theorem canM_tile {S : List (Int × Int)} (h : Rise S) {w : Nat} (j : Nat) (a : Int) (bs : List Nat) : bs.length + j = w → a = beg bs j → Tile a ((canM S j a bs).map (spB w)) (a + H2 j) := by
  have one : ∀ (j : Nat) (a : Int) (bs : List Nat), bs.length + j = w → a = beg bs j → Tile a ([bs].map (spB w)) (a + H2 j) := fun j a bs hl ha => by
    rw [List.map_cons, spB_at hl, ← ha]
    exact ⟨rfl, by have := H2_pos j; show a < a + H2 j; omega, rfl⟩
  exact can_cases h (P := fun j a bs => bs.length + j = w → a = beg bs j → Tile a ((canM S j a bs).map (spB w)) (a + H2 j)) j a bs
    (fun j a bs e hl ha => by rw [canM_one (.inl e)]; exact one j a bs hl ha)
    (fun j a bs e hl ha => by rw [canM_one (.inr e)]; exact one j a bs hl ha)
    (fun j a bs e1 e2 i1 i2 hl ha => by
      have hs := H2_succ j
      rw [canM_part e1 e2, List.map_append]
      have k2 := i2 (by rw [List.length_append]; show _ + 1 + _ = _; omega) (by rw [beg1, ha])
      rw [show a + H2 j + H2 j = a + H2 (j + 1) by omega] at k2
      exact (i1 (by rw [List.length_append]; show _ + 1 + _ = _; omega) (by rw [beg0]; exact ha)).app k2)
end G
/-! Plain laws: what many laws' texts share. -/
namespace G
open PySem PySem.Spec PyProof.Rows L2 TL
def spanL (w : Nat) (bs : List Nat) : Nat × Nat := (wr bs * 2 ^ (w - bs.length), (wr bs + 1) * 2 ^ (w - bs.length))
theorem notF {α : Type} {a b : α} : (if (!false) = true then a else b) = a := rfl
theorem bin_wr {bs : List Nat} (h : Bits bs) : bin bs.length (wr bs) = bs :=
  wr_inj (bin_bits _ _) h (bin_len _ _) (by rw [wr_bin, Nat.mod_eq_of_lt (wr_lt bs)])
/-! ### the widest block from an address on -/
theorem shlI_w {w J : Nat} (h : J ≤ 60) : shlI (1 : Int) ((w : Int) - ((w : Int) - (J : Int))) = some (H2 J) := by
  rw [show (w : Int) - ((w : Int) - (J : Int)) = (J : Nat) by omega]
  exact shlI_one (by omega)
theorem mod_up {a : Int} {j k : Nat} (h : a % H2 k = 0) (hk : j ≤ k) : a % H2 j = 0 := by
  obtain ⟨d, rfl⟩ := Nat.exists_eq_add_of_le hk
  have : H2 (j + d) = H2 j * H2 d := by show ((2 ^ (j + d) : Nat) : Int) = _; rw [Nat.pow_add, Int.natCast_mul]
  rw [this] at h
  exact Int.emod_eq_zero_of_dvd (Int.dvd_trans (Int.dvd_mul_right _ _) (Int.dvd_of_emod_eq_zero h))
theorem H2_mono {j k : Nat} (h : j ≤ k) : H2 j ≤ H2 k := Int.ofNat_le.mpr (Nat.pow_le_pow_right (by decide) h)
theorem beg_mod (bs : List Nat) (j : Nat) : beg bs j % H2 j = 0 := by
  unfold beg
  rw [Int.natCast_mul]
  exact Int.mul_emod_left _ _
theorem appL_some {α : Type} {l : List α} {x : α} (h : l.length ≤ 1000000) : appL l x = some (l ++ [x]) := by unfold appL; rw [if_pos (by rw [sizeLine_eq]; omega)]
theorem setL_last {α : Type} (F : List α) (x y : α) : setL (F ++ [x]) (-1) y = some (F ++ [y]) := by
  unfold setL ixN
  rw [List.length_append]
  show Option.map _ (if (0 : Int) ≤ -1 then _ else if -((F.length + 1 : Nat) : Int) ≤ -1 then _ else none) = _
  rw [if_neg (by omega), if_pos (by omega)]
  show some ((F ++ [x]).set (-1 + ((F.length + 1 : Nat) : Int)).toNat y) = _
  rw [show (-1 + ((F.length + 1 : Nat) : Int)).toNat = F.length by omega, List.set_append_right _ _ (Nat.le_refl _), Nat.sub_self]
  rfl
theorem gaps_snoc {F : List (Int × Int)} {x : Int × Int} (h : Gaps F) (hx : x.1 < x.2) (hb : ∀ s ∈ F, s.2 < x.1) : Gaps (F ++ [x]) :=
  ⟨fun s hs => (List.mem_append.mp hs).elim (h.1 s) fun e => by rw [List.mem_singleton.mp e]; exact hx,
   List.pairwise_append.mpr ⟨h.2, List.pairwise_singleton _ _, fun s hs t ht => by rw [List.mem_singleton.mp ht]; exact hb s hs⟩⟩
/-! ### drawn stretches -/
theorem rangeL_succ (n : Int) (k : Nat) : rangeL n (k + 1) = n :: rangeL (n + 1) k := by
  unfold rangeL
  rw [List.range_succ_eq_map, List.map_cons, List.map_map]
  congr 1
  · omega
  · refine List.map_congr_left fun i _ => ?_
    show n + ((i + 1 : Nat) : Int) = n + 1 + (i : Nat)
    omega
theorem ins_len (k : Int) : ∀ l : List Int, (ins k l).length ≤ l.length + 1
  | [] => Nat.le_refl _
  | x :: l => by
    unfold ins
    split
    · exact Nat.le_refl _
    · split
      · exact Nat.le_succ _
      · exact Nat.succ_le_succ (ins_len k l)
theorem ssort_len : ∀ l : List Int, (ssort l).length ≤ l.length
  | [] => Nat.le_refl _
  | x :: l => Nat.le_trans (ins_len x (ssort l)) (Nat.succ_le_succ (ssort_len l))
theorem rangeL_add : ∀ (a : Nat) (n : Int) (c : Nat), rangeL n (a + c) = rangeL n a ++ rangeL (n + (a : Nat)) c
  | 0, n, c => by
    rw [Nat.zero_add, show n + ((0 : Nat) : Int) = n by omega]
    rfl
  | a + 1, n, c => by
    rw [show a + 1 + c = (a + c) + 1 by omega, rangeL_succ, rangeL_succ, rangeL_add a (n + 1) c, List.cons_append, show n + 1 + (a : Nat) = n + ((a + 1 : Nat) : Int) by omega]
theorem map_tl_inj : ∀ {xs ys : List Str}, xs.map tl = ys.map tl → xs = ys
  | [], [], _ => rfl
  | [], _ :: _, h => nomatch h
  | _ :: _, [], h => nomatch h
  | x :: xs, y :: ys, h => by
    obtain ⟨h1, h2⟩ := List.cons.inj h
    rw [tl_inj h1, map_tl_inj h2]
/-! ### spans of patterns, by their texts -/
def bsOf (x : Str) : List Nat := (tl x).takeWhile isB
theorem bsOf_pat {w : Nat} {bs : List Nat} {x : Str} (p : Pat w bs x) : bsOf x = bs := by
  unfold bsOf
  rw [p.eq, patL]
  have h : ∀ (l r : List Nat), Bits l → (∀ c, r.head? = some c → isB c = false) → (l ++ r).takeWhile isB = l := by
    intro l r hl hr
    induction l with
    | nil => exact tw0 r hr
    | cons c l ih =>
      show List.takeWhile isB (c :: (l ++ r)) = _
      rw [List.takeWhile_cons, if_pos (hl c (List.mem_cons_self ..)), ih fun d hd => hl d (List.mem_cons_of_mem _ hd)]
  refine h bs _ p.bits fun c hc => ?_
  split at hc
  · have : c = 42 := (Option.some.inj hc).symm
    subst this
    decide
  · cases hc
def spI (w : Nat) (x : Str) : Int × Int := (((spanL w (bsOf x)).1 : Int), ((spanL w (bsOf x)).2 : Int))
def IsPat (w : Nat) (x : Str) : Prop := ∃ bs, Pat w bs x
theorem spI_ok {w : Nat} {x : Str} (p : IsPat w x) : 0 ≤ (spI w x).1 ∧ (spI w x).1 < (spI w x).2 ∧ (spI w x).2 ≤ ((2 ^ w : Nat) : Int) := by
  obtain ⟨bs, p⟩ := p
  unfold spI
  rw [bsOf_pat p]
  have h1 := wr_lt bs
  have hle := p.le
  have h2 : 2 ^ bs.length * 2 ^ (w - bs.length) = 2 ^ w := by rw [← Nat.pow_add]; congr 1; omega
  have h3 : (wr bs + 1) * 2 ^ (w - bs.length) ≤ 2 ^ bs.length * 2 ^ (w - bs.length) := Nat.mul_le_mul_right _ h1
  have h4 : 0 < 2 ^ (w - bs.length) := Nat.two_pow_pos _
  refine ⟨Int.natCast_nonneg _, ?_, ?_⟩
  · show ((wr bs * 2 ^ (w - bs.length) : Nat) : Int) < (((wr bs + 1) * 2 ^ (w - bs.length) : Nat) : Int)
    rw [Nat.add_mul, Nat.one_mul]
    omega
  · show (((wr bs + 1) * 2 ^ (w - bs.length) : Nat) : Int) ≤ _
    omega
/-! ### edges -/
def flat2 (S : List (Int × Int)) : List Int := S.flatMap fun s => [s.1, s.2]
theorem mem_flat2 {S : List (Int × Int)} {k : Int} : k ∈ flat2 S ↔ ∃ s ∈ S, k = s.1 ∨ k = s.2 := by
  unfold flat2
  simp [List.mem_flatMap]
theorem flat2_len (S : List (Int × Int)) : (flat2 S).length = 2 * S.length := by
  induction S with
  | nil => rfl
  | cons s S ih =>
    show ([s.1, s.2] ++ flat2 S).length = _
    rw [List.length_append, ih]
    show 2 + 2 * S.length = 2 * (S.length + 1)
    omega
/-- neighbours -/
def prsL : List Int → List (Int × Int)
  | x :: y :: r => (x, y) :: prsL (y :: r)
  | _ => []
theorem zip_prs : ∀ l : List Int, List.zip l (l.drop 1) = prsL l
  | [] => rfl
  | [_] => rfl
  | x :: y :: r => by
    show (x, y) :: List.zip (y :: r) r = _
    have := zip_prs (y :: r)
    exact congrArg _ this
def edgesOf (w : Nat) (S : List (Int × Int)) : List Int := ssort ([0, ((2 ^ w : Nat) : Int)] ++ flat2 S)
/-! ### what stands in which -/
def hereL (S : List (Int × Int)) (f b : Int) : List Bool := S.map fun s => (decide (s.1 ≤ f)) && (decide (b ≤ s.2))
def apartL (S : List (Int × Int)) (f b : Int) : List Bool := S.map fun s => (decide (b ≤ s.1)) || (decide (s.2 ≤ f))
/-- no edge lies between -/
def Gap (S : List (Int × Int)) (f b : Int) : Prop := f < b ∧ ∀ s ∈ S, s.1 < s.2 ∧ (s.1 ≤ f ∨ b ≤ s.1) ∧ (s.2 ≤ f ∨ b ≤ s.2)
/-- at an edge what stands changes -/
theorem here_ne {S : List (Int × Int)} {p e b : Int} (g1 : Gap S p e) (g2 : Gap S e b) (he : ∃ s ∈ S, e = s.1 ∨ e = s.2) : hereL S e b ≠ hereL S p e := by
  obtain ⟨s, hs, h⟩ := he
  intro z
  have := List.map_eq_map_iff.mp z s hs
  rw [Bool.eq_iff_iff, Bool.and_eq_true, Bool.and_eq_true, decide_eq_true_iff, decide_eq_true_iff, decide_eq_true_iff, decide_eq_true_iff] at this
  obtain ⟨f1, k1⟩ := g1
  obtain ⟨f2, k2⟩ := g2
  obtain ⟨a1, a2, a3⟩ := k1 s hs
  obtain ⟨b1, b2, b3⟩ := k2 s hs
  omega
def El (S : List (Int × Int)) (e : Int) (o : Option (List Bool)) : Prop := o = none ∨ ∃ p, Gap S p e ∧ o = some (hereL S p e) ∧ ∃ s ∈ S, e = s.1 ∨ e = s.2
theorem El.ne {S : List (Int × Int)} {e b : Int} {o : Option (List Bool)} (h : El S e o) (g : Gap S e b) : some (hereL S e b) ≠ o := by
  rcases h with rfl | ⟨p, g1, rfl, hs⟩
  · exact fun z => nomatch z
  · exact fun z => here_ne g1 g hs (Option.some.inj z)
theorem rangeO_len {n : Nat} (h : n ≤ 16777216) : rangeO1 (n : Int) = some (rangeL 0 n) := by
  unfold rangeO1
  rw [if_pos ⟨by omega, by rw [sizeLine_eq]; omega⟩, Int.toNat_natCast]
theorem mem_rangeL {n : Nat} {k : Int} (h : k ∈ rangeL 0 n) : 0 ≤ k ∧ k < (n : Nat) := by
  unfold rangeL at h
  obtain ⟨i, hi, rfl⟩ := List.mem_map.mp h
  have := List.mem_range.mp hi
  omega
/-! ### the edges of a row of spans -/
structure SpOk (w : Nat) (S : List (Int × Int)) : Prop where
  ok : ∀ s ∈ S, 0 ≤ s.1 ∧ s.1 < s.2 ∧ s.2 ≤ ((2 ^ w : Nat) : Int)
theorem prs_adj : ∀ {l : List Int} {f b : Int}, l.Pairwise (· < ·) → (f, b) ∈ prsL l → f < b ∧ ∀ x ∈ l, x ≤ f ∨ b ≤ x
  | [], _, _, _, h => nomatch h
  | [_], _, _, _, h => nomatch h
  | x :: y :: r, f, b, hp, h => by
    obtain ⟨h1, h2⟩ := List.pairwise_cons.mp hp
    rcases List.mem_cons.mp (show (f, b) ∈ (x, y) :: prsL (y :: r) from h) with e | h
    · have e1 : f = x := congrArg Prod.fst e
      have e2 : b = y := congrArg Prod.snd e
      subst e1 e2
      refine ⟨h1 b (List.mem_cons_self ..), fun z hz => ?_⟩
      rcases List.mem_cons.mp hz with rfl | hz
      · exact .inl (Int.le_refl _)
      · rcases List.mem_cons.mp hz with rfl | hz
        · exact .inr (Int.le_refl _)
        · have := (List.pairwise_cons.mp h2).1 z hz
          exact .inr (by omega)
    · obtain ⟨k1, k2⟩ := prs_adj h2 h
      have hf : f ∈ y :: r := prs_mem h
      have hxf := h1 f hf
      refine ⟨k1, fun z hz => ?_⟩
      rcases List.mem_cons.mp hz with rfl | hz
      · exact .inl (by omega)
      · exact k2 z hz
where
  prs_mem : ∀ {l : List Int} {f b : Int}, (f, b) ∈ prsL l → f ∈ l
    | [], _, _, h => nomatch h
    | [_], _, _, h => nomatch h
    | x :: y :: r, f, b, h => by
      rcases List.mem_cons.mp (show (f, b) ∈ (x, y) :: prsL (y :: r) from h) with e | h
      · have e1 : f = x := congrArg Prod.fst e
        subst e1
        exact List.mem_cons_self ..
      · exact List.mem_cons_of_mem _ (prs_mem h)
theorem edges_facts {w : Nat} {S : List (Int × Int)} (h : SpOk w S) : ∃ l, edgesOf w S = 0 :: l ∧ (∀ q ∈ prsL (0 :: l), Gap S q.1 q.2) ∧ (∀ k ∈ l.dropLast, ∃ s ∈ S, k = s.1 ∨ k = s.2) ∧ (0 :: l).getLast? = some ((2 ^ w : Nat) : Int) ∧ l ≠ [] := by
  have hs := ssort_sorted ([0, ((2 ^ w : Nat) : Int)] ++ flat2 S)
  have hm : ∀ k, k ∈ edgesOf w S ↔ k = 0 ∨ k = ((2 ^ w : Nat) : Int) ∨ ∃ s ∈ S, k = s.1 ∨ k = s.2 := fun k => by
    unfold edgesOf
    rw [ssort_mem, List.mem_append, mem_flat2]
    simp only [List.mem_cons, List.not_mem_nil, or_false, or_assoc]
  have hW : (0 : Int) < ((2 ^ w : Nat) : Int) := by have := Nat.two_pow_pos w; omega
  have hlo : ∀ k ∈ edgesOf w S, 0 ≤ k ∧ k ≤ ((2 ^ w : Nat) : Int) := fun k hk => by
    rcases (hm k).mp hk with rfl | rfl | ⟨s, hs, rfl | rfl⟩
    · omega
    · omega
    · have := h.ok s hs; omega
    · have := h.ok s hs; omega
  change (edgesOf w S).Pairwise (· < ·) at hs
  have h0 := (hm 0).mpr (.inl rfl)
  have hWm := (hm ((2 ^ w : Nat) : Int)).mpr (.inr (.inl rfl))
  generalize edgesOf w S = E at hs hm hlo h0 hWm
  cases E with
  | nil => cases h0
  | cons x l =>
    obtain ⟨s1, s2⟩ := List.pairwise_cons.mp hs
    have ex : x = 0 := by
      rcases List.mem_cons.mp h0 with e | e
      · exact e.symm
      · have := s1 0 e
        have := hlo x (List.mem_cons_self ..)
        omega
    subst ex
    have hne : l ≠ [] := fun e => by
      subst e
      have := List.mem_singleton.mp hWm
      omega
    have hlast : (0 :: l).getLast? = some ((2 ^ w : Nat) : Int) := by
      obtain ⟨m, z, rfl⟩ : ∃ m z, l = m ++ [z] := ⟨l.dropLast, l.getLast hne, (List.dropLast_concat_getLast hne).symm⟩
      have hz : z = ((2 ^ w : Nat) : Int) := by
        rcases List.mem_cons.mp hWm with e | e
        · omega
        · rcases List.mem_append.mp e with e | e
          · have h3 := (List.pairwise_append.mp s2).2.2 _ e z (List.mem_singleton.mpr rfl)
            have := hlo z (List.mem_cons_of_mem _ (List.mem_append.mpr (.inr (List.mem_singleton.mpr rfl))))
            omega
          · exact (List.mem_singleton.mp e).symm
      subst hz
      rw [← List.cons_append]
      exact List.getLast?_concat
    refine ⟨l, rfl, fun q hq => ?_, fun k hk => ?_, hlast, hne⟩
    · obtain ⟨k1, k2⟩ := prs_adj hs hq
      exact ⟨k1, fun s hs2 => ⟨(h.ok s hs2).2.1, k2 s.1 ((hm s.1).mpr (.inr (.inr ⟨s, hs2, .inl rfl⟩))), k2 s.2 ((hm s.2).mpr (.inr (.inr ⟨s, hs2, .inr rfl⟩)))⟩⟩
    · rcases (hm k).mp (List.mem_cons_of_mem _ (List.dropLast_subset _ hk)) with rfl | rfl | e
      · have := s1 0 (List.dropLast_subset _ hk); omega
      · exfalso
        obtain ⟨m, z, rfl⟩ : ∃ m z, l = m ++ [z] := ⟨l.dropLast, l.getLast hne, (List.dropLast_concat_getLast hne).symm⟩
        rw [List.dropLast_concat] at hk
        have h3 := (List.pairwise_append.mp s2).2.2 _ hk z (List.mem_singleton.mpr rfl)
        have := hlo z (List.mem_cons_of_mem _ (List.mem_append.mpr (.inr (List.mem_singleton.mpr rfl))))
        omega
      · exact e
theorem spOk {w : Nat} {ps : List Str} (h : ∀ p ∈ ps, IsPat w p) : SpOk w (ps.map (spI w)) := ⟨fun s hs => by
  obtain ⟨p, hp, rfl⟩ := List.mem_map.mp hs
  exact spI_ok (h p hp)⟩
theorem prs_len : ∀ l : List Int, (prsL l).length ≤ l.length
  | [] => Nat.le_refl _
  | [_] => Nat.zero_le _
  | x :: y :: r => by
    show (prsL (y :: r)).length + 1 ≤ (y :: r).length + 1
    exact Nat.succ_le_succ (prs_len (y :: r))
end G
/-! Plain laws: patterns written out of signs; sorted texts; tiles and parts. -/
namespace G
open PySem PySem.Spec PyProof.Rows L2 TL
theorem conL_some {α : Type} {a b : List α} (h : a.length + b.length ≤ 1000000) : conL a b = some (a ++ b) := by unfold conL; rw [if_pos (by rw [sizeLine_eq]; omega)]
section
variable {α β γ R T : Type} {g : R → Option T}
theorem bL0_go {f : Option T} : bindL0 (some (.go ())) f g = f := rfl
theorem bL1_go {f : α → Option T} {a : α} : bindL1 (some (.go a)) f g = f a := rfl
theorem bL2_go {f : α → β → Option T} {a : α} {b : β} : bindL2 (some (.go (a, b))) f g = f a b := rfl
theorem bL3_go {f : α → β → γ → Option T} {a : α} {b : β} {c : γ} : bindL3 (some (.go (a, b, c))) f g = f a b c := rfl
end
theorem shlI_H {k : Nat} (h : k ≤ 1000000) : shlI 1 (k : Int) = some (H2 k) := shlI_one h
theorem rangeO_1 {n : Nat} (h : n ≤ 1000000) : rangeO (1 : Int) ((n : Nat) : Int) = some (rangeL 1 (n - 1)) := by
  unfold rangeO
  rw [if_pos ⟨by omega, by rw [sizeLine_eq]; omega⟩, show (((n : Nat) : Int) - 1).toNat = n - 1 by omega]
theorem mem_range1 {n : Nat} {k : Int} (h : k ∈ rangeL 1 (n - 1)) : ∃ i : Nat, k = ((i + 1 : Nat) : Int) ∧ i + 1 < n := by
  unfold rangeL at h
  obtain ⟨i, hi, rfl⟩ := List.mem_map.mp h
  have := List.mem_range.mp hi
  exact ⟨i, by omega, by omega⟩
/-- texts that write the patterns of some signs -/
structure Pats (w : Nat) (us : List (List Nat)) (ys : List Str) : Prop where
  eq : ys.map tl = us.map (patL w)
  ok : ∀ u ∈ us, Bits u ∧ u.length ≤ w
theorem Pats.app {w : Nat} {us vs : List (List Nat)} {ys zs : List Str} (h : Pats w us ys) (k : Pats w vs zs) : Pats w (us ++ vs) (ys ++ zs) :=
  ⟨by rw [List.map_append, List.map_append, h.eq, k.eq], fun u hu => (List.mem_append.mp hu).elim (h.ok u) (k.ok u)⟩
theorem Pats.len {w : Nat} {us : List (List Nat)} {ys : List Str} (h : Pats w us ys) : ys.length = us.length := by
  have := congrArg List.length h.eq
  rwa [List.length_map, List.length_map] at this
theorem Pats.tail {w : Nat} {u : List Nat} {us : List (List Nat)} {y : Str} {ys : List Str} (h : Pats w (u :: us) (y :: ys)) : Pat w u y ∧ Pats w us ys := by
  have e := h.eq
  rw [List.map_cons, List.map_cons] at e
  obtain ⟨e1, e2⟩ := List.cons.inj e
  have := h.ok u (List.mem_cons_self ..)
  exact ⟨⟨this.1, this.2, e1⟩, e2, fun v hv => h.ok v (List.mem_cons_of_mem _ hv)⟩
theorem Pats.rec_ {w : Nat} {P : List (List Nat) → List Str → Prop} (h0 : P [] []) (h1 : ∀ u us y ys, Pat w u y → Pats w us ys → P us ys → P (u :: us) (y :: ys)) : ∀ {us ys}, Pats w us ys → P us ys
  | [], [], _ => h0
  | [], _ :: _, h => nomatch h.len
  | _ :: _, [], h => nomatch h.len
  | u :: us, y :: ys, h => h1 u us y ys h.tail.1 h.tail.2 (Pats.rec_ h0 h1 h.tail.2)
theorem Pats.each {w : Nat} {us : List (List Nat)} {ys : List Str} (h : Pats w us ys) : ∀ y ∈ ys, IsPat w y :=
  Pats.rec_ (P := fun us ys => ∀ y ∈ ys, IsPat w y) (fun _ h => nomatch h) (fun u us y ys p _ ih z hz => by
    rcases List.mem_cons.mp hz with rfl | hz
    · exact ⟨u, p⟩
    · exact ih z hz) h
theorem spI_spB {w : Nat} {u : List Nat} {y : Str} (p : Pat w u y) : spI w y = spB w u := by
  unfold spI spB spanL
  rw [bsOf_pat p]
  refine Prod.ext rfl ?_
  show (((wr u + 1) * 2 ^ (w - u.length) : Nat) : Int) = ((wr u * 2 ^ (w - u.length) : Nat) : Int) + ((2 ^ (w - u.length) : Nat) : Int)
  rw [Nat.add_mul, Nat.one_mul, Int.natCast_add]
theorem Pats.spans {w : Nat} {us : List (List Nat)} {ys : List Str} (h : Pats w us ys) : ys.map (spI w) = us.map (spB w) :=
  Pats.rec_ (P := fun us ys => ys.map (spI w) = us.map (spB w)) rfl (fun u us y ys p _ ih => by rw [List.map_cons, List.map_cons, ih, spI_spB p]) h
theorem Pats.strip {w : Nat} {us : List (List Nat)} {ys : List Str} (h : Pats w us ys) : (ys.map fun y => Txt.stripChars y ("*" : Str)).map tl = us :=
  Pats.rec_ (P := fun us ys => (ys.map fun y => Txt.stripChars y ("*" : Str)).map tl = us) rfl (fun u us y ys p _ ih => by rw [List.map_cons, List.map_cons, ih, p.strip]) h
/-- the leaves of all addresses -/
theorem canB_root {S : List (Int × Int)} (h : Rise S) (w : Nat) : ∀ u ∈ canB S w 0 [], Bits u ∧ u.length ≤ w := fun u hu => by
  obtain ⟨v, rfl, h1, h2, _⟩ := canB_pre h w 0 [] u hu
  exact ⟨h2, h1⟩
theorem can_pats {S : List (Int × Int)} (h : Rise S) {w : Nat} {ys : List Str} (e : ys.map tl = can S w 0 []) : Pats w (canB S w 0 []) ys :=
  ⟨by rw [e, can_canB h w 0 [] (Nat.zero_add w)], canB_root h w⟩
theorem can_len0 {S : List (Int × Int)} (h : Rise S) (w : Nat) : (can S w 0 []).length ≤ 1 + w * (2 * S.length) := by
  have h1 := can_len h w 0 []
  exact Nat.le_trans h1 (Nat.add_le_add_left (Nat.mul_le_mul_left _ (ends_le _ _ _)) 1)
/-! ### sorted texts -/
theorem Apart.le {x y : List Nat} (h : Apart x y) : x ≤ y := by
  obtain ⟨c, u, v, rfl, rfl⟩ := h
  refine List.le_of_lt ?_
  induction c with
  | nil => exact List.Lex.rel (by decide)
  | cons a c ih => exact List.Lex.cons ih
theorem Apart.take {x y : List Nat} (h : Apart x y) : y.take x.length ≠ x := by
  obtain ⟨c, u, v, rfl, rfl⟩ := h
  intro e
  have h1 : (c ++ 49 :: v).take (c ++ 48 :: u).length = c ++ (49 :: v).take (u.length + 1) := by
    rw [List.length_append, List.take_length_add_append]
    rfl
  rw [h1] at e
  have := List.append_cancel_left e
  rw [List.take_succ_cons] at this
  exact absurd (List.cons.inj this).1 (by decide)
theorem sortT_map {L : List Str} {C : List (List Nat)} (hp : (L.map tl).Perm C) (hs : C.Pairwise fun a b => a ≤ b) : (sortT L).map tl = C := by
  have h1 : ((sortT L).map tl).Perm C := ((sortT_perm L).map tl).trans hp
  have h2 : ((sortT L).map tl).Pairwise fun a b => a ≤ b := List.pairwise_map.mpr ((sortT_sorted L).imp fun h => of_decide_eq_true h)
  exact h1.eq_of_pairwise (le := fun a b => a ≤ b) (fun a b _ _ h3 h4 => List.le_antisymm h3 h4) h2 hs
/-! ### tiles -/
theorem Tile.sortP {T U : List (Int × Int)} {a e : Int} (h : Tile a T e) (hp : T.Perm U) : sortP U = T :=
  sortP_uniq hp (h.rise.2.imp_of_mem fun {s t} hs ht k => decide_eq_true (.inl (by have := (h.mem s hs).2.1; omega)))
theorem Tile.prs : ∀ {T : List (Int × Int)} {a e : Int}, Tile a T e → prsL (a :: T.map (·.2)) = T
  | [], _, _, _ => rfl
  | [s], a, e, ⟨h1, h2, h3⟩ => by
    show [(a, s.2)] = [s]
    rw [← h1]
  | s :: t :: T, a, e, ⟨h1, h2, h3⟩ => by
    show (a, s.2) :: prsL (s.2 :: (t :: T).map (·.2)) = _
    rw [Tile.prs h3, ← h1]
theorem Tile.ends_mem : ∀ {T : List (Int × Int)} {a e k : Int}, Tile a T e → (k ∈ a :: T.map (·.2) ↔ k = a ∨ k = e ∨ ∃ s ∈ T, k = s.1 ∨ k = s.2)
  | [], a, e, k, h => by
    cases (show _ = _ from h)
    simp
  | s :: T, a, e, k, ⟨h1, h2, h3⟩ => by
    have ih := Tile.ends_mem (k := k) h3
    rw [List.map_cons]
    constructor
    · intro h
      rcases List.mem_cons.mp h with rfl | h
      · exact .inl rfl
      · rcases ih.mp h with rfl | rfl | ⟨t, ht, hk⟩
        · exact .inr (.inr ⟨s, List.mem_cons_self .., .inr rfl⟩)
        · exact .inr (.inl rfl)
        · exact .inr (.inr ⟨t, List.mem_cons_of_mem _ ht, hk⟩)
    · rintro (rfl | rfl | ⟨t, ht, hk⟩)
      · exact List.mem_cons_self ..
      · exact List.mem_cons_of_mem _ (ih.mpr (.inr (.inl rfl)))
      · rcases List.mem_cons.mp ht with rfl | ht
        · rcases hk with rfl | rfl
          · rw [h1]; exact List.mem_cons_self ..
          · exact List.mem_cons_of_mem _ (List.mem_cons_self ..)
        · exact List.mem_cons_of_mem _ (ih.mpr (.inr (.inr ⟨t, ht, hk⟩)))
theorem Tile.sorted : ∀ {T : List (Int × Int)} {a e : Int}, Tile a T e → (a :: T.map (·.2)).Pairwise (· < ·)
  | [], a, e, _ => List.pairwise_singleton _ _
  | s :: T, a, e, ⟨h1, h2, h3⟩ => by
    have ih := Tile.sorted h3
    refine List.pairwise_cons.mpr ⟨fun k hk => ?_, ih⟩
    rw [List.map_cons] at hk
    rcases List.mem_cons.mp hk with rfl | hk
    · omega
    · have := (List.pairwise_cons.mp ih).1 k hk
      omega
/-- the parts of tiles are the tiles -/
theorem Tile.parts {T U : List (Int × Int)} {w : Nat} (h : Tile 0 T (H2 w)) (hp : ∀ s, s ∈ U ↔ s ∈ T) : prsL (edgesOf w U) = T := by
  have e : edgesOf w U = 0 :: T.map (·.2) := by
    unfold edgesOf
    refine ssort_uniq h.sorted fun k => ?_
    rw [h.ends_mem, List.mem_append, mem_flat2]
    simp only [List.mem_cons, List.not_mem_nil, or_false, or_assoc, hp]
  rw [e, h.prs]
/-! ### the one leaf of all -/
theorem can_all {S : List (Int × Int)} {w : Nat} (h : ct S 0 (0 + H2 w) = H2 w) (hw : 1 ≤ w) : can S w 0 [] = [[42]] := by
  rw [can_full h]
  unfold leaf
  rw [if_neg (by omega)]
  rfl
theorem star_eq {ys : List Str} (h : ys.map tl = [[42]]) : ys = [("*" : Str)] := map_tl_inj (by rw [h, List.map_cons, tlStar]; rfl)
theorem Tile.all {T : List (Int × Int)} {w : Nat} (h : Tile 0 T (H2 w)) : G.ct T 0 (0 + H2 w) = H2 w := by
  rw [h.ct]
  have := H2_pos w
  omega
theorem prs_tile : ∀ {l : List Int} {a z : Int}, (a :: l).Pairwise (· < ·) → (a :: l).getLast? = some z → Tile a (prsL (a :: l)) z
  | [], a, z, _, hz => Option.some.inj hz
  | b :: l, a, z, hp, hz => by
    obtain ⟨h1, h2⟩ := List.pairwise_cons.mp hp
    refine ⟨rfl, h1 b (List.mem_cons_self ..), prs_tile h2 ?_⟩
    rw [List.getLast?_cons_cons] at hz
    exact hz
theorem parts_tile {w : Nat} {S : List (Int × Int)} (h : SpOk w S) : Tile 0 (prsL (edgesOf w S)) (H2 w) := by
  obtain ⟨l, e1, _, _, e4, _⟩ := edges_facts h
  have hs := ssort_sorted ([0, ((2 ^ w : Nat) : Int)] ++ flat2 S)
  change (edgesOf w S).Pairwise (· < ·) at hs
  rw [e1] at hs ⊢
  exact prs_tile hs e4
/-! ### an address in spans -/
theorem cn1_at (s : Int × Int) (n : Int) : cn1 s n (n + 1) = if ((decide (s.1 ≤ n)) && (decide (n < s.2))) = true then 1 else 0 := by
  unfold cn1
  by_cases h : s.1 ≤ n ∧ n < s.2
  · rw [decide_eq_true h.1, decide_eq_true h.2, if_pos (show (true && true) = true from rfl)]
    omega
  · rw [if_neg (by rw [Bool.and_eq_true, decide_eq_true_iff, decide_eq_true_iff]; exact h)]
    omega
end G
/-! Plain laws: how the signs of two patterns stand to one another. -/
namespace G
open PySem PySem.Spec PyProof.Rows L2 TL
theorem signs_cmp : ∀ (u v : List Nat), Bits u → Bits v → (∃ r, v = u ++ r) ∨ (∃ r, r ≠ [] ∧ u = v ++ r) ∨ Apart u v ∨ Apart v u
  | [], v, _, _ => .inl ⟨v, rfl⟩
  | a :: u, [], _, _ => .inr (.inl ⟨a :: u, by simp, rfl⟩)
  | a :: u, b :: v, hu, hv => by
    have ha := isB_iff.mp (hu a (List.mem_cons_self ..))
    have hb := isB_iff.mp (hv b (List.mem_cons_self ..))
    have diff : a ≠ b → (a = 48 ∧ b = 49) ∨ (b = 48 ∧ a = 49) := fun h => by omega
    by_cases h : a = b
    · subst h
      rcases signs_cmp u v (fun c hc => hu c (List.mem_cons_of_mem _ hc)) (fun c hc => hv c (List.mem_cons_of_mem _ hc)) with ⟨r, rfl⟩ | ⟨r, h1, rfl⟩ | ⟨c, p, q, rfl, rfl⟩ | ⟨c, p, q, rfl, rfl⟩
      · exact .inl ⟨r, rfl⟩
      · exact .inr (.inl ⟨r, h1, rfl⟩)
      · exact .inr (.inr (.inl ⟨a :: c, p, q, rfl, rfl⟩))
      · exact .inr (.inr (.inr ⟨a :: c, p, q, rfl, rfl⟩))
    · rcases diff h with ⟨rfl, rfl⟩ | ⟨rfl, rfl⟩
      · exact .inr (.inr (.inl ⟨[], u, v, rfl, rfl⟩))
      · exact .inr (.inr (.inr ⟨[], v, u, rfl, rfl⟩))
theorem spB_lt (w : Nat) (u : List Nat) : (spB w u).1 < (spB w u).2 := by
  unfold spB
  have := H2_pos (w - u.length)
  show beg u _ < beg u _ + H2 _
  omega
/-- what goes on from some signs lies within -/
theorem spB_nest {w : Nat} {u r : List Nat} (h : (u ++ r).length ≤ w) : (spB w u).1 ≤ (spB w (u ++ r)).1 ∧ (spB w (u ++ r)).2 ≤ (spB w u).2 := by
  rw [List.length_append] at h
  have hr := wr_lt r
  have e1 : beg (u ++ r) (w - (u ++ r).length) = ((wr u * 2 ^ (w - u.length) + wr r * 2 ^ (w - (u ++ r).length) : Nat) : Int) := by
    unfold beg
    rw [wr_app, List.length_append, Nat.add_mul, Nat.mul_assoc, ← Nat.pow_add, show r.length + (w - (u.length + r.length)) = w - u.length by omega]
  have e2 : 2 ^ r.length * 2 ^ (w - (u ++ r).length) = 2 ^ (w - u.length) := by
    rw [← Nat.pow_add, List.length_append, show r.length + (w - (u.length + r.length)) = w - u.length by omega]
  have e3 : (wr r + 1) * 2 ^ (w - (u ++ r).length) ≤ 2 ^ r.length * 2 ^ (w - (u ++ r).length) := Nat.mul_le_mul_right _ hr
  rw [e2, Nat.add_mul, Nat.one_mul] at e3
  unfold spB
  rw [e1]
  show ((wr u * 2 ^ (w - u.length) : Nat) : Int) ≤ _ ∧ _ + ((2 ^ (w - (u ++ r).length) : Nat) : Int) ≤ ((wr u * 2 ^ (w - u.length) : Nat) : Int) + ((2 ^ (w - u.length) : Nat) : Int)
  generalize 2 ^ (w - (u ++ r).length) = x at *
  generalize wr r * x = y at *
  generalize 2 ^ (w - u.length) = z at *
  generalize wr u * z = t at *
  omega
theorem spB_apart {w : Nat} {u v : List Nat} (h : Apart u v) (hu : u.length ≤ w) (hv : v.length ≤ w) : (spB w u).2 ≤ (spB w v).1 := by
  obtain ⟨c, p, q, rfl, rfl⟩ := h
  have e1 : c ++ 48 :: p = (c ++ [48]) ++ p := by simp
  have e2 : c ++ 49 :: q = (c ++ [49]) ++ q := by simp
  rw [e1] at hu ⊢
  rw [e2] at hv ⊢
  have h1 := (spB_nest (w := w) (u := c ++ [48]) (r := p) hu).2
  have h2 := (spB_nest (w := w) (u := c ++ [49]) (r := q) hv).1
  have hl : c.length + 1 ≤ w := by rw [List.length_append, List.length_append] at hu; have : [48].length = 1 := rfl; omega
  have k1 : (spB w (c ++ [48])).2 = (spB w (c ++ [49])).1 := by
    rw [spB_at (j := w - (c.length + 1)) (by rw [List.length_append]; show c.length + 1 + _ = _; omega), spB_at (j := w - (c.length + 1)) (by rw [List.length_append]; show c.length + 1 + _ = _; omega)]
    show beg (c ++ [48]) _ + H2 _ = beg (c ++ [49]) _
    rw [beg0, beg1]
  omega
/-- the second goes on from the first, or is greater at a sign -/
def Ord (u v : List Nat) : Prop := (∃ r, v = u ++ r) ∨ Apart u v
theorem lex_app {a b : Nat} (h : a < b) {x y : List Nat} : ∀ c : List Nat, c ++ a :: x < c ++ b :: y
  | [] => List.Lex.rel h
  | _ :: c => List.Lex.cons (lex_app h c)
theorem ord_of_le {w : Nat} {u v : List Nat} (hu : Bits u ∧ u.length ≤ w) (hv : Bits v ∧ v.length ≤ w) (hle : patL w u ≤ patL w v) : Ord u v := by
  rcases signs_cmp u v hu.1 hv.1 with ⟨r, rfl⟩ | ⟨r, h1, rfl⟩ | h | ⟨c, p, q, rfl, rfl⟩
  · exact .inl ⟨r, rfl⟩
  · exfalso
    cases r with
    | nil => exact h1 rfl
    | cons d r =>
      have hd := isB_iff.mp (hu.1 d (List.mem_append.mpr (.inr (List.mem_cons_self ..))))
      have hl := hu.2
      rw [List.length_append, List.length_cons] at hl
      refine List.not_le.mpr ?_ hle
      unfold patL
      rw [if_pos (show v.length < w by omega), List.append_assoc]
      exact lex_app (by omega) v
  · exact .inr h
  · exfalso
    refine List.not_le.mpr ?_ hle
    unfold patL
    rw [List.append_assoc, List.append_assoc]
    exact lex_app (by decide) c
theorem Ord.span {w : Nat} {u v : List Nat} (hu : u.length ≤ w) (hv : v.length ≤ w) (h : Ord u v) : ((spB w u).1 ≤ (spB w v).1 ∧ (spB w v).2 ≤ (spB w u).2) ∨ (spB w u).2 ≤ (spB w v).1 := by
  rcases h with ⟨r, rfl⟩ | h
  · exact .inl (spB_nest hv)
  · exact .inr (spB_apart h hu hv)
theorem any_span {w : Nat} {u v : List Nat} (hu : Bits u ∧ u.length ≤ w) (hv : Bits v ∧ v.length ≤ w) :
    ((spB w u).1 ≤ (spB w v).1 ∧ (spB w v).2 ≤ (spB w u).2) ∨ ((spB w v).1 ≤ (spB w u).1 ∧ (spB w u).2 ≤ (spB w v).2) ∨ (spB w u).2 ≤ (spB w v).1 ∨ (spB w v).2 ≤ (spB w u).1 := by
  rcases signs_cmp u v hu.1 hv.1 with ⟨r, rfl⟩ | ⟨r, _, rfl⟩ | h | h
  · exact .inl (spB_nest hv.2)
  · exact .inr (.inl (spB_nest hu.2))
  · exact .inr (.inr (.inl (spB_apart h hu.2 hv.2)))
  · exact .inr (.inr (.inr (spB_apart h hv.2 hu.2)))
/-! ### what a pattern's text is -/
def patB (cs : List Nat) (w : Int) : Bool :=
  let o : Bool := decide (cs.drop (cs.length - 1) = [42])
  let bits := cs.take (cs.length - (if o then 1 else 0))
  if bits.all isB then (if o then decide ((bits.length : Int) < w) else decide ((bits.length : Int) = w)) else false
theorem patB_pat {w : Nat} {u : List Nat} (hu : Bits u) (hl : u.length ≤ w) : patB (patL w u) (w : Int) = true := by
  have hall : u.all isB = true := List.all_eq_true.mpr hu
  unfold patL
  by_cases h : u.length < w
  · rw [if_pos h]
    have e1 : (u ++ [42]).drop ((u ++ [42]).length - 1) = [42] := by rw [List.length_append]; exact List.drop_left
    have e2 : (u ++ [42]).take ((u ++ [42]).length - 1) = u := by rw [List.length_append]; exact List.take_left
    have e3 : decide ((u ++ [42]).drop ((u ++ [42]).length - 1) = [42]) = true := decide_eq_true e1
    unfold patB
    simp only [e3, if_true, e2, hall]
    exact decide_eq_true (by omega)
  · rw [if_neg h, List.append_nil]
    have e1 : ¬ u.drop (u.length - 1) = [42] := fun z => hu.no42 (List.mem_of_mem_drop (show 42 ∈ u.drop (u.length - 1) by rw [z]; exact List.mem_singleton.mpr rfl))
    have e3 : decide (u.drop (u.length - 1) = [42]) = false := decide_eq_false e1
    have e2 : u.take (u.length - 0) = u := List.take_length
    unfold patB
    rw [e3]
    show (if (u.take (u.length - 0)).all isB = true then decide (((u.take (u.length - 0)).length : Int) = (w : Int)) else false) = true
    rw [e2, hall, if_pos rfl]
    exact decide_eq_true (by omega)
end G
/-! Plain laws: signs turned, signs put ahead and behind. -/
namespace G
open PySem PySem.Spec PyProof.Rows L2 TL
def flip (c : Nat) : Nat := 97 - c
def fl (u : List Nat) : List Nat := u.map flip
theorem fl_len (u : List Nat) : (fl u).length = u.length := List.length_map ..
theorem fl_bits {u : List Nat} (h : Bits u) : Bits (fl u) := fun c hc => by
  obtain ⟨d, hd, rfl⟩ := List.mem_map.mp hc
  have := isB_iff.mp (h d hd)
  exact isB_iff.mpr (by unfold flip; omega)
theorem fl_app (u v : List Nat) : fl (u ++ v) = fl u ++ fl v := List.map_append
theorem wr_fl : ∀ {u : List Nat}, Bits u → wr (fl u) + wr u + 1 = 2 ^ u.length
  | [], _ => rfl
  | c :: u, h => by
    have ih := wr_fl (u := u) fun d hd => h d (List.mem_cons_of_mem _ hd)
    have hc := isB_iff.mp (h c (List.mem_cons_self ..))
    show wr (flip c :: fl u) + _ + 1 = _
    rw [wr_cons, wr_cons, fl_len, List.length_cons, Nat.pow_succ]
    unfold flip
    rcases hc with rfl | rfl <;> simp <;> omega
/-- from the other end -/
def mir (W : Int) (s : Int × Int) : Int × Int := (W - s.2, W - s.1)
def shf (h : Int) (s : Int × Int) : Int × Int := (s.1 + h, s.2 + h)
def dbl (s : Int × Int) : Int × Int := (2 * s.1, 2 * s.2)
theorem spB_fl {w : Nat} {u : List Nat} (h : Bits u) (hl : u.length ≤ w) : spB w (fl u) = mir (H2 w) (spB w u) := by
  have e1 := wr_fl h
  have e2 : 2 ^ u.length * 2 ^ (w - u.length) = 2 ^ w := by rw [← Nat.pow_add]; congr 1; omega
  rw [← e1, Nat.add_mul, Nat.add_mul, Nat.one_mul] at e2
  unfold spB mir
  rw [fl_len]
  unfold beg H2
  generalize 2 ^ (w - u.length) = z at *
  generalize wr (fl u) * z = x at *
  generalize wr u * z = y at *
  refine Prod.ext ?_ ?_
  · show ((x : Nat) : Int) = ((2 ^ w : Nat) : Int) - (((y : Nat) : Int) + ((z : Nat) : Int))
    rw [← e2]; omega
  · show ((x : Nat) : Int) + ((z : Nat) : Int) = ((2 ^ w : Nat) : Int) - ((y : Nat) : Int)
    rw [← e2]; omega
theorem spB_0 {w : Nat} {u : List Nat} : spB (w + 1) (48 :: u) = spB w u := by
  unfold spB beg
  rw [wr_cons, if_neg (by decide), Nat.zero_mul, Nat.zero_add, List.length_cons, show w + 1 - (u.length + 1) = w - u.length by omega]
theorem spB_1 {w : Nat} {u : List Nat} (hl : u.length ≤ w) : spB (w + 1) (49 :: u) = shf (H2 w) (spB w u) := by
  have e2 : 2 ^ u.length * 2 ^ (w - u.length) = 2 ^ w := by rw [← Nat.pow_add]; congr 1; omega
  unfold spB beg shf H2
  rw [wr_cons, if_pos rfl, Nat.one_mul, List.length_cons, show w + 1 - (u.length + 1) = w - u.length by omega, Nat.add_mul, e2]
  refine Prod.ext ?_ ?_
  · show ((2 ^ w + wr u * 2 ^ (w - u.length) : Nat) : Int) = ((wr u * 2 ^ (w - u.length) : Nat) : Int) + ((2 ^ w : Nat) : Int)
    rw [Int.natCast_add]; omega
  · show ((2 ^ w + wr u * 2 ^ (w - u.length) : Nat) : Int) + ((2 ^ (w - u.length) : Nat) : Int) = ((wr u * 2 ^ (w - u.length) : Nat) : Int) + ((2 ^ (w - u.length) : Nat) : Int) + ((2 ^ w : Nat) : Int)
    rw [Int.natCast_add]; omega
theorem spB_dbl {w : Nat} {u : List Nat} (hl : u.length ≤ w) : spB (w + 1) u = dbl (spB w u) := by
  unfold spB beg dbl H2
  rw [show w + 1 - u.length = (w - u.length) + 1 by omega, Nat.pow_succ, ← Nat.mul_assoc]
  generalize wr u * 2 ^ (w - u.length) = x
  generalize 2 ^ (w - u.length) = z
  refine Prod.ext ?_ ?_
  · show ((x * 2 : Nat) : Int) = 2 * ((x : Nat) : Int)
    omega
  · show ((x * 2 : Nat) : Int) + ((z * 2 : Nat) : Int) = 2 * (((x : Nat) : Int) + ((z : Nat) : Int))
    omega
/-! ### ends -/
def EndOf (S : List (Int × Int)) (k : Int) : Prop := ∃ s ∈ S, k = s.1 ∨ k = s.2
theorem prs_snd : ∀ (l : List Int) (a : Int), (prsL (a :: l)).map (·.2) = l
  | [], _ => rfl
  | b :: l, a => by
    show b :: (prsL (b :: l)).map (·.2) = _
    rw [prs_snd l b]
theorem mem_edges {w : Nat} {S : List (Int × Int)} {k : Int} : k ∈ edgesOf w S ↔ k = 0 ∨ k = H2 w ∨ EndOf S k := by
  unfold edgesOf
  rw [ssort_mem, List.mem_append, mem_flat2]
  simp only [List.mem_cons, List.not_mem_nil, or_false, or_assoc]
  exact Iff.rfl
theorem parts_ends {w : Nat} {S : List (Int × Int)} (h : SpOk w S) (k : Int) : (k = 0 ∨ k = H2 w ∨ EndOf (prsL (edgesOf w S)) k) ↔ (k = 0 ∨ k = H2 w ∨ EndOf S k) := by
  have ht := parts_tile h
  obtain ⟨l, e1, _⟩ := edges_facts h
  have e2 := ht.ends_mem (k := k)
  refine Iff.trans ?_ mem_edges
  rw [e1] at e2 ⊢
  rw [prs_snd] at e2
  exact e2.symm
theorem parts_char {w : Nat} {T U : List (Int × Int)} (h : Tile 0 T (H2 w)) (hk : ∀ k, (k = 0 ∨ k = H2 w ∨ EndOf T k) ↔ (k = 0 ∨ k = H2 w ∨ EndOf U k)) : prsL (edgesOf w U) = T := by
  have e : edgesOf w U = 0 :: T.map (·.2) := by
    have hm : ∀ k, k ∈ 0 :: T.map (·.2) ↔ k ∈ edgesOf w U := fun k => by rw [h.ends_mem, mem_edges]; exact hk k
    unfold edgesOf at hm ⊢
    exact ssort_uniq h.sorted fun k => (hm k).trans ssort_mem
  rw [e, h.prs]
theorem Tile.mir : ∀ {T : List (Int × Int)} {a e W : Int}, Tile a T e → Tile (W - e) (T.map (G.mir W)).reverse (W - a)
  | [], a, e, W, h => by cases (show _ = _ from h); rfl
  | s :: T, a, e, W, ⟨h1, h2, h3⟩ => by
    rw [List.map_cons, List.reverse_cons]
    refine Tile.app (m := W - s.2) (Tile.mir h3) ⟨rfl, ?_, ?_⟩
    · show W - s.2 < W - s.1; omega
    · show W - s.1 = W - a; omega
theorem Tile.shf : ∀ {T : List (Int × Int)} {a e : Int} (h : Int), Tile a T e → Tile (a + h) (T.map (G.shf h)) (e + h)
  | [], a, e, h, k => by cases (show _ = _ from k); rfl
  | s :: T, a, e, h, ⟨h1, h2, h3⟩ => ⟨by show s.1 + h = a + h; omega, by show s.1 + h < s.2 + h; omega, Tile.shf h h3⟩
theorem Tile.dbl : ∀ {T : List (Int × Int)} {a e : Int}, Tile a T e → Tile (2 * a) (T.map G.dbl) (2 * e)
  | [], a, e, k => by cases (show _ = _ from k); rfl
  | s :: T, a, e, ⟨h1, h2, h3⟩ => ⟨by show 2 * s.1 = 2 * a; omega, by show 2 * s.1 < 2 * s.2; omega, Tile.dbl h3⟩
theorem Tile.last : ∀ {T : List (Int × Int)} {a e : Int}, Tile a T e → a < e → EndOf T e
  | [], a, e, h, hl => by cases (show _ = _ from h); omega
  | [s], a, e, ⟨h1, h2, h3⟩, _ => ⟨s, List.mem_cons_self .., .inr (show s.2 = e from h3).symm⟩
  | s :: t :: T, a, e, ⟨h1, h2, h3⟩, _ => by
    obtain ⟨r, hr, hk⟩ := Tile.last h3 (by have := h3.2.1; have := h3.1; have := h3.2.2.le; omega)
    exact ⟨r, List.mem_cons_of_mem _ hr, hk⟩
theorem end_mir {S : List (Int × Int)} {W k : Int} : EndOf (S.map (mir W)) k ↔ EndOf S (W - k) := by
  constructor
  · rintro ⟨t, ht, hk⟩
    obtain ⟨s, hs, rfl⟩ := List.mem_map.mp ht
    refine ⟨s, hs, ?_⟩
    have : k = W - s.2 ∨ k = W - s.1 := hk
    omega
  · rintro ⟨s, hs, hk⟩
    refine ⟨mir W s, List.mem_map.mpr ⟨s, hs, rfl⟩, ?_⟩
    show k = W - s.2 ∨ k = W - s.1
    omega
theorem end_rev {S : List (Int × Int)} {k : Int} : EndOf S.reverse k ↔ EndOf S k := by
  unfold EndOf
  simp only [List.mem_reverse]
theorem end_shf {S : List (Int × Int)} {h k : Int} : EndOf (S.map (shf h)) k ↔ EndOf S (k - h) := by
  constructor
  · rintro ⟨t, ht, hk⟩
    obtain ⟨s, hs, rfl⟩ := List.mem_map.mp ht
    refine ⟨s, hs, ?_⟩
    have : k = s.1 + h ∨ k = s.2 + h := hk
    omega
  · rintro ⟨s, hs, hk⟩
    refine ⟨shf h s, List.mem_map.mpr ⟨s, hs, rfl⟩, ?_⟩
    show k = s.1 + h ∨ k = s.2 + h
    omega
theorem end_app {S T : List (Int × Int)} {k : Int} : EndOf (S ++ T) k ↔ EndOf S k ∨ EndOf T k := by
  unfold EndOf
  constructor
  · rintro ⟨s, hs, hk⟩
    exact (List.mem_append.mp hs).elim (fun h => .inl ⟨s, h, hk⟩) fun h => .inr ⟨s, h, hk⟩
  · rintro (⟨s, hs, hk⟩ | ⟨s, hs, hk⟩)
    · exact ⟨s, List.mem_append.mpr (.inl hs), hk⟩
    · exact ⟨s, List.mem_append.mpr (.inr hs), hk⟩
theorem end_dbl {S : List (Int × Int)} {k : Int} : EndOf (S.map dbl) k ↔ ∃ j, k = 2 * j ∧ EndOf S j := by
  constructor
  · rintro ⟨t, ht, hk⟩
    obtain ⟨s, hs, rfl⟩ := List.mem_map.mp ht
    have : k = 2 * s.1 ∨ k = 2 * s.2 := hk
    rcases this with h | h
    · exact ⟨s.1, h, s, hs, .inl rfl⟩
    · exact ⟨s.2, h, s, hs, .inr rfl⟩
  · rintro ⟨j, rfl, s, hs, hk⟩
    refine ⟨dbl s, List.mem_map.mpr ⟨s, hs, rfl⟩, ?_⟩
    show 2 * j = 2 * s.1 ∨ 2 * j = 2 * s.2
    omega
theorem parts_mir {w : Nat} {S : List (Int × Int)} (h : SpOk w S) : prsL (edgesOf w (S.map (mir (H2 w)))) = ((prsL (edgesOf w S)).map (mir (H2 w))).reverse := by
  have ht := (parts_tile h).mir (W := H2 w)
  rw [Int.sub_self, Int.sub_zero] at ht
  refine parts_char ht fun k => ?_
  have := parts_ends h (H2 w - k)
  rw [end_rev, end_mir, end_mir]
  constructor
  · intro hk
    have := this.mp (by rcases hk with rfl | rfl | hk; exact .inr (.inl (by omega)); exact .inl (by omega); exact .inr (.inr hk))
    rcases this with h | h | h
    · exact .inr (.inl (by omega))
    · exact .inl (by omega)
    · exact .inr (.inr h)
  · intro hk
    have := this.mpr (by rcases hk with rfl | rfl | hk; exact .inr (.inl (by omega)); exact .inl (by omega); exact .inr (.inr hk))
    rcases this with h | h | h
    · exact .inr (.inl (by omega))
    · exact .inl (by omega)
    · exact .inr (.inr h)
theorem parts_ahead {w : Nat} {S : List (Int × Int)} (h : SpOk w S) : prsL (edgesOf (w + 1) (S ++ S.map (shf (H2 w)) ++ [(0, H2 w)])) = prsL (edgesOf w S) ++ (prsL (edgesOf w S)).map (shf (H2 w)) := by
  have hp := H2_pos w
  have h2 := H2_succ w
  have t := parts_tile h
  have ht := t.shf (H2 w)
  rw [Int.zero_add] at ht
  have hl := t.last hp
  refine parts_char (by rw [show H2 (w + 1) = H2 w + H2 w by omega]; exact t.app ht) fun k => ?_
  have a1 := parts_ends h k
  have a2 := parts_ends h (k - H2 w)
  rw [end_app, end_shf, end_app, end_app, end_shf]
  have hone : EndOf [((0 : Int), H2 w)] k ↔ k = 0 ∨ k = H2 w := by
    unfold EndOf
    simp
  rw [hone]
  constructor
  · rintro (hk | hk | hk | hk)
    · exact .inl hk
    · exact .inr (.inl hk)
    · rcases a1.mp (.inr (.inr hk)) with e | e | e
      · exact .inl e
      · exact .inr (.inr (.inr (.inr e)))
      · exact .inr (.inr (.inl (.inl e)))
    · rcases a2.mp (.inr (.inr hk)) with e | e | e
      · exact .inr (.inr (.inr (.inr (by omega))))
      · exact .inr (.inl (by omega))
      · exact .inr (.inr (.inl (.inr e)))
  · rintro (hk | hk | (hk | hk) | hk | hk)
    · exact .inl hk
    · exact .inr (.inl hk)
    · rcases a1.mpr (.inr (.inr hk)) with e | e | e
      · exact .inl e
      · exact .inr (.inr (.inl (e ▸ hl)))
      · exact .inr (.inr (.inl e))
    · rcases a2.mpr (.inr (.inr hk)) with e | e | e
      · exact .inr (.inr (.inl (by rw [show k = H2 w by omega]; exact hl)))
      · exact .inr (.inl (by omega))
      · exact .inr (.inr (.inr e))
    · exact .inl hk
    · exact .inr (.inr (.inl (hk ▸ hl)))
theorem parts_dbl {w : Nat} {S : List (Int × Int)} (h : SpOk w S) : prsL (edgesOf (w + 1) (S.map dbl)) = (prsL (edgesOf w S)).map dbl := by
  have h2 := H2_succ w
  have ht := (parts_tile h).dbl
  refine parts_char (by rw [h2]; exact ht) fun k => ?_
  rw [end_dbl, end_dbl]
  constructor
  · rintro (hk | hk | ⟨j, rfl, hk⟩)
    · exact .inl hk
    · exact .inr (.inl hk)
    · rcases (parts_ends h j).mp (.inr (.inr hk)) with e | e | e
      · exact .inl (by omega)
      · exact .inr (.inl (by omega))
      · exact .inr (.inr ⟨j, rfl, e⟩)
  · rintro (hk | hk | ⟨j, rfl, hk⟩)
    · exact .inl hk
    · exact .inr (.inl hk)
    · rcases (parts_ends h j).mpr (.inr (.inr hk)) with e | e | e
      · exact .inl (by omega)
      · exact .inr (.inl (by omega))
      · exact .inr (.inr ⟨j, rfl, e⟩)
/-! ### leaves -/
theorem ct_map {S : List (Int × Int)} {f : Int × Int → Int × Int} {x y x' y' c : Int} (h : ∀ s ∈ S, cn1 (f s) x y = c * cn1 s x' y') : ct (S.map f) x y = c * ct S x' y' := by
  induction S with
  | nil => rw [List.map_nil, ct_nil, ct_nil, Int.mul_zero]
  | cons s S ih => rw [List.map_cons, ct_cons, ct_cons, ih fun t ht => h t (List.mem_cons_of_mem _ ht), h s (List.mem_cons_self ..), Int.mul_add]
theorem ct_rever (S : List (Int × Int)) (x y : Int) : ct S.reverse x y = ct S x y := by
  induction S with
  | nil => rfl
  | cons s S ih => rw [List.reverse_cons, ct_app, ct_one, ct_cons, ih]; omega
theorem ct_mir (S : List (Int × Int)) (W x y : Int) : ct ((S.map (mir W)).reverse) x y = ct S (W - y) (W - x) := by
  rw [ct_rever, ct_map (c := 1) (x' := W - y) (y' := W - x) fun s _ => by unfold cn1 mir; show max 0 (min y (W - s.1) - max x (W - s.2)) = _; omega]
  omega
theorem ct_shf (S : List (Int × Int)) (h x y : Int) : ct (S.map (shf h)) x y = ct S (x - h) (y - h) := by
  rw [ct_map (c := 1) (x' := x - h) (y' := y - h) fun s _ => by unfold cn1 shf; show max 0 (min y (s.2 + h) - max x (s.1 + h)) = _; omega]
  omega
theorem ct_dbl (S : List (Int × Int)) (x y : Int) : ct (S.map dbl) (2 * x) (2 * y) = 2 * ct S x y :=
  ct_map (c := 2) fun s _ => by unfold cn1 dbl; show max 0 (min (2 * y) (2 * s.2) - max (2 * x) (2 * s.1)) = _; omega
theorem canB_mir {S : List (Int × Int)} (h : Rise S) (W : Int) (j : Nat) (a : Int) (bs : List Nat) : canB ((S.map (mir W)).reverse) j (W - (a + H2 j)) (fl bs) = ((canB S j a bs).map fl).reverse :=
  can_cases h (P := fun j a bs => canB ((S.map (mir W)).reverse) j (W - (a + H2 j)) (fl bs) = ((canB S j a bs).map fl).reverse) j a bs
    (fun j a bs e => by rw [canB_none e, canB_none (by rw [ct_mir, ← e]; congr 1 <;> omega)]; rfl)
    (fun j a bs e => by
      rw [canB_full e, canB_full (by rw [ct_mir]; rw [show W - (W - (a + H2 j) + H2 j) = a by omega, show W - (W - (a + H2 j)) = a + H2 j by omega]; exact e)]
      rfl)
    (fun j a bs e1 e2 i1 i2 => by
      have h2 := H2_succ j
      have e : ct ((S.map (mir W)).reverse) (W - (a + H2 (j + 1))) (W - (a + H2 (j + 1)) + H2 (j + 1)) = ct S a (a + H2 (j + 1)) := by
        rw [ct_mir, show W - (W - (a + H2 (j + 1)) + H2 (j + 1)) = a by omega, show W - (W - (a + H2 (j + 1))) = a + H2 (j + 1) by omega]
      rw [canB_part e1 e2, canB_part (by rw [e]; exact e1) (by rw [e]; exact e2), List.map_append, List.reverse_append, ← i1, ← i2, fl_app, fl_app,
        show W - (a + H2 (j + 1)) + H2 j = W - (a + H2 j) by omega, show a + H2 j + H2 j = a + H2 (j + 1) by omega]
      rfl)
theorem canB_shf {S : List (Int × Int)} (h : Rise S) (d : Int) (p : List Nat) (j : Nat) (a : Int) (bs : List Nat) : canB (S.map (shf d)) j (a + d) (p ++ bs) = (canB S j a bs).map (p ++ ·) :=
  can_cases h (P := fun j a bs => canB (S.map (shf d)) j (a + d) (p ++ bs) = (canB S j a bs).map (p ++ ·)) j a bs
    (fun j a bs e => by rw [canB_none e, canB_none (by rw [ct_shf, ← e]; congr 1 <;> omega)]; rfl)
    (fun j a bs e => by
      rw [canB_full e, canB_full (by rw [ct_shf, show a + d - d = a by omega, show a + d + H2 j - d = a + H2 j by omega]; exact e)]
      rfl)
    (fun j a bs e1 e2 i1 i2 => by
      have e : ct (S.map (shf d)) (a + d) (a + d + H2 (j + 1)) = ct S a (a + H2 (j + 1)) := by
        rw [ct_shf, show a + d - d = a by omega, show a + d + H2 (j + 1) - d = a + H2 (j + 1) by omega]
      rw [canB_part e1 e2, canB_part (by rw [e]; exact e1) (by rw [e]; exact e2), List.map_append, ← i1, ← i2, List.append_assoc, List.append_assoc, show a + d + H2 j = a + H2 j + d by omega])
theorem canB_dbl {S : List (Int × Int)} (h : Rise S) (j : Nat) (a : Int) (bs : List Nat) : canB (S.map dbl) (j + 1) (2 * a) bs = canB S j a bs :=
  can_cases h (P := fun j a bs => canB (S.map dbl) (j + 1) (2 * a) bs = canB S j a bs) j a bs
    (fun j a bs e => by
      have h2 := H2_succ j
      rw [canB_none e, canB_none (by rw [show 2 * a + H2 (j + 1) = 2 * (a + H2 j) by omega, ct_dbl, e]; rfl)])
    (fun j a bs e => by
      have h2 := H2_succ j
      rw [canB_full e, canB_full (by rw [show 2 * a + H2 (j + 1) = 2 * (a + H2 j) by omega, ct_dbl, e]; omega)])
    (fun j a bs e1 e2 i1 i2 => by
      have h2 := H2_succ j
      have h3 := H2_succ (j + 1)
      have e : ct (S.map dbl) (2 * a) (2 * a + H2 (j + 1 + 1)) = 2 * ct S a (a + H2 (j + 1)) := by rw [show 2 * a + H2 (j + 1 + 1) = 2 * (a + H2 (j + 1)) by omega, ct_dbl]
      rw [canB_part e1 e2, canB_part (by rw [e]; omega) (by rw [e]; omega), i1, show 2 * a + H2 (j + 1) = 2 * (a + H2 j) by omega, i2])
theorem canB_ahead {S : List (Int × Int)} (h : Rise S) {w : Nat} (hb : ∀ s ∈ S, 0 ≤ s.1 ∧ s.2 ≤ H2 w) : canB (S.map (shf (H2 w))) (w + 1) 0 [] = (canB S w 0 []).map ([49] ++ ·) := by
  have hp := H2_pos w
  have h2 := H2_succ w
  have neg : ∀ y, y ≤ H2 w → ct S (0 - H2 w) y = ct S 0 y := fun y _ => by
    have := ct_map (S := S) (f := id) (c := 1) (x := 0 - H2 w) (y := y) (x' := 0) (y' := y) fun s hs => by
      have := hb s hs
      unfold cn1
      show max 0 (min y s.2 - max (0 - H2 w) s.1) = _
      omega
    rw [List.map_id] at this
    omega
  have e0 : ct (S.map (shf (H2 w))) 0 (0 + H2 (w + 1)) = ct S 0 (0 + H2 w) := by rw [ct_shf, show 0 + H2 (w + 1) - H2 w = 0 + H2 w by omega, neg _ (by omega)]
  by_cases hz : ct S 0 (0 + H2 w) = 0
  · rw [canB_none hz, canB_none (by rw [e0]; exact hz)]
    rfl
  · have hl := ct_le h (a := 0) (e := 0 + H2 w) (by omega)
    have k1 : ct (S.map (shf (H2 w))) 0 (0 + H2 w) = 0 := by
      rw [ct_shf, show 0 + H2 w - H2 w = 0 by omega, neg 0 (by omega)]
      exact ct_rev (Int.le_refl _)
    rw [canB_part (by rw [e0]; exact hz) (by rw [e0]; omega), canB_none k1]
    have := canB_shf h (H2 w) [49] w 0 []
    rw [List.append_nil] at this
    exact this
theorem Pats.of {w : Nat} : ∀ {ps : List Str}, (∀ p ∈ ps, IsPat w p) → Pats w (ps.map bsOf) ps
  | [], _ => ⟨rfl, fun _ h => nomatch h⟩
  | p :: ps, h => by
    obtain ⟨u, pu⟩ := h p (List.mem_cons_self ..)
    have ih := Pats.of (ps := ps) fun q hq => h q (List.mem_cons_of_mem _ hq)
    rw [List.map_cons, bsOf_pat pu]
    refine ⟨by rw [List.map_cons, List.map_cons, pu.eq, ih.eq], fun v hv => ?_⟩
    rcases List.mem_cons.mp hv with rfl | hv
    · exact ⟨pu.bits, pu.le⟩
    · exact ih.ok v hv
theorem Pats.cons {w : Nat} {u : List Nat} {us : List (List Nat)} {y : Str} {ys : List Str} (p : Pat w u y) (h : Pats w us ys) : Pats w (u :: us) (y :: ys) :=
  ⟨by rw [List.map_cons, List.map_cons, p.eq, h.eq], fun v hv => by
    rcases List.mem_cons.mp hv with rfl | hv
    · exact ⟨p.bits, p.le⟩
    · exact h.ok v hv⟩
theorem Pats.nil {w : Nat} : Pats w [] [] := ⟨rfl, fun _ h => nomatch h⟩
theorem Pats.rev {w : Nat} {us : List (List Nat)} {ys : List Str} (h : Pats w us ys) : Pats w us.reverse ys.reverse :=
  ⟨by rw [List.map_reverse, List.map_reverse, h.eq], fun u hu => h.ok u (List.mem_reverse.mp hu)⟩
theorem Pats.uniq {w : Nat} {us : List (List Nat)} {ys zs : List Str} (h : Pats w us ys) (k : Pats w us zs) : ys = zs := G.map_tl_inj (by rw [h.eq, k.eq])
end G
/-! Plain laws: things of either type, membership, the bag of five. -/
namespace G
open PySem PySem.Spec PyProof.Rows L2 TL
instance {α : Type} [Enc α] [EqvD α] : EqvD (T1 α) := ⟨fun x y => by
  obtain ⟨a⟩ := x
  obtain ⟨c⟩ := y
  show (PyData.eqv (Enc.d a) (Enc.d c) && true) = true ↔ _
  rw [Bool.and_true, EqvD.iff, T1.mk.injEq]⟩
instance {α β γ δ ε : Type} [Enc α] [Enc β] [Enc γ] [Enc δ] [Enc ε] [EqvD α] [EqvD β] [EqvD γ] [EqvD δ] [EqvD ε] : EqvD (T5 α β γ δ ε) := ⟨fun x y => by
  obtain ⟨a, b, e, g, i⟩ := x
  obtain ⟨c, d, f, h, j⟩ := y
  show (PyData.eqv (Enc.d a) (Enc.d c) && (PyData.eqv (Enc.d b) (Enc.d d) && (PyData.eqv (Enc.d e) (Enc.d f) && (PyData.eqv (Enc.d g) (Enc.d h) && (PyData.eqv (Enc.d i) (Enc.d j) && true))))) = true ↔ _
  rw [Bool.and_true, Bool.and_eq_true, Bool.and_eq_true, Bool.and_eq_true, Bool.and_eq_true, EqvD.iff, EqvD.iff, EqvD.iff, EqvD.iff, EqvD.iff, T5.mk.injEq]⟩
theorem inD_dec {α : Type} [Enc α] [EqvD α] [DecidableEq α] {x : α} {xs : List α} : inD x xs = decide (x ∈ xs) := by
  rw [Bool.eq_iff_iff, decide_eq_true_iff]
  unfold inD
  rw [List.any_map, List.any_eq_true]
  constructor
  · rintro ⟨y, hy, e⟩
    have e' : PyData.eqv (Enc.d y) (Enc.d x) = true := e
    rw [← (EqvD.iff y x).mp e']
    exact hy
  · intro h
    exact ⟨x, h, (EqvD.iff x x).mpr rfl⟩
theorem inD_true {α : Type} [Enc α] [EqvD α] {x : α} {xs : List α} (h : x ∈ xs) : inD x xs = true := by
  unfold inD
  rw [List.any_map, List.any_eq_true]
  exact ⟨x, h, (EqvD.iff x x).mpr rfl⟩
theorem inD_false {α : Type} [Enc α] [EqvD α] {x : α} {xs : List α} (h : x ∉ xs) : inD x xs = false := by
  unfold inD
  rw [List.any_map, List.any_eq_false]
  intro y hy e
  have e' : PyData.eqv (Enc.d y) (Enc.d x) = true := e
  rw [← (EqvD.iff y x).mp e'] at h
  exact h hy
theorem rangeL_cons (lo : Int) (n : Nat) : rangeL lo (n + 1) = lo :: rangeL (lo + 1) n := rangeL_succ lo n
theorem bind3_some {α β γ δ : Type} {a : α} {b : β} {c : γ} {f : α → β → γ → Option δ} : bind3 (some (a, b, c)) f = f a b c := rfl
theorem bind4_some {α β γ δ ε : Type} {a : α} {b : β} {c : γ} {d : δ} {f : α → β → γ → δ → Option ε} : bind4 (some (a, b, c, d)) f = f a b c d := rfl
theorem erase_perm {α : Type} : ∀ {l : List α} {j : Nat} (h : j < l.length), (l[j] :: l.eraseIdx j).Perm l
  | x :: l, 0, _ => List.Perm.refl _
  | x :: l, j + 1, h => by
    have hj : j < l.length := by rw [List.length_cons] at h; omega
    have ih := erase_perm (l := l) (j := j) hj
    show (l[j] :: x :: l.eraseIdx j).Perm (x :: l)
    exact (List.Perm.swap _ _ _).trans (ih.cons x)
theorem popI_O {α : Type} {xs : List α} {i : Int} {P : α × List α → Prop} (h0 : 0 ≤ i) (h1 : i < xs.length) (h : ∀ j : Nat, ∀ hj : j < xs.length, i = (j : Nat) → P (xs[j], xs.eraseIdx j)) : O1 (popI xs i) P := by
  obtain ⟨n, rfl⟩ := Int.eq_ofNat_of_zero_le h0
  have hn : n < xs.length := by omega
  refine ⟨_, ?_, h n hn rfl⟩
  unfold popI ixN
  rw [if_pos (by omega), if_pos (by omega)]
  show Option.bind (some (Int.toNat (n : Int))) _ = _
  rw [Option.bind_some, Int.toNat_natCast, List.getElem?_eq_getElem hn]
  rfl
theorem mem_erase_idx {α : Type} {xs : List α} {j : Nat} {x : α} (h : x ∈ xs.eraseIdx j) : x ∈ xs := List.eraseIdx_subset h
theorem mem_cutL {α : Type} {xs : List α} {lo hi : Option Int} {x : α} (h : x ∈ cutL xs lo hi) : x ∈ xs := List.mem_of_mem_drop (List.mem_of_mem_take h)
theorem cutL_len {α : Type} (xs : List α) (lo hi : Option Int) : (cutL xs lo hi).length ≤ xs.length := by
  unfold cutL
  rw [List.length_take, List.length_drop]
  omega
theorem cutL_to {α : Type} (xs : List α) (n : Nat) : cutL xs none (some (n : Int)) = xs.take n := by
  unfold cutL
  rw [sIx_n, HT.sIx_nat, List.drop_zero, Nat.sub_zero]
  by_cases h : n ≤ xs.length
  · rw [Nat.min_eq_left h]
  · rw [Nat.min_eq_right (by omega), List.take_length, List.take_of_length_le (by omega)]
theorem cutL_from {α : Type} (xs : List α) (n : Nat) : cutL xs (some (n : Int)) none = xs.drop n := by
  unfold cutL
  rw [sIx_n, HT.sIx_nat]
  by_cases h : n ≤ xs.length
  · rw [Nat.min_eq_left h, List.take_of_length_le (by rw [List.length_drop]; omega)]
  · rw [Nat.min_eq_right (by omega), List.drop_length, List.take_nil, List.drop_of_length_le (by omega)]
theorem cutL_at {α : Type} (xs : List α) (n m : Nat) : cutL xs (some (n : Int)) (some (m : Int)) = (xs.drop n).take (m - n) := by
  unfold cutL
  rw [HT.sIx_nat, HT.sIx_nat]
  by_cases h : n ≤ xs.length
  · rw [Nat.min_eq_left h]
    by_cases h2 : m ≤ xs.length
    · rw [Nat.min_eq_left h2]
    · rw [Nat.min_eq_right (by omega), List.take_of_length_le (by rw [List.length_drop]; omega), List.take_of_length_le (by rw [List.length_drop]; omega)]
  · rw [show min n xs.length = xs.length from Nat.min_eq_right (by omega), List.drop_length, List.take_nil, List.drop_of_length_le (by omega), List.take_nil]
theorem undup_le {α : Type} [DecidableEq α] : ∀ l : List α, (undup l).length ≤ l.length
  | [] => Nat.le_refl _
  | x :: l => by
    have := undup_le l
    unfold undup
    split
    · rw [List.length_cons]; omega
    · rw [List.length_cons, List.length_cons]; omega
theorem undup_lt {α : Type} [DecidableEq α] : ∀ {l : List α}, (undup l).length < l.length ↔ ¬ l.Nodup
  | [] => by simp [undup]
  | x :: l => by
    have h1 := undup_le l
    have h2 := undup_lt (l := l)
    unfold undup
    rw [List.nodup_cons]
    by_cases h : x ∈ l
    · rw [if_pos h, List.length_cons]
      exact ⟨fun _ z => z.1 h, fun _ => by omega⟩
    · rw [if_neg h, List.length_cons, List.length_cons, Nat.add_lt_add_iff_right, h2]
      exact ⟨fun z w => z w.2, fun z w => z ⟨h, w⟩⟩
end G
/-! Plain: lists by length and then by signs; going through a net from near to far. -/
namespace G
/-- as long, and first by signs -/
def lx : List Int → List Int → Prop
  | x :: xs, y :: ys => x < y ∨ (x = y ∧ lx xs ys)
  | _, _ => False
def Lt2 (a b : List Int) : Prop := a.length < b.length ∨ (a.length = b.length ∧ lx a b)
def Le2 (a b : List Int) : Prop := a = b ∨ Lt2 a b
theorem lx_irrefl : ∀ a : List Int, ¬ lx a a
  | [], h => h
  | x :: a, h => by
    rcases h with h | ⟨_, h⟩
    · omega
    · exact lx_irrefl a h
theorem lx_trans : ∀ {a b c : List Int}, lx a b → lx b c → lx a c
  | [], _, _, h, _ => h.elim
  | _ :: _, [], _, h, _ => h.elim
  | _ :: _, _ :: _, [], _, h => h.elim
  | x :: a, y :: b, z :: c, h1, h2 => by
    rcases h1 with h1 | ⟨e1, h1⟩ <;> rcases h2 with h2 | ⟨e2, h2⟩
    · exact .inl (by omega)
    · exact .inl (by omega)
    · exact .inl (by omega)
    · exact .inr ⟨e1.trans e2, lx_trans h1 h2⟩
theorem lx_tri : ∀ {a b : List Int}, a.length = b.length → a = b ∨ lx a b ∨ lx b a
  | [], [], _ => .inl rfl
  | [], _ :: _, h => by cases h
  | _ :: _, [], h => by cases h
  | x :: a, y :: b, h => by
    have h' : a.length = b.length := by simpa using h
    rcases Int.lt_trichotomy x y with c | c | c
    · exact .inr (.inl (.inl c))
    · rcases lx_tri h' with e | e | e
      · exact .inl (by rw [c, e])
      · exact .inr (.inl (.inr ⟨c, e⟩))
      · exact .inr (.inr (.inr ⟨c.symm, e⟩))
    · exact .inr (.inr (.inl c))
theorem lx_app : ∀ {a b : List Int} (c d : List Int), a.length = b.length → lx a b → lx (a ++ c) (b ++ d)
  | [], _, _, _, _, h => h.elim
  | _ :: _, [], _, _, _, h => h.elim
  | x :: a, y :: b, c, d, hl, h => by
    rcases h with h | ⟨e, h⟩
    · exact .inl h
    · exact .inr ⟨e, lx_app c d (by simpa using hl) h⟩
theorem lx_same : ∀ (a : List Int) {c d : List Int}, lx c d → lx (a ++ c) (a ++ d)
  | [], _, _, h => h
  | _ :: a, _, _, h => .inr ⟨rfl, lx_same a h⟩
theorem Lt2.irrefl (a : List Int) : ¬ Lt2 a a := fun h => h.elim (Nat.lt_irrefl _) (fun h => lx_irrefl a h.2)
theorem Lt2.trans {a b c : List Int} (h1 : Lt2 a b) (h2 : Lt2 b c) : Lt2 a c := by
  rcases h1 with h1 | ⟨e1, h1⟩ <;> rcases h2 with h2 | ⟨e2, h2⟩
  · exact .inl (by omega)
  · exact .inl (by omega)
  · exact .inl (by omega)
  · exact .inr ⟨e1.trans e2, lx_trans h1 h2⟩
theorem Lt2.tri (a b : List Int) : a = b ∨ Lt2 a b ∨ Lt2 b a := by
  rcases Nat.lt_trichotomy a.length b.length with c | c | c
  · exact .inr (.inl (.inl c))
  · rcases lx_tri c with e | e | e
    · exact .inl e
    · exact .inr (.inl (.inr ⟨c, e⟩))
    · exact .inr (.inr (.inr ⟨c.symm, e⟩))
  · exact .inr (.inr (.inl c))
theorem Le2.refl (a : List Int) : Le2 a a := .inl rfl
theorem Le2.trans {a b c : List Int} (h1 : Le2 a b) (h2 : Le2 b c) : Le2 a c := by
  rcases h1 with rfl | h1
  · exact h2
  · rcases h2 with rfl | h2
    · exact .inr h1
    · exact .inr (h1.trans h2)
theorem Le2.anti {a b : List Int} (h1 : Le2 a b) (h2 : Le2 b a) : a = b := by
  rcases h1 with e | h1
  · exact e
  · rcases h2 with e | h2
    · exact e.symm
    · exact absurd (h1.trans h2) (Lt2.irrefl a)
theorem Le2.len {a b : List Int} (h : Le2 a b) : a.length ≤ b.length := by
  rcases h with rfl | h | h
  · exact Nat.le_refl _
  · exact Nat.le_of_lt h
  · exact Nat.le_of_eq h.1
theorem Lt2.snoc {a b : List Int} (x y : Int) (h : Lt2 a b) : Lt2 (a ++ [x]) (b ++ [y]) := by
  rcases h with h | ⟨e, h⟩
  · exact .inl (by simp; exact h)
  · exact .inr ⟨by simp; exact e, lx_app _ _ e h⟩
theorem Lt2.last (a : List Int) {x y : Int} (h : x < y) : Lt2 (a ++ [x]) (a ++ [y]) := .inr ⟨by simp, lx_same a (.inl h)⟩
theorem Le2.snoc {a b : List Int} (x : Int) (h : Le2 a b) : Le2 (a ++ [x]) (b ++ [x]) := by
  rcases h with rfl | h
  · exact .inl rfl
  · exact .inr (h.snoc x x)
/-- put together -/
theorem Le2.app {a b c d : List Int} (h1 : Le2 a b) (h2 : Le2 c d) : Le2 (a ++ c) (b ++ d) := by
  rcases h1 with rfl | h1
  · rcases h2 with rfl | h2
    · exact .inl rfl
    · refine .inr ?_
      rcases h2 with h2 | ⟨e, h2⟩
      · exact .inl (by simp; exact h2)
      · exact .inr ⟨by simp; exact e, lx_same a h2⟩
  · refine .inr ?_
    have l2 := h2.len
    rcases h1 with h1 | ⟨e, h1⟩
    · exact .inl (by simp; omega)
    · by_cases hl : c.length = d.length
      · exact .inr ⟨by simp; omega, lx_app _ _ e h1⟩
      · exact .inl (by simp; omega)

/-! ### from near to far -/
section
variable {S : Type} [DecidableEq S] (hs : S → Int) (out : S → List S) (ex : List Int → Prop) (b : S)
/-- a walk from b, by its signs -/
inductive Wk : S → List Int → Prop
  | one : Wk b [hs b]
  | step {u : S} {l : List Int} {o : S} : Wk u l → o ∈ out u → Wk o (l ++ [hs o])
structure BI (D P : List (S × List Int)) : Prop where
  nd : ((D ++ P).map (·.1)).Nodup
  srt : ((D ++ P).map (·.2)).Pairwise Lt2
  par : ∀ e ∈ D ++ P, e = (b, [hs b]) ∨ ∃ u ∈ D, ex u.2 ∧ e.1 ∈ out u.1 ∧ e.2 = u.2 ++ [hs e.1]
  cl : ∀ u ∈ D, ex u.2 → ∀ o ∈ out u.1, ∃ l, (o, l) ∈ D ++ P ∧ Le2 l (u.2 ++ [hs o])
  bg : (b, [hs b]) ∈ D ++ P
structure BJ (D : List (S × List Int)) (u : S × List Int) (P : List (S × List Int)) (dn os : List S) : Prop where
  sp : out u.1 = dn ++ os
  up : (out u.1).Pairwise fun x y => hs x < hs y
  eu : ex u.2
  nd : ((D ++ u :: P).map (·.1)).Nodup
  srt : ((D ++ u :: P).map (·.2)).Pairwise Lt2
  par : ∀ e ∈ D ++ u :: P, e = (b, [hs b]) ∨ (∃ v ∈ D, ex v.2 ∧ e.1 ∈ out v.1 ∧ e.2 = v.2 ++ [hs e.1]) ∨ (e.1 ∈ dn ∧ e.2 = u.2 ++ [hs e.1])
  cl : ∀ v ∈ D, ex v.2 → ∀ o ∈ out v.1, ∃ l, (o, l) ∈ D ++ u :: P ∧ Le2 l (v.2 ++ [hs o])
  cu : ∀ o ∈ dn, ∃ l, (o, l) ∈ D ++ u :: P ∧ Le2 l (u.2 ++ [hs o])
  bg : (b, [hs b]) ∈ D ++ u :: P
variable {hs out ex b}
theorem BI.start : BI hs out ex b [] [(b, [hs b])] :=
  ⟨by simp, by simp, fun e he => .inl (by simpa using he), (fun _ h => nomatch h), by simp⟩
theorem BI.open_ {D P : List (S × List Int)} {u : S × List Int} (h : BI hs out ex b D (u :: P)) (hu : ex u.2) (up : (out u.1).Pairwise fun x y => hs x < hs y) : BJ hs out ex b D u P [] (out u.1) :=
  ⟨rfl, up, hu, h.nd, h.srt, fun e he => (h.par e he).imp id .inl, h.cl, (fun _ h => nomatch h), h.bg⟩
theorem BI.pass {D P : List (S × List Int)} {u : S × List Int} (h : BI hs out ex b D (u :: P)) (hu : ¬ ex u.2) : BI hs out ex b (D ++ [u]) P := by
  have e : D ++ [u] ++ P = D ++ u :: P := by simp
  refine ⟨by rw [e]; exact h.nd, by rw [e]; exact h.srt, fun x hx => ?_, fun v hv hx o ho => ?_, by rw [e]; exact h.bg⟩
  · rcases h.par x (e ▸ hx) with z | ⟨v, hv, r⟩
    · exact .inl z
    · exact .inr ⟨v, List.mem_append_left _ hv, r⟩
  · rw [e]
    rcases List.mem_append.mp hv with hv | hv
    · exact h.cl v hv hx o ho
    · rw [List.mem_singleton.mp hv] at hx
      exact absurd hx hu
theorem BJ.done {D P : List (S × List Int)} {u : S × List Int} {dn : List S} (h : BJ hs out ex b D u P dn []) : BI hs out ex b (D ++ [u]) P := by
  have e : D ++ [u] ++ P = D ++ u :: P := by simp
  have sp : out u.1 = dn := by rw [h.sp, List.append_nil]
  refine ⟨by rw [e]; exact h.nd, by rw [e]; exact h.srt, fun x hx => ?_, fun v hv hx o ho => ?_, by rw [e]; exact h.bg⟩
  · rcases h.par x (e ▸ hx) with z | ⟨v, hv, r⟩ | ⟨h1, h2⟩
    · exact .inl z
    · exact .inr ⟨v, List.mem_append_left _ hv, r⟩
    · exact .inr ⟨u, by simp, h.eu, by rw [sp]; exact h1, h2⟩
  · rw [e]
    rcases List.mem_append.mp hv with hv | hv
    · exact h.cl v hv hx o ho
    · rw [List.mem_singleton.mp hv] at hx ho ⊢
      exact h.cu o (sp ▸ ho)
theorem BJ.ne {D P : List (S × List Int)} {u : S × List Int} {dn os : List S} (h : BJ hs out ex b D u P dn os) {e : S × List Int} (he : e ∈ D ++ u :: P) : 0 < e.2.length := by
  rcases h.par e he with z | ⟨v, _, _, _, z⟩ | ⟨_, z⟩
  · rw [z]; exact Nat.succ_pos _
  · rw [z, List.length_append]; exact Nat.succ_pos _
  · rw [z, List.length_append]; exact Nat.succ_pos _
/-- all that is there is ahead of what comes next -/
theorem BJ.less {D P : List (S × List Int)} {u : S × List Int} {dn os : List S} {o : S} (h : BJ hs out ex b D u P dn (o :: os)) {e : S × List Int} (he : e ∈ D ++ u :: P) : Lt2 e.2 (u.2 ++ [hs o]) := by
  have hu := h.ne (e := u) (by simp)
  rcases h.par e he with z | ⟨v, hv, _, _, z⟩ | ⟨h1, z⟩
  · rw [z]
    exact .inl (by simp; omega)
  · rw [z]
    refine Lt2.snoc _ _ ?_
    have := h.srt
    rw [List.map_append, List.map_cons, List.pairwise_append] at this
    exact this.2.2 v.2 (List.mem_map.mpr ⟨v, hv, rfl⟩) u.2 (List.mem_cons_self ..)
  · rw [z]
    refine Lt2.last _ ?_
    have := h.up
    rw [h.sp, List.pairwise_append] at this
    exact this.2.2 e.1 h1 o (List.mem_cons_self ..)
theorem BJ.skip {D P : List (S × List Int)} {u : S × List Int} {dn os : List S} {o : S} (h : BJ hs out ex b D u P dn (o :: os)) (hk : o ∈ (D ++ u :: P).map (·.1)) : BJ hs out ex b D u P (dn ++ [o]) os := by
  obtain ⟨e, he, rfl⟩ := List.mem_map.mp hk
  refine ⟨by rw [h.sp]; simp, h.up, h.eu, h.nd, h.srt, fun x hx => ?_, h.cl, fun x hx => ?_, h.bg⟩
  · rcases h.par x hx with z | z | ⟨h1, h2⟩
    · exact .inl z
    · exact .inr (.inl z)
    · exact .inr (.inr ⟨List.mem_append_left _ h1, h2⟩)
  · rcases List.mem_append.mp hx with hx | hx
    · exact h.cu x hx
    · rw [List.mem_singleton.mp hx]
      exact ⟨e.2, he, .inr (h.less he)⟩
theorem BJ.add {D P : List (S × List Int)} {u : S × List Int} {dn os : List S} {o : S} (h : BJ hs out ex b D u P dn (o :: os)) (hk : o ∉ (D ++ u :: P).map (·.1)) : BJ hs out ex b D u (P ++ [(o, u.2 ++ [hs o])]) (dn ++ [o]) os := by
  have e : D ++ u :: (P ++ [(o, u.2 ++ [hs o])]) = (D ++ u :: P) ++ [(o, u.2 ++ [hs o])] := by simp
  refine ⟨by rw [h.sp]; simp, h.up, h.eu, ?_, ?_, fun x hx => ?_, fun v hv hx z hz => ?_, fun x hx => ?_, by rw [e]; exact List.mem_append_left _ h.bg⟩
  · rw [e, List.map_append]
    refine List.nodup_append.mpr ⟨h.nd, by simp, fun x hx y hy => ?_⟩
    have hy' : y = o := by simpa using hy
    rw [hy']
    exact fun z => hk (z ▸ hx)
  · rw [e, List.map_append, List.pairwise_append]
    refine ⟨h.srt, by simp, fun x hx y hy => ?_⟩
    have hy' : y = u.2 ++ [hs o] := by simpa using hy
    rw [hy']
    obtain ⟨z, hz, rfl⟩ := List.mem_map.mp hx
    exact h.less hz
  · rw [e] at hx
    rcases List.mem_append.mp hx with hx | hx
    · rcases h.par x hx with z | z | ⟨h1, h2⟩
      · exact .inl z
      · exact .inr (.inl z)
      · exact .inr (.inr ⟨List.mem_append_left _ h1, h2⟩)
    · rw [List.mem_singleton.mp hx]
      exact .inr (.inr ⟨by simp, rfl⟩)
  · obtain ⟨l, h1, h2⟩ := h.cl v hv hx z hz
    exact ⟨l, by rw [e]; exact List.mem_append_left _ h1, h2⟩
  · rcases List.mem_append.mp hx with hx | hx
    · obtain ⟨l, h1, h2⟩ := h.cu x hx
      exact ⟨l, by rw [e]; exact List.mem_append_left _ h1, h2⟩
    · rw [List.mem_singleton.mp hx]
      exact ⟨u.2 ++ [hs o], by rw [e]; simp, .inl rfl⟩
/-- what stands there is a walk -/
theorem BI.walks {D : List (S × List Int)} (h : BI hs out ex b D []) : ∀ (n : Nat) (e : S × List Int), e ∈ D → e.2.length ≤ n → Wk hs out b e.1 e.2
  | 0, e, he, hn => by
    rcases h.par e (by simpa using he) with z | ⟨v, _, _, _, z⟩
    · rw [z] at hn; simp at hn
    · rw [z] at hn; simp at hn
  | n + 1, e, he, hn => by
    rcases h.par e (by simpa using he) with z | ⟨v, hv, _, ho, z⟩
    · rw [z]; exact .one
    · rw [z]
      refine .step (BI.walks h n v hv ?_) ho
      rw [z] at hn
      simp at hn
      exact hn
theorem Wk.ne {s : S} {l : List Int} (h : Wk hs out b s l) : 0 < l.length := by
  cases h with
  | one => exact Nat.succ_pos _
  | step _ _ => rw [List.length_append]; exact Nat.succ_pos _
/-- and none is ahead of it -/
theorem BI.best {D : List (S × List Int)} (h : BI hs out ex b D []) (exm : ∀ l l' : List Int, l.length ≤ l'.length → ex l' → ex l) {s : S} {w : List Int} (hw : Wk hs out b s w) : (w.length = 1 ∨ ex w.dropLast) → ∃ l, (s, l) ∈ D ∧ Le2 l w := by
  induction hw with
  | one => exact fun _ => ⟨_, by simpa using h.bg, .inl rfl⟩
  | @step u l o hw ho ih =>
    intro hx
    have hl := hw.ne
    have hx' : ex l := by
      rcases hx with z | z
      · rw [List.length_append, List.length_singleton] at z; omega
      · rwa [List.dropLast_concat] at z
    obtain ⟨l', h1, h2⟩ := ih (by
      by_cases hc : l.length = 1
      · exact .inl hc
      · exact .inr (exm _ _ (by rw [List.length_dropLast]; omega) hx'))
    obtain ⟨l2, h3, h4⟩ := h.cl (u, l') h1 (exm _ _ h2.len hx') o ho
    exact ⟨l2, by simpa using h3, h4.trans (h2.snoc _)⟩
/-- no more entries than there are stands -/
theorem BI.few {D P : List (S × List Int)} (h : BI hs out ex b D P) {U : List S} (hU : ∀ s, (∃ l, (s, l) ∈ D ++ P) → s ∈ U) : D.length + P.length ≤ U.length := by
  have := len_same.go h.nd (b := U) fun x hx => by
    obtain ⟨e, he, rfl⟩ := List.mem_map.mp hx
    exact hU e.1 ⟨e.2, he⟩
  rw [List.length_map, List.length_append] at this
  exact this
theorem BI.one {D : List (S × List Int)} (h : BI hs out ex b D []) {s : S} {l : List Int} (hl : (s, l) ∈ D) : dval D s = some l := by
  have nd := h.nd
  rw [List.append_nil] at nd
  clear h
  induction D with
  | nil => cases hl
  | cons e D ih =>
    rw [List.map_cons, List.nodup_cons] at nd
    rcases List.mem_cons.mp hl with rfl | hl
    · exact dval_pos rfl
    · rw [dval_neg (fun z => nd.1 (by rw [z]; exact List.mem_map.mpr ⟨_, hl, rfl⟩))]
      exact ih hl nd.2
theorem dval_mem {β : Type} {D : List (S × β)} {s : S} {l : β} (h : dval D s = some l) : (s, l) ∈ D := by
  induction D with
  | nil => cases h
  | cons e D ih =>
    by_cases hc : e.1 = s
    · rw [dval_pos hc] at h
      cases h
      rw [← hc]
      exact List.mem_cons_self ..
    · rw [dval_neg hc] at h
      exact List.mem_cons_of_mem _ (ih h)
theorem dval_isS {β : Type} {D : List (S × β)} {s : S} : (dval D s).isSome = true ↔ s ∈ D.map (·.1) := by
  induction D with
  | nil => simp [dval_nil]
  | cons e D ih =>
    rw [List.map_cons, List.mem_cons]
    by_cases hc : e.1 = s
    · rw [dval_pos hc]; simp [hc]
    · rw [dval_neg hc, ih]
      constructor
      · exact .inr
      · rintro (z | z)
        · exact absurd z.symm hc
        · exact z
theorem dput_new {β : Type} {D : List (S × β)} {s : S} {y : β} (h : s ∉ D.map (·.1)) : dput D s y = D ++ [(s, y)] := by
  unfold dput
  rw [if_neg (fun z => h (dval_isS.mp z))]
end
end G
/-! Plain laws: data that are shown in a text short enough. -/
namespace G
open PySem PySem.Spec PyProof.Rows L2 TL
def Fit (n : Nat) (d : PyData) : Prop := d.weight ≤ n ∧ d.leavesShort 40 = true ∧ d.showable = true
theorem Fit.mono {n m : Nat} {d : PyData} (h : Fit n d) (k : n ≤ m) : Fit m d := ⟨Nat.le_trans h.1 k, h.2⟩
theorem Fit.int {i : Int} (h : i.natAbs < 10 ^ 38) : Fit 128 (.int i) := by
  have h1 : i.natAbs < 2 ^ 127 := Nat.lt_trans h (by decide)
  have h2 : i.natAbs.log2 < 127 := by
    by_cases z : i.natAbs = 0
    · rw [z]; decide
    · exact (Nat.log2_lt z).mpr h1
  have h3 : (PyData.shown (.int i)).length ≤ 39 := by
    have e : PyData.shown (.int i) = Str.ofString (toString i) := rfl
    rw [e, ofString_len]
    exact int_text_length_le10 (by decide) h
  refine ⟨?_, ?_, ?_⟩
  · simp only [PyData.weight]
    split <;> omega
  · simp only [PyData.leavesShort]; exact decide_eq_true (by omega)
  · simp only [PyData.showable]; exact decide_eq_true (by omega)
theorem Fit.none_ : Fit 0 .none := ⟨Nat.le_refl _, rfl, rfl⟩
theorem Fit.bool_ {b : Bool} : Fit 0 (.bool b) := ⟨Nat.le_refl _, rfl, rfl⟩
theorem Fit.str {x : Str} {n : Nat} (h : (tl x).length ≤ n) (hc : ∀ c ∈ tl x, c < 16 ^ 8) : Fit n (.str x) := by
  refine ⟨?_, ?_, rfl⟩
  · simp only [PyData.weight]; rw [← Array.length_toList]; exact h
  · simp only [PyData.leavesShort, List.all_eq_true, decide_eq_true_eq]; exact hc
theorem Fit.opt {α : Type} [Enc α] {o : Option α} {n : Nat} (h : ∀ x, o = some x → Fit n (Enc.d x)) : Fit n (Enc.d o) := by
  cases o with
  | none => exact Fit.none_.mono (Nat.zero_le _)
  | some x => exact h x rfl
def FitA (n : Nat) (ds : List PyData) : Prop := PyData.weightAll ds ≤ n ∧ PyData.leavesShortAll 40 ds = true ∧ PyData.showableAll ds = true
theorem FitA.nil : FitA 0 [] := ⟨Nat.le_refl _, rfl, rfl⟩
theorem FitA.cons {n m : Nat} {d : PyData} {ds : List PyData} (h : Fit n d) (hs : FitA m ds) : FitA (n + 1 + m) (d :: ds) := by
  refine ⟨?_, ?_, ?_⟩
  · simp only [PyData.weightAll]; have := h.1; have := hs.1; omega
  · simp only [PyData.leavesShortAll, Bool.and_eq_true]; exact ⟨h.2.1, hs.2.1⟩
  · simp only [PyData.showableAll, Bool.and_eq_true]; exact ⟨h.2.2, hs.2.2⟩
theorem FitA.mono {n m : Nat} {ds : List PyData} (h : FitA n ds) (k : n ≤ m) : FitA m ds := ⟨Nat.le_trans h.1 k, h.2⟩
theorem FitA.all {n : Nat} : ∀ {ds : List PyData}, (∀ d ∈ ds, Fit n d) → FitA (ds.length * (n + 1)) ds
  | [], _ => FitA.nil.mono (Nat.zero_le _)
  | d :: ds, h => by
    refine (FitA.cons (h d (List.mem_cons_self ..)) (FitA.all fun x hx => h x (List.mem_cons_of_mem _ hx))).mono ?_
    rw [List.length_cons, Nat.add_mul, Nat.one_mul]
    omega
theorem Fit.list {n : Nat} {ds : List PyData} (h : FitA n ds) : Fit n (.list ds) := ⟨h.1, h.2⟩
theorem Fit.tuple {n : Nat} {ds : List PyData} (h : FitA n ds) : Fit n (.tuple ds) := ⟨h.1, h.2⟩
theorem Fit.L {α : Type} [Enc α] {xs : List α} {n m : Nat} (h : ∀ x ∈ xs, Fit n (Enc.d x)) (hm : xs.length ≤ m) : Fit (m * (n + 1)) (Enc.d xs) := by
  refine Fit.list ((FitA.all (n := n) (ds := xs.map Enc.d) fun d hd => ?_).mono ?_)
  · obtain ⟨x, hx, rfl⟩ := List.mem_map.mp hd
    exact h x hx
  · rw [List.length_map]; exact Nat.mul_le_mul_right _ hm
theorem Fit.VT {α : Type} [Enc α] {xs : VT α} {n m : Nat} (h : ∀ x ∈ xs.l, Fit n (Enc.d x)) (hm : xs.l.length ≤ m) : Fit (m * (n + 1)) (Enc.d xs) := by
  have := Fit.L h hm
  exact ⟨this.1, this.2⟩
theorem reprO_some {α : Type} [Enc α] {x : α} {n : Nat} (h : Fit n (Enc.d x)) (hn : n ≤ 399000) : reprO x = some (Enc.d x).shown := by
  have h1 := PyData.shown_le 40 (by decide) _ h.2.1
  have h2 := h.1
  unfold reprO
  rw [if_pos ⟨h.2.2, by rw [sizeLine_eq]; omega⟩]
theorem reprO_O {α : Type} [Enc α] {x : α} {n : Nat} {P : Str → Prop} (h : Fit n (Enc.d x)) (hn : n ≤ 399000) (p : P (Enc.d x).shown) : O1 (reprO x) P := ⟨_, reprO_some h hn, p⟩
theorem Fit.ints {xs : List Int} {m : Nat} (h : ∀ x ∈ xs, x.natAbs < 10 ^ 38) (hm : xs.length ≤ m) : Fit (m * 129) (Enc.d xs) := Fit.L (fun x hx => Fit.int (h x hx)) hm
theorem Fit.pair {x y : Int} (hx : x.natAbs < 10 ^ 38) (hy : y.natAbs < 10 ^ 38) : Fit 258 (Enc.d (x, y)) := Fit.tuple ((FitA.cons (Fit.int hx) (FitA.cons (Fit.int hy) FitA.nil)).mono (by omega))
/-! ### a loop of a law's own, that goes on -/
section
variable {α R S T : Type} {I : S → Prop}
def OL (I : S → Prop) (o : Option (Lp S R)) : Prop := ∃ b, o = some (.go b) ∧ I b
theorem OL.ret {b : S} (h : I b) : OL I (some (.go b) : Option (Lp S R)) := ⟨b, rfl, h⟩
theorem OL.bind {o : Option (α × T)} {J : T → Prop} {f : α → T → Option (Lp S R)} {P : α → Prop} (h : O2 J o P) (k : ∀ a b, J b → P a → OL I (f a b)) : OL I (bind2 o f) := by
  obtain ⟨a, b, rfl, i, p⟩ := h
  exact k a b i p
theorem OL.bind1 {o : Option α} {f : α → Option (Lp S R)} {P : α → Prop} (h : O1 o P) (k : ∀ a, P a → OL I (f a)) : OL I (Option.bind o f) := by
  obtain ⟨a, rfl, p⟩ := h
  exact k a p
theorem OL.ite {c : Bool} {x y : Option (Lp S R)} (h1 : c = true → OL I x) (h2 : c = false → OL I y) : OL I (if c = true then x else y) := by
  cases c with
  | true => exact h1 rfl
  | false => exact h2 rfl
theorem OL.bL1 {U V : Type} {o : Option (Lp S U)} {f : S → Option (Lp T R)} {g : U → Option (Lp T R)} {J : T → Prop} (h : OL I o) (k : ∀ b, I b → OL J (f b)) : OL J (bindL1 o f g) := by
  obtain ⟨b, rfl, i⟩ := h
  exact k b i
end
end G
/-! Plain laws: bits as sets; draws that are counted; the first cover; least lists. -/
namespace G
open PySem PySem.Spec PyProof.Rows L2 TL
section
variable {α β : Type} {S : Type} {I J : S → Prop}
theorem O2.bnd {o : Option (α × S)} {f : α → S → Option (β × S)} {P : α → Prop} {Q : β → Prop} (h : O2 J o P) (k : ∀ a b, J b → P a → O2 I (f a b) Q) : O2 I (bind2 o f) Q := by
  obtain ⟨a, b, rfl, i, p⟩ := h
  exact k a b i p
end
/-! ### bits -/
theorem sub_and_bit : ∀ (i a b : Nat), (a - (a &&& b)).testBit i = (a.testBit i && !b.testBit i)
  | 0, a, b => by
    have h1 : (a &&& b).testBit 0 = (a.testBit 0 && b.testBit 0) := Nat.testBit_and ..
    rw [Nat.testBit_zero, Nat.testBit_zero, Nat.testBit_zero] at h1
    rw [Nat.testBit_zero, Nat.testBit_zero, Nat.testBit_zero]
    have h2 : (a &&& b) / 2 = a / 2 &&& b / 2 := Nat.and_div_two
    have h3 : a / 2 &&& b / 2 ≤ a / 2 := Nat.and_le_left
    rw [← h2] at h3
    generalize a &&& b = m at h1 h3 ⊢
    by_cases c1 : a % 2 = 1 <;> by_cases c2 : b % 2 = 1 <;> simp [c1, c2] at h1 ⊢ <;> omega
  | i + 1, a, b => by
    rw [Nat.testBit_succ, Nat.testBit_succ, Nat.testBit_succ]
    have h1 : (a &&& b).testBit 0 = (a.testBit 0 && b.testBit 0) := Nat.testBit_and ..
    rw [Nat.testBit_zero, Nat.testBit_zero, Nat.testBit_zero] at h1
    have h2 : (a &&& b) / 2 = a / 2 &&& b / 2 := Nat.and_div_two
    have h3 : a / 2 &&& b / 2 ≤ a / 2 := Nat.and_le_left
    have h4 : (a &&& b) % 2 ≤ a % 2 := by
      generalize a &&& b = m at h1 ⊢
      by_cases c1 : a % 2 = 1
      · omega
      · simp [c1] at h1; omega
    have h5 : (a - (a &&& b)) / 2 = a / 2 - (a / 2 &&& b / 2) := by
      rw [← h2] at h3 ⊢
      generalize a &&& b = m at h3 h4 ⊢
      omega
    rw [h5]
    exact sub_and_bit i (a / 2) (b / 2)
theorem bitOr_nat (a b : Nat) : Builtin.bitOr (a : Int) (b : Int) = ((a ||| b : Nat) : Int) := by
  unfold Builtin.bitOr Builtin.bitAnd Builtin.bitNot
  have h1 : decide ((0 : Int) ≤ -(a : Int) - 1) = false := by simp; omega
  have h2 : decide ((0 : Int) ≤ -(b : Int) - 1) = false := by simp; omega
  rw [h1, h2]
  have e1 : (-(-(a : Int) - 1) - 1).toNat = a := by omega
  have e2 : (-(-(b : Int) - 1) - 1).toNat = b := by omega
  simp only [e1, e2]
  omega
theorem bitAndNot_nat (a b : Nat) : Builtin.bitAnd (a : Int) (Builtin.bitNot (b : Int)) = ((a - (a &&& b) : Nat) : Int) := by
  unfold Builtin.bitAnd Builtin.bitNot
  have h1 : decide ((0 : Int) ≤ (a : Int)) = true := by simp
  have h2 : decide ((0 : Int) ≤ -(b : Int) - 1) = false := by simp; omega
  rw [h1, h2]
  have e2 : (-(-(b : Int) - 1) - 1).toNat = b := by omega
  have h3 : a &&& b ≤ a := Nat.and_le_left
  simp only [e2, Int.toNat_natCast]
  omega
/-- the bits of some numbers -/
def bitsN (l : List Nat) : Nat := l.foldl (fun a c => a ||| 2 ^ c) 0
theorem bitsN_from : ∀ (l : List Nat) (a i : Nat), (l.foldl (fun a c => a ||| 2 ^ c) a).testBit i = (a.testBit i || decide (i ∈ l))
  | [], a, i => by simp
  | c :: l, a, i => by
    rw [List.foldl_cons, bitsN_from l, Nat.testBit_or, Nat.testBit_two_pow]
    by_cases h : c = i
    · subst h; simp
    · have h2 : i ≠ c := fun e => h e.symm
      simp [h, h2]
theorem bitsN_bit (l : List Nat) (i : Nat) : (bitsN l).testBit i = decide (i ∈ l) := by
  unfold bitsN
  rw [bitsN_from]
  simp
theorem bits_zero {a : Nat} : a = 0 ↔ ∀ i, a.testBit i = false := by
  constructor
  · intro h i; rw [h]; exact Nat.zero_testBit i
  · intro h; exact Nat.eq_of_testBit_eq fun i => by rw [h i, Nat.zero_testBit]
/-! ### the first cover -/
def srch : List (Int × Nat) → Nat → Nat → Option (List Int)
  | [], w, _ => if w = 0 then some [] else none
  | (n, b) :: t, w, k => if w = 0 then some [] else if k = 0 then none else
    match srch t (w - (w &&& b)) (k - 1) with
    | some f => some (n :: f)
    | none => srch t w k
def CovB (S : List (Int × Nat)) (w : Nat) : Prop := ∀ i, w.testBit i = true → ∃ r ∈ S, r.2.testBit i = true
theorem covB_cons {r : Int × Nat} {S : List (Int × Nat)} {w : Nat} : CovB (r :: S) w ↔ CovB S (w - (w &&& r.2)) := by
  constructor
  · intro h i hi
    rw [sub_and_bit, Bool.and_eq_true, Bool.not_eq_true'] at hi
    obtain ⟨x, hx, hb⟩ := h i hi.1
    rcases List.mem_cons.mp hx with rfl | hx
    · rw [hi.2] at hb; cases hb
    · exact ⟨x, hx, hb⟩
  · intro h i hi
    cases hb : r.2.testBit i with
    | true => exact ⟨r, List.mem_cons_self .., hb⟩
    | false =>
      obtain ⟨x, hx, h2⟩ := h i (by rw [sub_and_bit, hi, hb]; rfl)
      exact ⟨x, List.mem_cons_of_mem _ hx, h2⟩
theorem covB_nil {w : Nat} : CovB [] w ↔ w = 0 := by
  constructor
  · intro h
    refine bits_zero.mpr fun i => ?_
    cases hb : w.testBit i with
    | false => rfl
    | true =>
      obtain ⟨_, hx, _⟩ := h i hb
      exact (List.not_mem_nil hx).elim
  · intro h i hi
    rw [h, Nat.zero_testBit] at hi
    cases hi
theorem srch_zero (R : List (Int × Nat)) (k : Nat) : srch R 0 k = some [] := by cases R <;> unfold srch <;> rw [if_pos rfl]
theorem srch_sound : ∀ (R : List (Int × Nat)) (w k : Nat) (f : List Int), srch R w k = some f → ∃ S : List (Int × Nat), S.Sublist R ∧ f = S.map (·.1) ∧ CovB S w ∧ S.length ≤ k
  | [], w, k, f, h => by
    unfold srch at h
    split at h
    · next c =>
      cases h
      exact ⟨[], .slnil, rfl, covB_nil.mpr c, Nat.zero_le _⟩
    · cases h
  | (n, b) :: t, w, k, f, h => by
    unfold srch at h
    split at h
    · next c =>
      cases h
      exact ⟨[], List.nil_sublist _, rfl, covB_nil.mpr c, Nat.zero_le _⟩
    · split at h
      · cases h
      · next hk =>
        split at h
        · next g e =>
          cases h
          obtain ⟨S, h1, h2, h3, h4⟩ := srch_sound t _ _ g e
          exact ⟨(n, b) :: S, h1.cons₂ _, by rw [h2]; rfl, covB_cons.mpr h3, by rw [List.length_cons]; omega⟩
        · obtain ⟨S, h1, h2, h3, h4⟩ := srch_sound t _ _ f h
          exact ⟨S, h1.cons _, h2, h3, h4⟩
theorem srch_full : ∀ (R : List (Int × Nat)) (w k : Nat) (S : List (Int × Nat)), S.Sublist R → CovB S w → S.length ≤ k → ∃ f, srch R w k = some f
  | [], w, k, S, hs, hc, hl => by
    rw [List.sublist_nil.mp hs] at hc
    refine ⟨[], ?_⟩
    unfold srch
    rw [if_pos (covB_nil.mp hc)]
  | (n, b) :: t, w, k, S, hs, hc, hl => by
    unfold srch
    by_cases hw : w = 0
    · exact ⟨[], by rw [if_pos hw]⟩
    · rw [if_neg hw]
      have hne : S ≠ [] := fun e => hw (covB_nil.mp (e ▸ hc))
      have hpos : 0 < S.length := List.length_pos_iff.mpr hne
      rw [if_neg (by omega)]
      cases e : srch t (w - (w &&& b)) (k - 1) with
      | some f => exact ⟨_, rfl⟩
      | none =>
        rcases List.sublist_cons_iff.mp hs with h | ⟨S', rfl, h⟩
        · exact srch_full t w k S h hc hl
        · obtain ⟨f, h2⟩ := srch_full t (w - (w &&& b)) (k - 1) S' h (covB_cons.mp hc) (by rw [List.length_cons] at hl; omega)
          rw [e] at h2
          cases h2
theorem srch_least : ∀ (R : List (Int × Nat)) (w k : Nat) (f : List Int), R.Pairwise (fun x y => x.1 < y.1) → srch R w k = some f → (∀ T : List (Int × Nat), T.Sublist R → CovB T w → k ≤ T.length) →
    ∀ S : List (Int × Nat), S.Sublist R → CovB S w → S.length = k → ¬ S.map (·.1) < f
  | [], w, k, f, _, h, _, S, hs, _, _ => by
    rw [List.sublist_nil.mp hs]
    unfold srch at h
    split at h
    · cases h; exact List.lt_irrefl []
    · cases h
  | (n, b) :: t, w, k, f, hp, h, hm, S, hs, hc, hl => by
    obtain ⟨hp1, hp2⟩ := List.pairwise_cons.mp hp
    unfold srch at h
    by_cases hw : w = 0
    · rw [if_pos hw] at h
      cases h
      exact List.not_lt_nil _
    · rw [if_neg hw] at h
      by_cases hk : k = 0
      · rw [if_pos hk] at h; cases h
      rw [if_neg hk] at h
      cases e : srch t (w - (w &&& b)) (k - 1) with
      | some g =>
        rw [e] at h
        cases h
        rcases List.sublist_cons_iff.mp hs with h1 | ⟨S', rfl, h1⟩
        · cases S with
          | nil => rw [List.length_nil] at hl; omega
          | cons x S =>
            have hx : n < x.1 := hp1 x (h1.subset (List.mem_cons_self ..))
            rw [List.map_cons]
            intro hlt
            rcases List.cons_lt_cons_iff.mp hlt with h2 | h2
            · omega
            · omega
        · rw [List.map_cons]
          intro hlt
          rcases List.cons_lt_cons_iff.mp hlt with h2 | h2
          · exact Int.lt_irrefl _ h2
          · refine srch_least t _ _ g hp2 e (fun T hT hTc => ?_) S' h1 (covB_cons.mp hc) (by rw [List.length_cons] at hl; omega) h2.2
            have := hm ((n, b) :: T) (hT.cons₂ _) (covB_cons.mpr hTc)
            rw [List.length_cons] at this
            omega
      | none =>
        rw [e] at h
        rcases List.sublist_cons_iff.mp hs with h1 | ⟨S', rfl, h1⟩
        · exact srch_least t w k f hp2 h (fun T hT hTc => hm T (hT.cons _) hTc) S h1 hc hl
        · obtain ⟨g, h2⟩ := srch_full t (w - (w &&& b)) (k - 1) S' h1 (covB_cons.mp hc) (by rw [List.length_cons] at hl; omega)
          rw [e] at h2
          cases h2
/-! ### the least of some lists -/
theorem minL_spec {xs : List (List Int)} (h : xs ≠ []) : ∃ m, minL xs = some m ∧ m ∈ xs ∧ ∀ x ∈ xs, ¬ x < m := by
  have key : ∀ k : Nat, k < xs.length → (PySem.argBest (fun i j => PySem.W.dataLt ((xs.map Enc.d).getD i .none) ((xs.map Enc.d).getD j .none)) k) ≤ k ∧
      ∀ j, j ≤ k → ∀ x m, xs[j]? = some x → xs[PySem.argBest (fun i j => PySem.W.dataLt ((xs.map Enc.d).getD i .none) ((xs.map Enc.d).getD j .none)) k]? = some m → ¬ x < m := by
    have gd : ∀ i x, xs[i]? = some x → (xs.map Enc.d).getD i .none = Enc.d x := fun i x hx => by
      rw [List.getD_eq_getElem?_getD, List.getElem?_map, hx]; rfl
    intro k
    induction k with
    | zero =>
      intro _
      refine ⟨Nat.le_refl _, fun j hj x m hx hm => ?_⟩
      have : j = 0 := by omega
      subst this
      have hm' : xs[0]? = some m := hm
      rw [hx] at hm'
      cases hm'
      exact List.lt_irrefl _
    | succ k ih =>
      intro hk
      obtain ⟨i1, i2⟩ := ih (by omega)
      generalize hb : PySem.argBest (fun i j => PySem.W.dataLt ((xs.map Enc.d).getD i .none) ((xs.map Enc.d).getD j .none)) k = q at i1 i2
      have hq : xs[q]? = some xs[q] := List.getElem?_eq_getElem (by omega)
      have hk1 : xs[k + 1]? = some xs[k + 1] := List.getElem?_eq_getElem hk
      have e1 : PySem.W.dataLt ((xs.map Enc.d).getD (k + 1) .none) ((xs.map Enc.d).getD q .none) = decide (xs[k + 1] < xs[q]) := by
        rw [gd _ _ hk1, gd _ _ hq]
        exact ltD_ints _ _
      have es : PySem.argBest (fun i j => PySem.W.dataLt ((xs.map Enc.d).getD i .none) ((xs.map Enc.d).getD j .none)) (k + 1) = if decide (xs[k + 1] < xs[q]) = true then k + 1 else q := by
        show (if PySem.W.dataLt ((xs.map Enc.d).getD (k + 1) .none) ((xs.map Enc.d).getD (PySem.argBest _ k) .none) = true then k + 1 else PySem.argBest _ k) = _
        rw [hb, e1]
      rw [es]
      by_cases c : xs[k + 1] < xs[q]
      · rw [if_pos (decide_eq_true c)]
        refine ⟨Nat.le_refl _, fun j hj x m hx hm => ?_⟩
        rw [hk1] at hm
        cases hm
        by_cases hj2 : j = k + 1
        · subst hj2
          rw [hk1] at hx
          cases hx
          exact List.lt_irrefl _
        · have h3 := i2 j (by omega) x _ hx hq
          intro h4
          exact h3 (List.lt_trans h4 c)
      · rw [if_neg (by simpa using c)]
        refine ⟨by omega, fun j hj x m hx hm => ?_⟩
        by_cases hj2 : j = k + 1
        · subst hj2
          rw [hk1] at hx
          rw [hq] at hm
          cases hx; cases hm
          exact c
        · exact i2 j (by omega) x m hx hm
  have hl : 0 < xs.length := List.length_pos_iff.mpr h
  obtain ⟨k1, k2⟩ := key (xs.length - 1) (by omega)
  have hb : bestI xs < xs.length := by
    have : bestI xs ≤ xs.length - 1 := k1
    omega
  have e : xs[bestI xs]? = some xs[bestI xs] := List.getElem?_eq_getElem hb
  refine ⟨xs[bestI xs], e, List.getElem_mem hb, fun x hx => ?_⟩
  obtain ⟨j, hj⟩ := List.mem_iff_getElem?.mp hx
  exact k2 j (by have := (List.getElem?_eq_some_iff.mp hj).1; omega) x _ hj e
theorem minO_spec {xs : List Int} (h : xs ≠ []) : ∃ m, minO xs = some m ∧ m ∈ xs ∧ ∀ x ∈ xs, m ≤ x := by
  cases xs with
  | nil => exact absurd rfl h
  | cons x r =>
    refine ⟨r.foldl min x, rfl, ?_⟩
    exact foldl_min r x
/-- the sublists of a list with one more -/
theorem sub_snoc {α : Type} {P s : List α} {r : α} : s.Sublist (P ++ [r]) ↔ s.Sublist P ∨ ∃ t, t.Sublist P ∧ s = t ++ [r] := by
  rw [List.sublist_append_iff]
  constructor
  · rintro ⟨a, b, rfl, h1, h2⟩
    rcases List.sublist_cons_iff.mp h2 with h | ⟨c, rfl, h⟩
    · rw [List.sublist_nil.mp h, List.append_nil]; exact .inl h1
    · rw [List.sublist_nil.mp h]; exact .inr ⟨a, h1, rfl⟩
  · rintro (h | ⟨t, h, rfl⟩)
    · exact ⟨s, [], by rw [List.append_nil], h, List.nil_sublist _⟩
    · exact ⟨t, [r], rfl, h, List.Sublist.refl _⟩
end G
namespace K13
open PySem PySem.Spec PyProof.Rows L2 TL G
def topS (i : Nat) : Stmt := PySem.Challenge.pw_wishnet_k13_what_holds_a_letter.main.body.getD i (.Pass ⟨0, 0, 0, 0⟩)
abbrev s_bits_of : Stmt := topS 2
abbrev s_span_of : Stmt := topS 3
abbrev s_has : Stmt := topS 4
abbrev s_is_at : Stmt := topS 6
abbrev s_holders : Stmt := topS 7
abbrev s_wished : Stmt := topS 8
abbrev s_held_by : Stmt := topS 9
abbrev s_l_bag : Stmt := topS 11
abbrev s_l_stirred : Stmt := topS 12
abbrev s_l_draw : Stmt := topS 13
abbrev s_l_alike : Stmt := topS 14
abbrev s_l_town : Stmt := topS 15
abbrev s_l_names : Stmt := topS 16
abbrev s_l_pattern : Stmt := topS 17
abbrev s_l_order : Stmt := topS 18
abbrev s_l_near : Stmt := topS 19
abbrev s_l_gates : Stmt := topS 20
abbrev s_l_wish : Stmt := topS 21
abbrev s_l_rows : Stmt := topS 22
abbrev s_l_span : Stmt := topS 23
abbrev s_l_plain : Stmt := topS 24
abbrev s_l_is_of : Stmt := topS 25
abbrev s_l_top : Stmt := topS 26
abbrev s_l_cuts : Stmt := topS 27
abbrev s_l_clash : Stmt := topS 28
abbrev s_l_quiet : Stmt := topS 29
abbrev s_l_mark : Stmt := topS 30
abbrev s_l_right : Stmt := topS 31
abbrev s_law : Stmt := topS 32
structure Txt (K : PySem.W.Frag) (mg : Str → Option Value) where
  a_bits_of : Addr
  d_bits_of : FuncData
  F_bits_of : FnP K "bits_of" s_bits_of a_bits_of d_bits_of
  g_bits_of : mg "bits_of" = some (.ref a_bits_of)
  a_span_of : Addr
  d_span_of : FuncData
  F_span_of : FnP K "span_of" s_span_of a_span_of d_span_of
  g_span_of : mg "span_of" = some (.ref a_span_of)
  a_has : Addr
  d_has : FuncData
  F_has : FnP K "has" s_has a_has d_has
  g_has : mg "has" = some (.ref a_has)
  a_is_at : Addr
  d_is_at : FuncData
  F_is_at : FnP K "is_at" s_is_at a_is_at d_is_at
  g_is_at : mg "is_at" = some (.ref a_is_at)
  a_holders : Addr
  d_holders : FuncData
  F_holders : FnP K "holders" s_holders a_holders d_holders
  g_holders : mg "holders" = some (.ref a_holders)
  a_wished : Addr
  d_wished : FuncData
  F_wished : FnP K "wished" s_wished a_wished d_wished
  g_wished : mg "wished" = some (.ref a_wished)
  a_held_by : Addr
  d_held_by : FuncData
  F_held_by : FnP K "held_by" s_held_by a_held_by d_held_by
  g_held_by : mg "held_by" = some (.ref a_held_by)
  a_l_bag : Addr
  d_l_bag : FuncData
  F_l_bag : FnP K "_law_bag" s_l_bag a_l_bag d_l_bag
  g_l_bag : mg "_law_bag" = some (.ref a_l_bag)
  a_l_stirred : Addr
  d_l_stirred : FuncData
  F_l_stirred : FnP K "_law_stirred" s_l_stirred a_l_stirred d_l_stirred
  g_l_stirred : mg "_law_stirred" = some (.ref a_l_stirred)
  a_l_draw : Addr
  d_l_draw : FuncData
  F_l_draw : FnP K "_law_draw" s_l_draw a_l_draw d_l_draw
  g_l_draw : mg "_law_draw" = some (.ref a_l_draw)
  a_l_alike : Addr
  d_l_alike : FuncData
  F_l_alike : FnP K "_law_alike" s_l_alike a_l_alike d_l_alike
  g_l_alike : mg "_law_alike" = some (.ref a_l_alike)
  a_l_town : Addr
  d_l_town : FuncData
  F_l_town : FnP K "_law_town" s_l_town a_l_town d_l_town
  g_l_town : mg "_law_town" = some (.ref a_l_town)
  a_l_names : Addr
  d_l_names : FuncData
  F_l_names : FnP K "_law_names" s_l_names a_l_names d_l_names
  g_l_names : mg "_law_names" = some (.ref a_l_names)
  a_l_pattern : Addr
  d_l_pattern : FuncData
  F_l_pattern : FnP K "_law_pattern" s_l_pattern a_l_pattern d_l_pattern
  g_l_pattern : mg "_law_pattern" = some (.ref a_l_pattern)
  a_l_order : Addr
  d_l_order : FuncData
  F_l_order : FnP K "_law_order" s_l_order a_l_order d_l_order
  g_l_order : mg "_law_order" = some (.ref a_l_order)
  a_l_near : Addr
  d_l_near : FuncData
  F_l_near : FnP K "_law_near" s_l_near a_l_near d_l_near
  g_l_near : mg "_law_near" = some (.ref a_l_near)
  a_l_gates : Addr
  d_l_gates : FuncData
  F_l_gates : FnP K "_law_gates" s_l_gates a_l_gates d_l_gates
  g_l_gates : mg "_law_gates" = some (.ref a_l_gates)
  a_l_wish : Addr
  d_l_wish : FuncData
  F_l_wish : FnP K "_law_wish" s_l_wish a_l_wish d_l_wish
  g_l_wish : mg "_law_wish" = some (.ref a_l_wish)
  a_l_rows : Addr
  d_l_rows : FuncData
  F_l_rows : FnP K "_law_rows" s_l_rows a_l_rows d_l_rows
  g_l_rows : mg "_law_rows" = some (.ref a_l_rows)
  a_l_span : Addr
  d_l_span : FuncData
  F_l_span : FnP K "_law_span" s_l_span a_l_span d_l_span
  g_l_span : mg "_law_span" = some (.ref a_l_span)
  a_l_plain : Addr
  d_l_plain : FuncData
  F_l_plain : FnP K "_law_plain" s_l_plain a_l_plain d_l_plain
  g_l_plain : mg "_law_plain" = some (.ref a_l_plain)
  a_l_is_of : Addr
  d_l_is_of : FuncData
  F_l_is_of : FnP K "_law_is_of" s_l_is_of a_l_is_of d_l_is_of
  g_l_is_of : mg "_law_is_of" = some (.ref a_l_is_of)
  a_l_top : Addr
  d_l_top : FuncData
  F_l_top : FnP K "_law_top" s_l_top a_l_top d_l_top
  g_l_top : mg "_law_top" = some (.ref a_l_top)
  a_l_cuts : Addr
  d_l_cuts : FuncData
  F_l_cuts : FnP K "_law_cuts" s_l_cuts a_l_cuts d_l_cuts
  g_l_cuts : mg "_law_cuts" = some (.ref a_l_cuts)
  a_l_clash : Addr
  d_l_clash : FuncData
  F_l_clash : FnP K "_law_clash" s_l_clash a_l_clash d_l_clash
  g_l_clash : mg "_law_clash" = some (.ref a_l_clash)
  a_l_quiet : Addr
  d_l_quiet : FuncData
  F_l_quiet : FnP K "_law_quiet" s_l_quiet a_l_quiet d_l_quiet
  g_l_quiet : mg "_law_quiet" = some (.ref a_l_quiet)
  a_l_mark : Addr
  d_l_mark : FuncData
  F_l_mark : FnP K "_law_mark" s_l_mark a_l_mark d_l_mark
  g_l_mark : mg "_law_mark" = some (.ref a_l_mark)
  a_l_right : Addr
  d_l_right : FuncData
  F_l_right : FnP K "_law_right" s_l_right a_l_right d_l_right
  g_l_right : mg "_law_right" = some (.ref a_l_right)
  a_law : Addr
  d_law : FuncData
  F_law : FnP K "law" s_law a_law d_law
  g_law : mg "law" = some (.ref a_law)
  n_abs : mg "abs" = none
  n_all : mg "all" = none
  n_any : mg "any" = none
  n_bool : mg "bool" = none
  n_int : mg "int" = none
  n_isinstance : mg "isinstance" = none
  n_len : mg "len" = none
  n_list : mg "list" = none
  n_max : mg "max" = none
  n_min : mg "min" = none
  n_range : mg "range" = none
  n_repr : mg "repr" = none
  n_set : mg "set" = none
  n_sorted : mg "sorted" = none
  n_str : mg "str" = none
  n_tuple : mg "tuple" = none
  t_STAR : Tok
  k_STAR : mg "STAR" = some (.str "*" t_STAR)
/-! ### the bag, the draws -/
abbrev Bag := G.Bag2
abbrev BagAt := @G.BagAt2
structure BOk (b : Bag) : Prop where
  lo : 0 ≤ b.stir
  hi : b.stir < 2147483648
  len : b.cells.length ≤ 63
abbrev N_l_bag : List Str := ["_law_script", "_law_stir", "_law_cell"]
theorem sc_l_bag : FnScope N_l_bag ["_law_script"] (defScope s_l_bag) := ⟨rfl, rfl, rfl, by decide +kernel, rfl, by decide +kernel, by decide +kernel⟩
def sp_l_bag (K : PySem.W.Frag) : Sp := fun vs H Q _ => ∃ (a : Addr) (ns : List Int), vs = [.ref a] ∧ SqL K H a (ns.map V.int) ∧ ns.length ≤ 63 ∧ (∀ (B C : Addr) (b : Bag) (F H' : Hp), Same F H' → BagAt F H' B C b → BOk b → SqL K H' a (ns.map V.int) → (∀ o, H a = some o → ¬ Bc B C a) → Q (.ref B) H')
def nxt (s c : Int) : Int := (s ^ 3 + 69621 * s + 1031 * c + 1) % 2147483647
def stirN (z c : Int) : Nat → Int × Int × Int
  | 0 => (z, c, 0)
  | n + 1 => (nxt (stirN z c n).1 ((stirN z c n).2.1 + 1), (stirN z c n).2.1 + 1, (stirN z c n).2.2 * 134217728 + nxt (stirN z c n).1 ((stirN z c n).2.1 + 1) / 16)
def m_l_stirred (b : Bag) (n : Int) : Option (Int × Bag) :=
  if (0 < n ∧ Builtin.Int.intBits n < 9000) ∧ (0 ≤ b.stir ∧ b.stir < 2147483648) then
    some ((stirN b.stir b.cnt (1 + Builtin.Int.intBits n / 27)).2.2 % n, { b with stir := (stirN b.stir b.cnt (1 + Builtin.Int.intBits n / 27)).1, cnt := (stirN b.stir b.cnt (1 + Builtin.Int.intBits n / 27)).2.1 })
  else none
def m_l_draw (b : Bag) (n : Int) : Option (Int × Bag) :=
  if (0 < n ∧ n.natAbs.log2 < 9000) ∧ b.cells.length ≤ sizeLine then
    if b.left = 0 then
      match b.cells[b.at_]? with
      | some x => some (x % n, { b with at_ := b.at_ + 1, left := x / n })
      | none => m_l_stirred b n
    else some (b.left % n, { b with left := b.left / n })
  else none
abbrev N_l_stirred : List Str := ["_law_bag_here", "_law_many", "_law_found", "_law_k"]
theorem sc_l_stirred : FnScope N_l_stirred ["_law_bag_here", "_law_many"] (defScope s_l_stirred) := ⟨rfl, rfl, rfl, by decide +kernel, rfl, by decide +kernel, by decide +kernel⟩
def sp_l_stirred (K : PySem.W.Frag) : Sp := fun vs H Q _ => ∃ (F : Hp) (B C : Addr) (b : Bag) (y_many : Int) (r : Int) (b' : Bag), vs = [.ref B, .int y_many] ∧ Same F H ∧ BagAt F H B C b ∧ m_l_stirred b y_many = some (r, b') ∧ (∀ F' H', Gr (Bc B C) F H F' H' → BagAt F' H' B C b' → Q (.int r) H')
abbrev N_l_draw : List Str := ["_law_bag_here", "_law_many", "_law_found"]
theorem sc_l_draw : FnScope N_l_draw ["_law_bag_here", "_law_many"] (defScope s_l_draw) := ⟨rfl, rfl, rfl, by decide +kernel, rfl, by decide +kernel, by decide +kernel⟩
def sp_l_draw (K : PySem.W.Frag) : Sp := fun vs H Q _ => ∃ (F : Hp) (B C : Addr) (b : Bag) (y_many : Int) (r : Int) (b' : Bag), vs = [.ref B, .int y_many] ∧ Same F H ∧ BagAt F H B C b ∧ m_l_draw b y_many = some (r, b') ∧ (∀ F' H', Gr (Bc B C) F H F' H' → BagAt F' H' B C b' → Q (.int r) H')
theorem atI_map {xs : List Int} {k : Nat} {x : Int} (h : xs[k]? = some x) : atI (xs.map V.int) (k : Nat) = some (.int x) := atI_nat (by rw [List.getElem?_map, h]; rfl)
/-! ### alike -/
abbrev N_l_alike : List Str := ["_law_found", "_law_due", "_law_k"]
theorem sc_l_alike : FnScope N_l_alike ["_law_found", "_law_due"] (defScope s_l_alike) := ⟨rfl, rfl, rfl, by decide +kernel, rfl, by decide +kernel, by decide +kernel⟩

/-! ### bits_of -/
def m_bits_of (x_pattern : Str) : Str :=
  (partS x_pattern ("*" : Str)).a
abbrev N_bits_of : List Str := ["pattern"]
theorem sc_bits_of : FnScope N_bits_of ["pattern"] (defScope s_bits_of) := ⟨rfl, rfl, rfl, by decide +kernel, rfl, by decide +kernel, by decide +kernel⟩
def sp_bits_of (K : PySem.W.Frag) : Sp := fun vs H Q _ => ∃ (x_pattern : Str), vs = [.str x_pattern] ∧ GS x_pattern ∧ (∀ F' H', Gr M0 H H F' H' → GS (m_bits_of x_pattern) → Q (.str (m_bits_of x_pattern)) H')
/-! ### span_of -/
def m_span_of_l1  : List Nat → Int → (Option (Int))
  | [], x_number => some x_number
  | e23 :: xs_, x_number =>
    Option.bind (some (((2 : Int) * x_number) + (toI (eqS (sgn e23) ("1" : Str))))) fun x_number25 =>
    m_span_of_l1  xs_ x_number25
def m_span_of (x_pattern : Str) (x_width : Int) : Option (Int × Int) :=
  Option.bind (some (m_bits_of x_pattern)) fun x_bits7 =>
  Option.bind (m_span_of_l1  (x_bits7).cps.toList (0 : Int)) fun x_number11 =>
  Option.bind (shlI (1 : Int) (x_width - ((x_bits7.length : Nat) : Int))) fun t36 =>
  Option.bind (mulI x_number11 t36) fun t41 =>
  Option.bind (mulI (x_number11 + (1 : Int)) t36) fun t44 =>
  some (t41, t44)
abbrev N_span_of : List Str := ["pattern", "width", "bits", "number", "sign", "size"]
theorem sc_span_of : FnScope N_span_of ["pattern", "width"] (defScope s_span_of) := ⟨rfl, rfl, rfl, by decide +kernel, rfl, by decide +kernel, by decide +kernel⟩
def sp_span_of (K : PySem.W.Frag) : Sp := fun vs H Q _ => ∃ (F : Hp) (x_pattern : Str) (x_width : Int) (r : (Int × Int)), vs = [.str x_pattern, .int x_width] ∧ Same F H ∧ GS x_pattern ∧ m_span_of x_pattern x_width = some r ∧ (∀ v F' H', Gr M0 F H F' H' → R K F' v r → Q v H')
/-! ### has -/
def m_has (x_pattern : Str) (x_address : Int) (x_width : Int) : Option Bool :=
  Option.bind (m_span_of x_pattern x_width) fun r1 =>
  some ((decide (r1.1 ≤ x_address)) && (decide (x_address < r1.2)))
abbrev N_has : List Str := ["pattern", "address", "width", "first", "behind"]
theorem sc_has : FnScope N_has ["pattern", "address", "width"] (defScope s_has) := ⟨rfl, rfl, rfl, by decide +kernel, rfl, by decide +kernel, by decide +kernel⟩
def sp_has (K : PySem.W.Frag) : Sp := fun vs H Q _ => ∃ (x_pattern : Str) (x_address : Int) (x_width : Int) (r : Bool), vs = [.str x_pattern, .int x_address, .int x_width] ∧ GS x_pattern ∧ m_has x_pattern x_address x_width = some r ∧ (∀ F' H', Gr M0 H H F' H' → Q (.bl r) H')
/-! ### is_at -/
def m_is_at (x_wish : (T5 Str Int (VT Str) (Option (VT Int)) (Option (T4 Int (VT Int) (VT Int) (Option Int))))) (x_door : Int) : Option Bool :=
  if (!(x_wish.e).isNone) then (Option.bind (x_wish.e) fun t15 =>
 some (decide (x_door ∈ (t15).l))) else (Option.bind (if (x_wish.f).isNone then some true else (Option.bind (x_wish.f) fun t30 => some ((neI t30.a x_door)))) fun c25 =>
 some c25)
abbrev N_is_at : List Str := ["wish", "door", "name", "rank", "patterns", "doors", "order"]
theorem sc_is_at : FnScope N_is_at ["wish", "door"] (defScope s_is_at) := ⟨rfl, rfl, rfl, by decide +kernel, rfl, by decide +kernel, by decide +kernel⟩
def sp_is_at (K : PySem.W.Frag) : Sp := fun vs H Q _ => ∃ (v_x_wish : V) (x_wish : (T5 Str Int (VT Str) (Option (VT Int)) (Option (T4 Int (VT Int) (VT Int) (Option Int))))) (x_door : Int) (r : Bool), vs = [v_x_wish, .int x_door] ∧ R K H v_x_wish x_wish ∧ m_is_at x_wish x_door = some r ∧ (∀ F' H', Gr M0 H H F' H' → Q (.bl r) H')
/-! ### holders -/
def m_holders_c2 (x_address : Int) (x_width : Int) : List Str → Option (List Bool)
  | [] => some []
  | e103 :: xs_ =>
    Option.bind (m_has e103 x_address x_width) fun r107 =>
    Option.bind (m_holders_c2 x_address x_width xs_) fun rest118 => some (r107 :: rest118)
def m_holders_l1 (x_door : Int) (x_address : Int) (x_width : Int) : List (T5 Str Int (VT Str) (Option (VT Int)) (Option (T4 Int (VT Int) (VT Int) (Option Int)))) → (List (T5 Str Int (VT Str) (Option (VT Int)) (Option (T4 Int (VT Int) (VT Int) (Option Int))))) → (Option ((List (T5 Str Int (VT Str) (Option (VT Int)) (Option (T4 Int (VT Int) (VT Int) (Option Int)))))))
  | [], x_found => some x_found
  | e27 :: xs_, x_found =>
    Option.bind (m_is_at e27 x_door) fun r30 =>
    Option.bind (if r30 then (Option.bind (m_holders_c2 x_address x_width (e27.c).l) fun l71 => some ((l71).any id)) else some false) fun c38 =>
    if c38 then (Option.bind (if (!eqD x_found ([] : (List (T5 Str Int (VT Str) (Option (VT Int)) (Option (T4 Int (VT Int) (VT Int) (Option Int))))))) then (Option.bind (atI x_found (0 : Int)) fun t160 => some ((decide (t160.b < e27.b)))) else some false) fun c155 =>
 if c155 then (Option.bind (some ([] : List (T5 Str Int (VT Str) (Option (VT Int)) (Option (T4 Int (VT Int) (VT Int) (Option Int)))))) fun x_found209 =>
 Option.bind (if (eqD x_found209 ([] : (List (T5 Str Int (VT Str) (Option (VT Int)) (Option (T4 Int (VT Int) (VT Int) (Option Int))))))) then some true else (Option.bind (atI x_found209 (0 : Int)) fun t231 => some ((eqI t231.b e27.b)))) fun c226 =>
 if c226 then (Option.bind (appL x_found209 e27) fun t273 =>
 m_holders_l1 x_door x_address x_width xs_ t273) else (m_holders_l1 x_door x_address x_width xs_ x_found209)) else (Option.bind (if (eqD x_found ([] : (List (T5 Str Int (VT Str) (Option (VT Int)) (Option (T4 Int (VT Int) (VT Int) (Option Int))))))) then some true else (Option.bind (atI x_found (0 : Int)) fun t299 => some ((eqI t299.b e27.b)))) fun c294 =>
 if c294 then (Option.bind (appL x_found e27) fun t340 =>
 m_holders_l1 x_door x_address x_width xs_ t340) else (m_holders_l1 x_door x_address x_width xs_ x_found))) else (m_holders_l1 x_door x_address x_width xs_ x_found)
def m_holders (x_wishes : (List (T5 Str Int (VT Str) (Option (VT Int)) (Option (T4 Int (VT Int) (VT Int) (Option Int)))))) (x_door : Int) (x_address : Int) (x_width : Int) : Option (List (T5 Str Int (VT Str) (Option (VT Int)) (Option (T4 Int (VT Int) (VT Int) (Option Int))))) :=
  Option.bind (some ([] : List (T5 Str Int (VT Str) (Option (VT Int)) (Option (T4 Int (VT Int) (VT Int) (Option Int)))))) fun x_found6 =>
  Option.bind (m_holders_l1 x_door x_address x_width x_wishes x_found6) fun x_found10 =>
  some x_found10
abbrev N_holders : List Str := ["wishes", "door", "address", "width", "found", "wish", "pattern"]
theorem sc_holders : FnScope N_holders ["wishes", "door", "address", "width"] (defScope s_holders) := ⟨rfl, rfl, rfl, by decide +kernel, rfl, by decide +kernel, by decide +kernel⟩
def sp_holders (K : PySem.W.Frag) : Sp := fun vs H Q _ => ∃ (F : Hp) (p_x_wishes : Addr) (ws_x_wishes : List V) (x_wishes : (List (T5 Str Int (VT Str) (Option (VT Int)) (Option (T4 Int (VT Int) (VT Int) (Option Int)))))) (x_door : Int) (x_address : Int) (x_width : Int) (r : (List (T5 Str Int (VT Str) (Option (VT Int)) (Option (T4 Int (VT Int) (VT Int) (Option Int)))))), vs = [.ref p_x_wishes, .int x_door, .int x_address, .int x_width] ∧ Same F H ∧ SqL K H p_x_wishes ws_x_wishes ∧ ws_x_wishes.length ≤ sizeLine ∧ RL K F ws_x_wishes x_wishes ∧ ¬ M0 p_x_wishes ∧ m_holders x_wishes x_door x_address x_width = some r ∧ (∀ p ws F' H', Gr M0 F H F' H' → H p = none → H' p = some (.lst ws) → F' p = none → ws.length ≤ sizeLine → RL K F' ws r → Q (.ref p) H')
/-! ### wished -/
def m_wished (x_wishes : (List (T5 Str Int (VT Str) (Option (VT Int)) (Option (T4 Int (VT Int) (VT Int) (Option Int)))))) (x_door : Int) (x_address : Int) (x_width : Int) : Option (Option (T4 Int (VT Int) (VT Int) (Option Int))) :=
  Option.bind (m_holders x_wishes x_door x_address x_width) fun r1 =>
  Option.bind (if (!eqD r1 ([] : (List (T5 Str Int (VT Str) (Option (VT Int)) (Option (T4 Int (VT Int) (VT Int) (Option Int))))))) then (Option.bind (atI r1 (0 : Int)) fun t30 => some (t30.f)) else ( some ((none : (Option (T4 Int (VT Int) (VT Int) (Option Int))))))) fun c25 =>
  some c25
abbrev N_wished : List Str := ["wishes", "door", "address", "width", "held"]
theorem sc_wished : FnScope N_wished ["wishes", "door", "address", "width"] (defScope s_wished) := ⟨rfl, rfl, rfl, by decide +kernel, rfl, by decide +kernel, by decide +kernel⟩
def sp_wished (K : PySem.W.Frag) : Sp := fun vs H Q _ => ∃ (F : Hp) (p_x_wishes : Addr) (ws_x_wishes : List V) (x_wishes : (List (T5 Str Int (VT Str) (Option (VT Int)) (Option (T4 Int (VT Int) (VT Int) (Option Int)))))) (x_door : Int) (x_address : Int) (x_width : Int) (r : (Option (T4 Int (VT Int) (VT Int) (Option Int)))), vs = [.ref p_x_wishes, .int x_door, .int x_address, .int x_width] ∧ Same F H ∧ SqL K H p_x_wishes ws_x_wishes ∧ ws_x_wishes.length ≤ sizeLine ∧ RL K F ws_x_wishes x_wishes ∧ ¬ M0 p_x_wishes ∧ m_wished x_wishes x_door x_address x_width = some r ∧ (∀ v F' H', Gr M0 F H F' H' → R K F' v r → Q v H')
/-! ### held_by -/
def m_held_by_c1  : List (T5 Str Int (VT Str) (Option (VT Int)) (Option (T4 Int (VT Int) (VT Int) (Option Int)))) → List Str
  | [] => []
  | e47 :: xs_ => e47.a :: m_held_by_c1  xs_
def m_held_by (x_wishes : (List (T5 Str Int (VT Str) (Option (VT Int)) (Option (T4 Int (VT Int) (VT Int) (Option Int)))))) (x_door : Int) (x_address : Int) (x_width : Int) : Option (List Str) :=
  Option.bind (m_holders x_wishes x_door x_address x_width) fun r1 =>
  some (m_held_by_c1  r1)
abbrev N_held_by : List Str := ["wishes", "door", "address", "width", "wish"]
theorem sc_held_by : FnScope N_held_by ["wishes", "door", "address", "width"] (defScope s_held_by) := ⟨rfl, rfl, rfl, by decide +kernel, rfl, by decide +kernel, by decide +kernel⟩
def sp_held_by (K : PySem.W.Frag) : Sp := fun vs H Q _ => ∃ (F : Hp) (p_x_wishes : Addr) (ws_x_wishes : List V) (x_wishes : (List (T5 Str Int (VT Str) (Option (VT Int)) (Option (T4 Int (VT Int) (VT Int) (Option Int)))))) (x_door : Int) (x_address : Int) (x_width : Int) (r : (List Str)), vs = [.ref p_x_wishes, .int x_door, .int x_address, .int x_width] ∧ Same F H ∧ SqL K H p_x_wishes ws_x_wishes ∧ ws_x_wishes.length ≤ sizeLine ∧ RL K F ws_x_wishes x_wishes ∧ ¬ M0 p_x_wishes ∧ m_held_by x_wishes x_door x_address x_width = some r ∧ (∀ p ws F' H', Gr M0 F H F' H' → H p = none → H' p = some (.lst ws) → F' p = none → ws.length ≤ sizeLine → RL K F' ws r → Q (.ref p) H')
/-! ### l_town -/
def m_l_town_c1  : List Int → Bag → Option (List (Int × Int) × Bag)
  | [], b => some ([], b)
  | e68 :: xs_, b =>
    bind2 (m_l_draw b (4 : Int)) fun r70 b71 =>
    if (decide ((0 : Int) < r70)) then (bind2 (m_l_town_c1  xs_ b71) fun rest93 b94 => some ((e68, (e68 + (1 : Int))) :: rest93, b94)) else m_l_town_c1  xs_ b71
def m_l_town_c2 (y_many : Int) : List Int → Bag → Option (List Int × Bag)
  | [], b => some ([], b)
  | e197 :: xs_, b =>
    bind2 (m_l_draw b y_many) fun r199 b200 =>
    bind2 (m_l_town_c2 y_many xs_ b200) fun rest213 b214 => some (r199 :: rest213, b214)
def m_l_town (b : Bag)  : Option ((T4 Int Int (List (Int × Int)) (List Int)) × Bag) :=
  bind2 (m_l_draw b (8 : Int)) fun r8 b9 =>
  Option.bind (atI ([(1 : Int), (2 : Int), (3 : Int), (4 : Int), (6 : Int), (9 : Int), (17 : Int), (30 : Int)] : List Int) r8) fun t18 =>
  bind2 (m_l_draw b9 (12 : Int)) fun r23 b24 =>
  Option.bind (some ((1 : Int) + r23)) fun y_many33 =>
  Option.bind (rangeO1 (y_many33 - (1 : Int))) fun l36 =>
  bind2 (m_l_town_c1  l36 b24) fun l47 b48 =>
  bind2 (m_l_draw b48 (4 : Int)) fun r127 b128 =>
  Option.bind (atI ([(1 : Int), (2 : Int), (4 : Int), (8 : Int)] : List Int) r127) fun t139 =>
  bind2 (m_l_draw b128 t139) fun r144 b145 =>
  Option.bind (some ((1 : Int) + r144)) fun y_gates_here156 =>
  Option.bind (rangeO1 y_gates_here156) fun l159 =>
  bind2 (m_l_town_c2 y_many33 l159 b145) fun l174 b175 =>
  some ((T4.mk t18 y_many33 l47 l174), b175)
abbrev N_l_town : List Str := ["_law_bag_here", "_law_bits", "_law_many", "_law_ties", "_law_gates_here", "_law_k"]
theorem sc_l_town : FnScope N_l_town ["_law_bag_here"] (defScope s_l_town) := ⟨rfl, rfl, rfl, by decide +kernel, rfl, by decide +kernel, by decide +kernel⟩
def sp_l_town (K : PySem.W.Frag) : Sp := fun vs H Q _ => ∃ (F : Hp) (B C : Addr) (b : Bag) (r : (T4 Int Int (List (Int × Int)) (List Int))) (b' : Bag), vs = [.ref B] ∧ Same F H ∧ BagAt F H B C b ∧ m_l_town b  = some (r, b') ∧ (∀ v F' H', Gr (Bc B C) F H F' H' → BagAt F' H' B C b' → R K F' v r → Q v H')
/-! ### l_names -/
def m_l_names_c1 (y_letters : Str) : List Int → Bag → Option (List Str × Bag)
  | [], b => some ([], b)
  | e45 :: xs_, b =>
    bind2 (m_l_draw b (26 : Int)) fun r47 b48 =>
    Option.bind (codeAt y_letters r47) fun c58 =>
    bind2 (m_l_names_c1 y_letters xs_ b48) fun rest61 b62 => some ((sgn c58) :: rest61, b62)
def m_l_names_c3 (y_letters : Str) : List Int → Bag → Option (List Str × Bag)
  | [], b => some ([], b)
  | e172 :: xs_, b =>
    bind2 (m_l_draw b (26 : Int)) fun r174 b175 =>
    Option.bind (codeAt y_letters r174) fun c186 =>
    bind2 (m_l_names_c3 y_letters xs_ b175) fun rest189 b190 => some ((sgn c186) :: rest189, b190)
def m_l_names_c4  : List Nat → Option (List Str)
  | [] => some []
  | e317 :: xs_ =>
    Option.bind (catS (sgn e317) ("zz" : Str)) fun t319 =>
    Option.bind (m_l_names_c4  xs_) fun rest323 => some (t319 :: rest323)
def m_l_names_c5 (y_found : (List Str)) : List Str → List Str
  | [] => []
  | e436 :: xs_ => if (!inD e436 y_found) then e436 :: m_l_names_c5 y_found xs_ else m_l_names_c5 y_found xs_
def m_l_names_l2 (y_letters : Str) (y_kept : (List Str)) (y_base : Str) : List Int → (List Str) → Bag → (Option ((List Str) × Bag))
  | [], y_found, b => some (y_found, b)
  | e124 :: xs_, y_found, b =>
    bind2 (m_l_draw b (8 : Int)) fun r126 b127 =>
    Option.bind (rangeO1 ((1 : Int) + r126)) fun l137 =>
    bind2 (m_l_names_c3 y_letters l137 b127) fun l150 b151 =>
    Option.bind (joinS ("" : Str) l150) fun t214 =>
    Option.bind (codeAt y_letters e124) fun c220 =>
    Option.bind (catS (cutS y_base none (some (7 : Int))) (sgn c220)) fun t222 =>
    Option.bind (atI y_kept (e124 % (8 : Int))) fun t225 =>
    bind2 (m_l_draw b151 (4 : Int)) fun r244 b245 =>
    Option.bind (atI ([t214, t222, (cutS y_base none (some ((1 : Int) + (e124 % (8 : Int))))), t225] : List Str) r244) fun t257 =>
    Option.bind (m_l_names_c4  (y_letters).cps.toList) fun l294 =>
    Option.bind (conL ([t257] : List Str) l294) fun t353 =>
    Option.bind (some (m_l_names_c5 y_found t353)) fun y_left473 =>
    Option.bind (atI y_left473 (0 : Int)) fun t477 =>
    Option.bind (appL y_found t477) fun t483 =>
    m_l_names_l2 y_letters y_kept y_base xs_ t483 b245
def m_l_names (b : Bag)  : Option ((List Str) × Bag) :=
  Option.bind (some ("abcdefghijklmnopqrstuvwxyz" : Str)) fun y_letters1 =>
  Option.bind (some ([("let" : Str), ("bar" : Str), ("from" : Str), ("any" : Str), ("to" : Str), ("by" : Str), ("past" : Str), ("within" : Str)] : List Str)) fun y_kept12 =>
  bind2 (m_l_names_c1 y_letters1 (rangeL (0 : Int) 8) b) fun l24 b25 =>
  Option.bind (joinS ("" : Str) l24) fun t84 =>
  bind2 (m_l_names_l2 y_letters1 y_kept12 t84 (rangeL (0 : Int) 16) ([] : List Str) b25) fun y_found101 b102 =>
  some (y_found101, b102)
abbrev N_l_names : List Str := ["_law_bag_here", "_law_letters", "_law_kept", "_law_base", "_law_found", "_law_k", "_law_one", "_law_start", "_law_left", "_law_name", "_law_j", "_law_sign"]
theorem sc_l_names : FnScope N_l_names ["_law_bag_here"] (defScope s_l_names) := ⟨rfl, rfl, rfl, by decide +kernel, rfl, by decide +kernel, by decide +kernel⟩
def sp_l_names (K : PySem.W.Frag) : Sp := fun vs H Q _ => ∃ (F : Hp) (B C : Addr) (b : Bag) (r : (List Str)) (b' : Bag), vs = [.ref B] ∧ Same F H ∧ BagAt F H B C b ∧ m_l_names b  = some (r, b') ∧ (∀ p ws F' H', Gr (Bc B C) F H F' H' → BagAt F' H' B C b' → H p = none → H' p = some (.lst ws) → F' p = none → ws.length ≤ sizeLine → RL K F' ws r → Q (.ref p) H')
/-! ### l_pattern -/
def m_l_pattern_c1  : List Int → Bag → Option (List Str × Bag)
  | [], b => some ([], b)
  | e73 :: xs_, b =>
    bind2 (m_l_draw b (2 : Int)) fun r75 b76 =>
    Option.bind (strO r75) fun t86 =>
    bind2 (m_l_pattern_c1  xs_ b76) fun rest89 b90 => some (t86 :: rest89, b90)
def m_l_pattern (b : Bag) (y_bits : Int) : Option (Str × Bag) :=
  bind2 (m_l_draw b (y_bits + (1 : Int))) fun r1 b2 =>
  bind2 (m_l_draw b2 (3 : Int)) fun r10 b11 =>
  bind2 (m_l_draw b11 (3 : Int)) fun r26 b27 =>
  Option.bind (atI ([r1, (if r10 < y_bits then r10 else y_bits), y_bits] : List Int) r26) fun t36 =>
  Option.bind (rangeO1 t36) fun l41 =>
  bind2 (m_l_pattern_c1  l41 b27) fun l52 b53 =>
  Option.bind (joinS ("" : Str) l52) fun t112 =>
  Option.bind (mulS ("*" : Str) (toI (decide (t36 < y_bits)))) fun t115 =>
  Option.bind (catS t112 t115) fun t118 =>
  some (t118, b53)
abbrev N_l_pattern : List Str := ["_law_bag_here", "_law_bits", "_law_many", "_law_k"]
theorem sc_l_pattern : FnScope N_l_pattern ["_law_bag_here", "_law_bits"] (defScope s_l_pattern) := ⟨rfl, rfl, rfl, by decide +kernel, rfl, by decide +kernel, by decide +kernel⟩
def sp_l_pattern (K : PySem.W.Frag) : Sp := fun vs H Q _ => ∃ (F : Hp) (B C : Addr) (b : Bag) (y_bits : Int) (r : Str) (b' : Bag), vs = [.ref B, .int y_bits] ∧ Same F H ∧ BagAt F H B C b ∧ m_l_pattern b y_bits = some (r, b') ∧ (∀ F' H', Gr (Bc B C) F H F' H' → BagAt F' H' B C b' → GS r → Q (.str r) H')
/-! ### l_order -/
def m_l_order_l1 (y_town_here : (T4 Int Int (List (Int × Int)) (List Int))) : List Int → (List Int) → Bag → (Option ((List Int) × Bag))
  | [], y_by, b => some (y_by, b)
  | e56 :: xs_, y_by, b =>
    bind2 (m_l_draw b y_town_here.b) fun r69 b70 =>
    Option.bind (if (eqD y_by ([] : (List Int))) then some true else (Option.bind (atI y_by (-(1 : Int))) fun t95 => some ((neI t95 r69)))) fun c90 =>
    if c90 then (Option.bind (appL y_by r69) fun t108 =>
 m_l_order_l1 y_town_here xs_ t108 b70) else (m_l_order_l1 y_town_here xs_ y_by b70)
def m_l_order_c2 (y_town_here : (T4 Int Int (List (Int × Int)) (List Int))) : List Int → Bag → Option (List Int × Bag)
  | [], b => some ([], b)
  | e192 :: xs_, b =>
    bind2 (m_l_draw b y_town_here.b) fun r205 b206 =>
    bind2 (m_l_order_c2 y_town_here xs_ b206) fun rest218 b219 => some (r205 :: rest218, b219)
def m_l_order (b : Bag) (y_town_here : (T4 Int Int (List (Int × Int)) (List Int))) : Option ((T4 Int (VT Int) (VT Int) (Option Int)) × Bag) :=
  bind2 (m_l_draw b (5 : Int)) fun r17 b18 =>
  Option.bind (atI ([(0 : Int), (0 : Int), (1 : Int), (2 : Int), (3 : Int)] : List Int) r17) fun t28 =>
  Option.bind (rangeO1 t28) fun l33 =>
  bind2 (m_l_order_l1 y_town_here l33 ([] : List Int) b18) fun y_by36 b37 =>
  bind2 (m_l_draw b37 (5 : Int)) fun r141 b142 =>
  Option.bind (atI ([(0 : Int), (0 : Int), (1 : Int), (2 : Int), (3 : Int)] : List Int) r141) fun t152 =>
  Option.bind (rangeO1 t152) fun l157 =>
  bind2 (m_l_order_c2 y_town_here l157 b142) fun l170 b171 =>
  bind2 (m_l_draw b171 (9 : Int)) fun r243 b244 =>
  bind2 (m_l_draw b244 ((10 : Int) ^ (9 : Int).toNat)) fun r255 b256 =>
  bind2 (m_l_draw b256 (4 : Int)) fun r280 b281 =>
  Option.bind (atI ([(none : (Option Int)), (some r243), (some r255), (none : (Option Int))] : List (Option Int)) r280) fun t293 =>
  bind2 (m_l_draw b281 (((y_town_here.e).length : Nat) : Int)) fun r315 b316 =>
  Option.bind (ssetO l170) fun t344 =>
  some ((T4.mk r315 (VT.mk y_by36) (VT.mk t344) t293), b316)
abbrev N_l_order : List Str := ["_law_bag_here", "_law_town_here", "_law_by", "_law_k", "_law_one", "_law_past", "_law_most"]
theorem sc_l_order : FnScope N_l_order ["_law_bag_here", "_law_town_here"] (defScope s_l_order) := ⟨rfl, rfl, rfl, by decide +kernel, rfl, by decide +kernel, by decide +kernel⟩
def sp_l_order (K : PySem.W.Frag) : Sp := fun vs H Q _ => ∃ (F : Hp) (B C : Addr) (b : Bag) (v_y_town_here : V) (y_town_here : (T4 Int Int (List (Int × Int)) (List Int))) (r : (T4 Int (VT Int) (VT Int) (Option Int))) (b' : Bag), vs = [.ref B, v_y_town_here] ∧ Same F H ∧ BagAt F H B C b ∧ R K F v_y_town_here y_town_here ∧ m_l_order b y_town_here = some (r, b') ∧ (∀ v F' H', Gr (Bc B C) F H F' H' → BagAt F' H' B C b' → R K F' v r → Q v H')
/-! ### l_near -/
def m_l_near (b : Bag) (y_town_here : (T4 Int Int (List (Int × Int)) (List Int))) (y_order_here : (T4 Int (VT Int) (VT Int) (Option Int))) : Option ((T4 Int (VT Int) (VT Int) (Option Int)) × Bag) :=
  bind2 (m_l_draw b (5 : Int)) fun r12 b13 =>
  Option.bind (if (eqI r12 (0 : Int)) then (Option.bind (some (if (y_order_here.e).isNone then (some (5 : Int)) else (none : (Option Int)))) fun y_most37 =>
 some (y_most37)) else (some (y_order_here.e))) fun y_most21 =>
  Option.bind (if (eqI r12 (1 : Int)) then (Option.bind (some (VT.mk (y_order_here.b).l.reverse : (VT Int))) fun y_by67 =>
 some (y_by67)) else (some (y_order_here.b))) fun y_by50 =>
  Option.bind (if (eqI r12 (2 : Int)) then (Option.bind (some (VT.mk (cutL (y_order_here.c).l (some (1 : Int)) none))) fun y_past98 =>
 some (y_past98)) else (some (y_order_here.c))) fun y_past80 =>
  bind2 (if (eqI r12 (3 : Int)) then (bind2 (m_l_draw b13 (((y_town_here.e).length : Nat) : Int)) fun r131 b132 =>
 some (r131, b132)) else (some (y_order_here.a, b13))) fun y_gate111 b112 =>
  Option.bind (if (eqI r12 (4 : Int)) then (Option.bind (ssetO (y_by50).l) fun t167 => some ((eqD (y_by50).l t167))) else some false) fun c147 =>
  if c147 then (some ((T4.mk y_gate111 y_past80 y_by50 y_most21), b112)) else (some ((T4.mk y_gate111 y_by50 y_past80 y_most21), b112))
abbrev N_l_near : List Str := ["_law_bag_here", "_law_town_here", "_law_order_here", "_law_gate", "_law_by", "_law_past", "_law_most", "_law_manner"]
theorem sc_l_near : FnScope N_l_near ["_law_bag_here", "_law_town_here", "_law_order_here"] (defScope s_l_near) := ⟨rfl, rfl, rfl, by decide +kernel, rfl, by decide +kernel, by decide +kernel⟩
def sp_l_near (K : PySem.W.Frag) : Sp := fun vs H Q _ => ∃ (F : Hp) (B C : Addr) (b : Bag) (v_y_town_here : V) (y_town_here : (T4 Int Int (List (Int × Int)) (List Int))) (v_y_order_here : V) (y_order_here : (T4 Int (VT Int) (VT Int) (Option Int))) (r : (T4 Int (VT Int) (VT Int) (Option Int))) (b' : Bag), vs = [.ref B, v_y_town_here, v_y_order_here] ∧ Same F H ∧ BagAt F H B C b ∧ R K F v_y_town_here y_town_here ∧ R K F v_y_order_here y_order_here ∧ m_l_near b y_town_here y_order_here = some (r, b') ∧ (∀ v F' H', Gr (Bc B C) F H F' H' → BagAt F' H' B C b' → R K F' v r → Q v H')
/-! ### l_gates -/
def m_l_gates_c1 (y_town_here : (T4 Int Int (List (Int × Int)) (List Int))) : List Int → Bag → Option (List Int × Bag)
  | [], b => some ([], b)
  | e64 :: xs_, b =>
    bind2 (m_l_draw b (((y_town_here.e).length : Nat) : Int)) fun r83 b84 =>
    bind2 (m_l_gates_c1 y_town_here xs_ b84) fun rest95 b96 => some (r83 :: rest95, b96)
def m_l_gates (b : Bag) (y_town_here : (T4 Int Int (List (Int × Int)) (List Int))) : Option ((Option (VT Int)) × Bag) :=
  bind2 (m_l_draw b (3 : Int)) fun r1 b2 =>
  if (eqI r1 (0 : Int)) then (some ((none : (Option (VT Int))), b2)) else (bind2 (m_l_draw b2 (4 : Int)) fun r17 b18 =>
 Option.bind (atI ([(1 : Int), (1 : Int), (2 : Int), (8 : Int)] : List Int) r17) fun t27 =>
 Option.bind (rangeO1 t27) fun l32 =>
 bind2 (m_l_gates_c1 y_town_here l32 b18) fun l43 b44 =>
 Option.bind (ssetO l43) fun t118 =>
 some ((some (VT.mk t118)), b44))
abbrev N_l_gates : List Str := ["_law_bag_here", "_law_town_here", "_law_some", "_law_k"]
theorem sc_l_gates : FnScope N_l_gates ["_law_bag_here", "_law_town_here"] (defScope s_l_gates) := ⟨rfl, rfl, rfl, by decide +kernel, rfl, by decide +kernel, by decide +kernel⟩
def sp_l_gates (K : PySem.W.Frag) : Sp := fun vs H Q _ => ∃ (F : Hp) (B C : Addr) (b : Bag) (v_y_town_here : V) (y_town_here : (T4 Int Int (List (Int × Int)) (List Int))) (r : (Option (VT Int))) (b' : Bag), vs = [.ref B, v_y_town_here] ∧ Same F H ∧ BagAt F H B C b ∧ R K F v_y_town_here y_town_here ∧ m_l_gates b y_town_here = some (r, b') ∧ (∀ v F' H', Gr (Bc B C) F H F' H' → BagAt F' H' B C b' → R K F' v r → Q v H')
/-! ### l_wish -/
def m_l_wish_c1 (y_town_here : (T4 Int Int (List (Int × Int)) (List Int))) : List Int → Bag → Option (List Str × Bag)
  | [], b => some ([], b)
  | e101 :: xs_, b =>
    bind2 (m_l_pattern b y_town_here.a) fun r114 b115 =>
    bind2 (m_l_wish_c1 y_town_here xs_ b115) fun rest127 b128 => some (r114 :: rest127, b128)
def m_l_wish (b : Bag) (y_town_here : (T4 Int Int (List (Int × Int)) (List Int))) (y_name : Str) (y_pool : (List (Option (T4 Int (VT Int) (VT Int) (Option Int))))) : Option ((T5 Str Int (VT Str) (Option (VT Int)) (Option (T4 Int (VT Int) (VT Int) (Option Int)))) × Bag) :=
  bind2 (m_l_draw b (2 : Int)) fun r1 b2 =>
  bind2 (m_l_draw b2 (10 : Int)) fun r10 b11 =>
  bind2 (m_l_draw b11 (2 : Int)) fun r26 b27 =>
  Option.bind (atI ([r1, r10] : List Int) r26) fun t36 =>
  bind2 (m_l_draw b27 (4 : Int)) fun r50 b51 =>
  Option.bind (atI ([(1 : Int), (1 : Int), (2 : Int), (4 : Int)] : List Int) r50) fun t61 =>
  Option.bind (rangeO1 t61) fun l66 =>
  bind2 (m_l_wish_c1 y_town_here l66 b51) fun l79 b80 =>
  bind2 (m_l_gates b80 y_town_here) fun r166 b167 =>
  bind2 (m_l_draw b167 (4 : Int)) fun r179 b180 =>
  Option.bind (atI y_pool r179) fun t191 =>
  some ((T5.mk y_name t36 (VT.mk l79) r166 t191), b180)
abbrev N_l_wish : List Str := ["_law_bag_here", "_law_town_here", "_law_name", "_law_pool", "_law_rank", "_law_some", "_law_k"]
theorem sc_l_wish : FnScope N_l_wish ["_law_bag_here", "_law_town_here", "_law_name", "_law_pool"] (defScope s_l_wish) := ⟨rfl, rfl, rfl, by decide +kernel, rfl, by decide +kernel, by decide +kernel⟩
def sp_l_wish (K : PySem.W.Frag) : Sp := fun vs H Q _ => ∃ (F : Hp) (B C : Addr) (b : Bag) (v_y_town_here : V) (y_town_here : (T4 Int Int (List (Int × Int)) (List Int))) (y_name : Str) (p_y_pool : Addr) (ws_y_pool : List V) (y_pool : (List (Option (T4 Int (VT Int) (VT Int) (Option Int))))) (r : (T5 Str Int (VT Str) (Option (VT Int)) (Option (T4 Int (VT Int) (VT Int) (Option Int))))) (b' : Bag), vs = [.ref B, v_y_town_here, .str y_name, .ref p_y_pool] ∧ Same F H ∧ BagAt F H B C b ∧ R K F v_y_town_here y_town_here ∧ GS y_name ∧ SqL K H p_y_pool ws_y_pool ∧ ws_y_pool.length ≤ sizeLine ∧ RL K F ws_y_pool y_pool ∧ (∀ F' H', Gr (Bc B C) F H F' H' → SqL K H' p_y_pool ws_y_pool) ∧ m_l_wish b y_town_here y_name y_pool = some (r, b') ∧ (∀ v F' H', Gr (Bc B C) F H F' H' → BagAt F' H' B C b' → R K F' v r → Q v H')
/-! ### l_rows -/
def m_l_rows_c1 (y_town_here : (T4 Int Int (List (Int × Int)) (List Int))) (y_names_here : (List Str)) (y_pool : (List (Option (T4 Int (VT Int) (VT Int) (Option Int))))) : List Int → Bag → Option (List (T5 Str Int (VT Str) (Option (VT Int)) (Option (T4 Int (VT Int) (VT Int) (Option Int)))) × Bag)
  | [], b => some ([], b)
  | e164 :: xs_, b =>
    Option.bind (atI y_names_here e164) fun t166 =>
    bind2 (m_l_wish b y_town_here t166 y_pool) fun r172 b173 =>
    bind2 (m_l_rows_c1 y_town_here y_names_here y_pool xs_ b173) fun rest187 b188 => some (r172 :: rest187, b188)
def m_l_rows (b : Bag) (y_town_here : (T4 Int Int (List (Int × Int)) (List Int))) (y_most : Int) : Option ((List (T5 Str Int (VT Str) (Option (VT Int)) (Option (T4 Int (VT Int) (VT Int) (Option Int))))) × Bag) :=
  bind2 (m_l_names b ) fun r1 b2 =>
  bind2 (m_l_order b2 y_town_here) fun r19 b20 =>
  bind2 (m_l_near b20 y_town_here r19) fun r30 b31 =>
  bind2 (m_l_order b31 y_town_here) fun r41 b42 =>
  Option.bind (some ([(some r19), (some r30), (some r41), (none : (Option (T4 Int (VT Int) (VT Int) (Option Int))))] : List (Option (T4 Int (VT Int) (VT Int) (Option Int))))) fun y_pool61 =>
  bind2 (m_l_draw b42 (4 : Int)) fun r65 b66 =>
  bind2 (m_l_draw b66 (y_most + (1 : Int))) fun r76 b77 =>
  bind2 (m_l_draw b77 (2 : Int)) fun r87 b88 =>
  bind2 (m_l_draw b88 (3 : Int)) fun r109 b110 =>
  Option.bind (atI ([((1 : Int) + r65), r76, ((2 : Int) + r87)] : List Int) r109) fun t121 =>
  Option.bind (rangeO1 (if t121 < y_most then t121 else y_most)) fun l126 =>
  bind2 (m_l_rows_c1 y_town_here r1 y_pool61 l126 b110) fun l141 b142 =>
  some (l141, b142)
abbrev N_l_rows : List Str := ["_law_bag_here", "_law_town_here", "_law_most", "_law_names_here", "_law_first", "_law_pool", "_law_many", "_law_k"]
theorem sc_l_rows : FnScope N_l_rows ["_law_bag_here", "_law_town_here", "_law_most"] (defScope s_l_rows) := ⟨rfl, rfl, rfl, by decide +kernel, rfl, by decide +kernel, by decide +kernel⟩
def sp_l_rows (K : PySem.W.Frag) : Sp := fun vs H Q _ => ∃ (F : Hp) (B C : Addr) (b : Bag) (v_y_town_here : V) (y_town_here : (T4 Int Int (List (Int × Int)) (List Int))) (y_most : Int) (r : (List (T5 Str Int (VT Str) (Option (VT Int)) (Option (T4 Int (VT Int) (VT Int) (Option Int)))))) (b' : Bag), vs = [.ref B, v_y_town_here, .int y_most] ∧ Same F H ∧ BagAt F H B C b ∧ R K F v_y_town_here y_town_here ∧ m_l_rows b y_town_here y_most = some (r, b') ∧ (∀ p ws F' H', Gr (Bc B C) F H F' H' → BagAt F' H' B C b' → H p = none → H' p = some (.lst ws) → F' p = none → ws.length ≤ sizeLine → RL K F' ws r → Q (.ref p) H')
/-! ### l_span -/
def m_l_span_l1  : List Nat → Int → (Option (Int))
  | [], y_first => some y_first
  | e17 :: xs_, y_first =>
    Option.bind (some (((2 : Int) * y_first) + (toI (eqS (sgn e17) ("1" : Str))))) fun y_first19 =>
    m_l_span_l1  xs_ y_first19
def m_l_span (y_pattern_here : Str) (y_bits : Int) : Option (Int × Int) :=
  Option.bind (some (strike y_pattern_here 42)) fun y_signs1 =>
  Option.bind (m_l_span_l1  (y_signs1).cps.toList (0 : Int)) fun y_first5 =>
  Option.bind (shlI (1 : Int) (y_bits - ((y_signs1.length : Nat) : Int))) fun t30 =>
  Option.bind (mulI y_first5 t30) fun t35 =>
  Option.bind (mulI y_first5 t30) fun t38 =>
  some (t35, (t38 + t30))
abbrev N_l_span : List Str := ["_law_pattern_here", "_law_bits", "_law_signs", "_law_first", "_law_sign", "_law_size"]
theorem sc_l_span : FnScope N_l_span ["_law_pattern_here", "_law_bits"] (defScope s_l_span) := ⟨rfl, rfl, rfl, by decide +kernel, rfl, by decide +kernel, by decide +kernel⟩
def sp_l_span (K : PySem.W.Frag) : Sp := fun vs H Q _ => ∃ (F : Hp) (y_pattern_here : Str) (y_bits : Int) (r : (Int × Int)), vs = [.str y_pattern_here, .int y_bits] ∧ Same F H ∧ GS y_pattern_here ∧ m_l_span y_pattern_here y_bits = some r ∧ (∀ v F' H', Gr M0 F H F' H' → R K F' v r → Q v H')
/-! ### l_plain -/
def m_l_plain_c2 (y_bits : Int) : List Str → Option (List (Int × Int))
  | [] => some []
  | e93 :: xs_ =>
    Option.bind (m_l_span e93 y_bits) fun r97 =>
    Option.bind (m_l_plain_c2 y_bits xs_) fun rest108 => some (r97 :: rest108)
def m_l_plain_c1 (y_bits : Int) : List (T5 Str Int (VT Str) (Option (VT Int)) (Option (T4 Int (VT Int) (VT Int) (Option Int)))) → Option (List (T5 Str Int (List (Int × Int)) (Option (VT Int)) (Option (T4 Int (VT Int) (VT Int) (Option Int)))))
  | [] => some []
  | e33 :: xs_ =>
    Option.bind (m_l_plain_c2 y_bits (e33.c).l) fun l63 =>
    Option.bind (m_l_plain_c1 y_bits xs_) fun rest140 => some ((T5.mk e33.a e33.b l63 e33.e e33.f) :: rest140)
def m_l_plain (y_rows_here : (List (T5 Str Int (VT Str) (Option (VT Int)) (Option (T4 Int (VT Int) (VT Int) (Option Int)))))) (y_bits : Int) : Option (List (T5 Str Int (List (Int × Int)) (Option (VT Int)) (Option (T4 Int (VT Int) (VT Int) (Option Int))))) :=
  Option.bind (m_l_plain_c1 y_bits y_rows_here) fun l5 =>
  some l5
abbrev N_l_plain : List Str := ["_law_rows_here", "_law_bits", "_law_row", "_law_one"]
theorem sc_l_plain : FnScope N_l_plain ["_law_rows_here", "_law_bits"] (defScope s_l_plain) := ⟨rfl, rfl, rfl, by decide +kernel, rfl, by decide +kernel, by decide +kernel⟩
def sp_l_plain (K : PySem.W.Frag) : Sp := fun vs H Q _ => ∃ (F : Hp) (p_y_rows_here : Addr) (ws_y_rows_here : List V) (y_rows_here : (List (T5 Str Int (VT Str) (Option (VT Int)) (Option (T4 Int (VT Int) (VT Int) (Option Int)))))) (y_bits : Int) (r : (List (T5 Str Int (List (Int × Int)) (Option (VT Int)) (Option (T4 Int (VT Int) (VT Int) (Option Int)))))), vs = [.ref p_y_rows_here, .int y_bits] ∧ Same F H ∧ SqL K H p_y_rows_here ws_y_rows_here ∧ ws_y_rows_here.length ≤ sizeLine ∧ RL K F ws_y_rows_here y_rows_here ∧ ¬ M0 p_y_rows_here ∧ m_l_plain y_rows_here y_bits = some r ∧ (∀ p ws F' H', Gr M0 F H F' H' → H p = none → H' p = some (.lst ws) → F' p = none → ws.length ≤ sizeLine → RL K F' ws r → Q (.ref p) H')
/-! ### l_is_of -/
def m_l_is_of_c1 (y_mark_here : Int) : List (Int × Int) → List (Int × Int)
  | [] => []
  | e103 :: xs_ => if ((decide (e103.1 ≤ y_mark_here)) && (decide (y_mark_here < e103.2))) then e103 :: m_l_is_of_c1 y_mark_here xs_ else m_l_is_of_c1 y_mark_here xs_
def m_l_is_of (y_row : (T5 Str Int (List (Int × Int)) (Option (VT Int)) (Option (T4 Int (VT Int) (VT Int) (Option Int))))) (y_gate : Int) (y_mark_here : Int) : Option Bool :=
  Option.bind (if (!(y_row.e).isNone) then (Option.bind (y_row.e) fun t20 => some ((!decide (y_gate ∈ (t20).l)))) else some false) fun c15 =>
  if c15 then (some false) else (Option.bind (if (y_row.e).isNone then (Option.bind (if (!(y_row.f).isNone) then (Option.bind (y_row.f) fun t45 => some ((eqI t45.a y_gate))) else some false) fun c40 => some (c40)) else some false) fun c35 =>
 if c35 then (some false) else (some (!eqD (m_l_is_of_c1 y_mark_here y_row.c) ([] : (List (Int × Int))))))
abbrev N_l_is_of : List Str := ["_law_row", "_law_gate", "_law_mark_here", "_law_span_here"]
theorem sc_l_is_of : FnScope N_l_is_of ["_law_row", "_law_gate", "_law_mark_here"] (defScope s_l_is_of) := ⟨rfl, rfl, rfl, by decide +kernel, rfl, by decide +kernel, by decide +kernel⟩
def sp_l_is_of (K : PySem.W.Frag) : Sp := fun vs H Q _ => ∃ (v_y_row : V) (y_row : (T5 Str Int (List (Int × Int)) (Option (VT Int)) (Option (T4 Int (VT Int) (VT Int) (Option Int))))) (y_gate : Int) (y_mark_here : Int) (r : Bool), vs = [v_y_row, .int y_gate, .int y_mark_here] ∧ R K H v_y_row y_row ∧ m_l_is_of y_row y_gate y_mark_here = some r ∧ (∀ F' H', Gr M0 H H F' H' → Q (.bl r) H')
/-! ### l_top -/
def m_l_top_c1 (y_gate : Int) (y_mark_here : Int) : List (T5 Str Int (List (Int × Int)) (Option (VT Int)) (Option (T4 Int (VT Int) (VT Int) (Option Int)))) → Option (List (T5 Str Int (List (Int × Int)) (Option (VT Int)) (Option (T4 Int (VT Int) (VT Int) (Option Int)))))
  | [] => some []
  | e33 :: xs_ =>
    Option.bind (m_l_is_of e33 y_gate y_mark_here) fun r36 =>
    if r36 then (Option.bind (m_l_top_c1 y_gate y_mark_here xs_) fun rest45 => some (e33 :: rest45)) else m_l_top_c1 y_gate y_mark_here xs_
def m_l_top_c2  : List (T5 Str Int (List (Int × Int)) (Option (VT Int)) (Option (T4 Int (VT Int) (VT Int) (Option Int)))) → List Int
  | [] => []
  | e105 :: xs_ => e105.b :: m_l_top_c2  xs_
def m_l_top_c3 (y_best : Int) : List (T5 Str Int (List (Int × Int)) (Option (VT Int)) (Option (T4 Int (VT Int) (VT Int) (Option Int)))) → List (T5 Str Int (List (Int × Int)) (Option (VT Int)) (Option (T4 Int (VT Int) (VT Int) (Option Int))))
  | [] => []
  | e205 :: xs_ => if (eqI e205.b y_best) then e205 :: m_l_top_c3 y_best xs_ else m_l_top_c3 y_best xs_
def m_l_top (y_plain_here : (List (T5 Str Int (List (Int × Int)) (Option (VT Int)) (Option (T4 Int (VT Int) (VT Int) (Option Int)))))) (y_gate : Int) (y_mark_here : Int) : Option (List (T5 Str Int (List (Int × Int)) (Option (VT Int)) (Option (T4 Int (VT Int) (VT Int) (Option Int))))) :=
  Option.bind (m_l_top_c1 y_gate y_mark_here y_plain_here) fun l5 =>
  Option.bind (conL ([(0 : Int)] : List Int) (m_l_top_c2  l5)) fun t141 =>
  Option.bind (maxO t141) fun t157 =>
  some (m_l_top_c3 t157 l5)
abbrev N_l_top : List Str := ["_law_plain_here", "_law_gate", "_law_mark_here", "_law_some", "_law_best", "_law_row"]
theorem sc_l_top : FnScope N_l_top ["_law_plain_here", "_law_gate", "_law_mark_here"] (defScope s_l_top) := ⟨rfl, rfl, rfl, by decide +kernel, rfl, by decide +kernel, by decide +kernel⟩
def sp_l_top (K : PySem.W.Frag) : Sp := fun vs H Q _ => ∃ (F : Hp) (p_y_plain_here : Addr) (ws_y_plain_here : List V) (y_plain_here : (List (T5 Str Int (List (Int × Int)) (Option (VT Int)) (Option (T4 Int (VT Int) (VT Int) (Option Int)))))) (y_gate : Int) (y_mark_here : Int) (r : (List (T5 Str Int (List (Int × Int)) (Option (VT Int)) (Option (T4 Int (VT Int) (VT Int) (Option Int)))))), vs = [.ref p_y_plain_here, .int y_gate, .int y_mark_here] ∧ Same F H ∧ SqL K H p_y_plain_here ws_y_plain_here ∧ ws_y_plain_here.length ≤ sizeLine ∧ RL K F ws_y_plain_here y_plain_here ∧ ¬ M0 p_y_plain_here ∧ m_l_top y_plain_here y_gate y_mark_here = some r ∧ (∀ p ws F' H', Gr M0 F H F' H' → H p = none → H' p = some (.lst ws) → F' p = none → ws.length ≤ sizeLine → RL K F' ws r → Q (.ref p) H')
/-! ### l_cuts -/
def m_l_cuts_l2  : List (Int × Int) → (List Int) → (Option ((List Int)))
  | [], y_found => some y_found
  | e71 :: xs_, y_found =>
    Option.bind (conL y_found ([e71.1, e71.2] : List Int)) fun t88 =>
    m_l_cuts_l2  xs_ t88
def m_l_cuts_l1  : List (T5 Str Int (List (Int × Int)) (Option (VT Int)) (Option (T4 Int (VT Int) (VT Int) (Option Int)))) → (List Int) → (Option ((List Int)))
  | [], y_found => some y_found
  | e31 :: xs_, y_found =>
    Option.bind (m_l_cuts_l2  e31.c y_found) fun y_found54 =>
    m_l_cuts_l1  xs_ y_found54
def m_l_cuts (y_plain_here : (List (T5 Str Int (List (Int × Int)) (Option (VT Int)) (Option (T4 Int (VT Int) (VT Int) (Option Int)))))) (y_bits : Int) : Option (List Int) :=
  Option.bind (shlI (1 : Int) y_bits) fun t1 =>
  Option.bind (some ([(0 : Int), t1] : List Int)) fun y_found9 =>
  Option.bind (m_l_cuts_l1  y_plain_here y_found9) fun y_found13 =>
  Option.bind (ssetO y_found13) fun t123 =>
  some t123
abbrev N_l_cuts : List Str := ["_law_plain_here", "_law_bits", "_law_found", "_law_row", "_law_first", "_law_behind"]
theorem sc_l_cuts : FnScope N_l_cuts ["_law_plain_here", "_law_bits"] (defScope s_l_cuts) := ⟨rfl, rfl, rfl, by decide +kernel, rfl, by decide +kernel, by decide +kernel⟩
def sp_l_cuts (K : PySem.W.Frag) : Sp := fun vs H Q _ => ∃ (F : Hp) (p_y_plain_here : Addr) (ws_y_plain_here : List V) (y_plain_here : (List (T5 Str Int (List (Int × Int)) (Option (VT Int)) (Option (T4 Int (VT Int) (VT Int) (Option Int)))))) (y_bits : Int) (r : (List Int)), vs = [.ref p_y_plain_here, .int y_bits] ∧ Same F H ∧ SqL K H p_y_plain_here ws_y_plain_here ∧ ws_y_plain_here.length ≤ sizeLine ∧ RL K F ws_y_plain_here y_plain_here ∧ ¬ M0 p_y_plain_here ∧ m_l_cuts y_plain_here y_bits = some r ∧ (∀ p ws F' H', Gr M0 F H F' H' → H p = none → H' p = some (.lst ws) → F' p = none → ws.length ≤ sizeLine → RL K F' ws r → Q (.ref p) H')
/-! ### l_clash -/
def m_l_clash_c4 (y_some : (List (T5 Str Int (List (Int × Int)) (Option (VT Int)) (Option (T4 Int (VT Int) (VT Int) (Option Int)))))) (y_k : Int) : List (T5 Str Int (List (Int × Int)) (Option (VT Int)) (Option (T4 Int (VT Int) (VT Int) (Option Int)))) → Option (List (T5 Str Int (List (Int × Int)) (Option (VT Int)) (Option (T4 Int (VT Int) (VT Int) (Option Int)))))
  | [] => some []
  | e167 :: xs_ =>
    Option.bind (atI y_some y_k) fun t184 =>
    if (!eqD e167.f t184.f) then (Option.bind (m_l_clash_c4 y_some y_k xs_) fun rest206 => some (e167 :: rest206)) else m_l_clash_c4 y_some y_k xs_
def m_l_clash_l3 (y_gate : Int) (y_mark_here : Int) (y_some : (List (T5 Str Int (List (Int × Int)) (Option (VT Int)) (Option (T4 Int (VT Int) (VT Int) (Option Int)))))) : List Int → (Option (Lp (Unit) (Lp (Unit) (Lp (Unit) ((Option (T4 Str Str Int Int)))))))
  | [] => some (.go ())
  | e112 :: xs_ =>
    Option.bind (m_l_clash_c4 y_some e112 (cutL y_some (some (e112 + (1 : Int))) none)) fun l133 =>
    if (!eqD l133 ([] : (List (T5 Str Int (List (Int × Int)) (Option (VT Int)) (Option (T4 Int (VT Int) (VT Int) (Option Int))))))) then (Option.bind (atI y_some e112) fun t245 =>
 Option.bind (atI l133 (0 : Int)) fun t264 =>
 some (.ret (.ret (.ret (some (T4.mk t245.a t264.a y_gate y_mark_here)))))) else (m_l_clash_l3 y_gate y_mark_here y_some xs_ )
def m_l_clash_l2 (y_plain_here : (List (T5 Str Int (List (Int × Int)) (Option (VT Int)) (Option (T4 Int (VT Int) (VT Int) (Option Int)))))) (y_gate : Int) : List Int → (Option (Lp (Unit) (Lp (Unit) ((Option (T4 Str Str Int Int))))))
  | [] => some (.go ())
  | e75 :: xs_ =>
    Option.bind (m_l_top y_plain_here y_gate e75) fun r78 =>
    Option.bind (rangeO1 (((r78).length : Nat) : Int)) fun l95 =>
    bindL0 (m_l_clash_l3 y_gate e75 r78 l95 ) (m_l_clash_l2 y_plain_here y_gate xs_ ) (fun r_ => some r_)
def m_l_clash_l1 (y_plain_here : (List (T5 Str Int (List (Int × Int)) (Option (VT Int)) (Option (T4 Int (VT Int) (VT Int) (Option Int)))))) (y_town_here : (T4 Int Int (List (Int × Int)) (List Int))) : List Int → (Option (Lp (Unit) ((Option (T4 Str Str Int Int)))))
  | [] => some (.go ())
  | e36 :: xs_ =>
    Option.bind (m_l_cuts y_plain_here y_town_here.a) fun r38 =>
    bindL0 (m_l_clash_l2 y_plain_here e36 (cutL r38 none (some (-(1 : Int)))) ) (m_l_clash_l1 y_plain_here y_town_here xs_ ) (fun r_ => some r_)
def m_l_clash (y_plain_here : (List (T5 Str Int (List (Int × Int)) (Option (VT Int)) (Option (T4 Int (VT Int) (VT Int) (Option Int)))))) (y_town_here : (T4 Int Int (List (Int × Int)) (List Int))) : Option (Option (T4 Str Str Int Int)) :=
  Option.bind (rangeO1 (((y_town_here.e).length : Nat) : Int)) fun l18 =>
  bindL0 (m_l_clash_l1 y_plain_here y_town_here l18 ) (some (none : (Option (T4 Str Str Int Int)))) (fun r_ => some r_)
abbrev N_l_clash : List Str := ["_law_plain_here", "_law_town_here", "_law_gate", "_law_mark_here", "_law_some", "_law_k", "_law_unlike", "_law_row"]
theorem sc_l_clash : FnScope N_l_clash ["_law_plain_here", "_law_town_here"] (defScope s_l_clash) := ⟨rfl, rfl, rfl, by decide +kernel, rfl, by decide +kernel, by decide +kernel⟩
def sp_l_clash (K : PySem.W.Frag) : Sp := fun vs H Q _ => ∃ (F : Hp) (p_y_plain_here : Addr) (ws_y_plain_here : List V) (y_plain_here : (List (T5 Str Int (List (Int × Int)) (Option (VT Int)) (Option (T4 Int (VT Int) (VT Int) (Option Int)))))) (v_y_town_here : V) (y_town_here : (T4 Int Int (List (Int × Int)) (List Int))) (r : (Option (T4 Str Str Int Int))), vs = [.ref p_y_plain_here, v_y_town_here] ∧ Same F H ∧ SqL K H p_y_plain_here ws_y_plain_here ∧ ws_y_plain_here.length ≤ sizeLine ∧ RL K F ws_y_plain_here y_plain_here ∧ ¬ M0 p_y_plain_here ∧ R K F v_y_town_here y_town_here ∧ m_l_clash y_plain_here y_town_here = some r ∧ (∀ v F' H', Gr M0 F H F' H' → R K F' v r → Q v H')
/-! ### l_quiet -/
def m_l_quiet_l1 (y_town_here : (T4 Int Int (List (Int × Int)) (List Int))) : List (T5 Str Int (VT Str) (Option (VT Int)) (Option (T4 Int (VT Int) (VT Int) (Option Int)))) → (List (T5 Str Int (VT Str) (Option (VT Int)) (Option (T4 Int (VT Int) (VT Int) (Option Int))))) → (Option ((List (T5 Str Int (VT Str) (Option (VT Int)) (Option (T4 Int (VT Int) (VT Int) (Option Int)))))))
  | [], y_found => some y_found
  | e26 :: xs_, y_found =>
    Option.bind (conL y_found ([e26] : List (T5 Str Int (VT Str) (Option (VT Int)) (Option (T4 Int (VT Int) (VT Int) (Option Int)))))) fun t36 =>
    Option.bind (m_l_plain t36 y_town_here.a) fun r61 =>
    Option.bind (m_l_clash r61 y_town_here) fun r82 =>
    if (r82).isNone then (Option.bind (appL y_found e26) fun t94 =>
 m_l_quiet_l1 y_town_here xs_ t94) else (m_l_quiet_l1 y_town_here xs_ y_found)
def m_l_quiet (y_rows_here : (List (T5 Str Int (VT Str) (Option (VT Int)) (Option (T4 Int (VT Int) (VT Int) (Option Int)))))) (y_town_here : (T4 Int Int (List (Int × Int)) (List Int))) : Option (List (T5 Str Int (VT Str) (Option (VT Int)) (Option (T4 Int (VT Int) (VT Int) (Option Int))))) :=
  Option.bind (some ([] : List (T5 Str Int (VT Str) (Option (VT Int)) (Option (T4 Int (VT Int) (VT Int) (Option Int)))))) fun y_found6 =>
  Option.bind (m_l_quiet_l1 y_town_here y_rows_here y_found6) fun y_found10 =>
  some y_found10
abbrev N_l_quiet : List Str := ["_law_rows_here", "_law_town_here", "_law_found", "_law_row"]
theorem sc_l_quiet : FnScope N_l_quiet ["_law_rows_here", "_law_town_here"] (defScope s_l_quiet) := ⟨rfl, rfl, rfl, by decide +kernel, rfl, by decide +kernel, by decide +kernel⟩
def sp_l_quiet (K : PySem.W.Frag) : Sp := fun vs H Q _ => ∃ (F : Hp) (p_y_rows_here : Addr) (ws_y_rows_here : List V) (y_rows_here : (List (T5 Str Int (VT Str) (Option (VT Int)) (Option (T4 Int (VT Int) (VT Int) (Option Int)))))) (v_y_town_here : V) (y_town_here : (T4 Int Int (List (Int × Int)) (List Int))) (r : (List (T5 Str Int (VT Str) (Option (VT Int)) (Option (T4 Int (VT Int) (VT Int) (Option Int)))))), vs = [.ref p_y_rows_here, v_y_town_here] ∧ Same F H ∧ SqL K H p_y_rows_here ws_y_rows_here ∧ ws_y_rows_here.length ≤ sizeLine ∧ RL K F ws_y_rows_here y_rows_here ∧ ¬ M0 p_y_rows_here ∧ R K F v_y_town_here y_town_here ∧ m_l_quiet y_rows_here y_town_here = some r ∧ (∀ p ws F' H', Gr M0 F H F' H' → H p = none → H' p = some (.lst ws) → F' p = none → ws.length ≤ sizeLine → RL K F' ws r → Q (.ref p) H')
/-! ### l_mark -/
def m_l_mark (b : Bag) (y_plain_here : (List (T5 Str Int (List (Int × Int)) (Option (VT Int)) (Option (T4 Int (VT Int) (VT Int) (Option Int)))))) (y_bits : Int) : Option (Int × Bag) :=
  Option.bind (m_l_cuts y_plain_here y_bits) fun r1 =>
  bind2 (m_l_draw b (((r1).length : Nat) : Int)) fun r18 b19 =>
  Option.bind (atI r1 r18) fun t28 =>
  bind2 (m_l_draw b19 (((r1).length : Nat) : Int)) fun r33 b34 =>
  Option.bind (atI r1 r33) fun t43 =>
  Option.bind (shlI (1 : Int) y_bits) fun t48 =>
  bind2 (m_l_draw b34 t48) fun r51 b52 =>
  Option.bind (some ([t28, (t43 - (1 : Int)), r51] : List Int)) fun y_some70 =>
  Option.bind (shlI (1 : Int) y_bits) fun t74 =>
  bind2 (m_l_draw b52 (3 : Int)) fun r77 b78 =>
  Option.bind (atI y_some70 r77) fun t88 =>
  some ((if (if t88 < (t74 - (1 : Int)) then t88 else (t74 - (1 : Int))) > (0 : Int) then (if t88 < (t74 - (1 : Int)) then t88 else (t74 - (1 : Int))) else (0 : Int)), b78)
abbrev N_l_mark : List Str := ["_law_bag_here", "_law_plain_here", "_law_bits", "_law_cuts_here", "_law_some"]
theorem sc_l_mark : FnScope N_l_mark ["_law_bag_here", "_law_plain_here", "_law_bits"] (defScope s_l_mark) := ⟨rfl, rfl, rfl, by decide +kernel, rfl, by decide +kernel, by decide +kernel⟩
def sp_l_mark (K : PySem.W.Frag) : Sp := fun vs H Q _ => ∃ (F : Hp) (B C : Addr) (b : Bag) (p_y_plain_here : Addr) (ws_y_plain_here : List V) (y_plain_here : (List (T5 Str Int (List (Int × Int)) (Option (VT Int)) (Option (T4 Int (VT Int) (VT Int) (Option Int)))))) (y_bits : Int) (r : Int) (b' : Bag), vs = [.ref B, .ref p_y_plain_here, .int y_bits] ∧ Same F H ∧ BagAt F H B C b ∧ SqL K H p_y_plain_here ws_y_plain_here ∧ ws_y_plain_here.length ≤ sizeLine ∧ RL K F ws_y_plain_here y_plain_here ∧ (∀ F' H', Gr (Bc B C) F H F' H' → SqL K H' p_y_plain_here ws_y_plain_here) ∧ m_l_mark b y_plain_here y_bits = some (r, b') ∧ (∀ F' H', Gr (Bc B C) F H F' H' → BagAt F' H' B C b' → Q (.int r) H')
/-! ### l_right -/
def m_l_right_c2  : List (T5 Str Int (List (Int × Int)) (Option (VT Int)) (Option (T4 Int (VT Int) (VT Int) (Option Int)))) → List Str
  | [] => []
  | e140 :: xs_ => e140.a :: m_l_right_c2  xs_
def m_l_right_l1 (y_town_here : (T4 Int Int (List (Int × Int)) (List Int))) (y_rows_here : (List (T5 Str Int (VT Str) (Option (VT Int)) (Option (T4 Int (VT Int) (VT Int) (Option Int)))))) (y_calm : Bool) (y_bits : Int) (y_plain_here : (List (T5 Str Int (List (Int × Int)) (Option (VT Int)) (Option (T4 Int (VT Int) (VT Int) (Option Int)))))) : List Int → Bag → (Option (Lp (Bag) (Bool × Bag)))
  | [], b => some (.go b)
  | e54 :: xs_, b =>
    bind2 (m_l_draw b (((y_town_here.e).length : Nat) : Int)) fun r62 b63 =>
    bind2 (m_l_mark b63 y_plain_here y_bits) fun r72 b73 =>
    Option.bind (m_l_top y_plain_here r62 r72) fun r82 =>
    Option.bind (some (m_l_right_c2  r82)) fun y_due178 =>
    Option.bind (m_held_by y_rows_here r62 r72 y_bits) fun r182 =>
    Option.bind (m_l_alike r182 y_due178) fun r207 =>
    if (!r207) then (some (.ret (false, b73))) else (Option.bind (appL r182 ("z" : Str)) fun t219 =>
 Option.bind (m_held_by y_rows_here r62 r72 y_bits) fun r230 =>
 if (!eqD r230 y_due178) then (some (.ret (false, b73))) else (Option.bind (if (!eqD r82 ([] : (List (T5 Str Int (List (Int × Int)) (Option (VT Int)) (Option (T4 Int (VT Int) (VT Int) (Option Int))))))) then (Option.bind (atI r82 (0 : Int)) fun t281 => some (t281.f)) else ( some ((none : (Option (T4 Int (VT Int) (VT Int) (Option Int))))))) fun c276 =>
 Option.bind (some ([c276, c276] : List (Option (T4 Int (VT Int) (VT Int) (Option Int))))) fun y_told335 =>
 Option.bind (if y_calm then (Option.bind (m_wished y_rows_here r62 r72 y_bits) fun r341 =>
 Option.bind (setL y_told335 (0 : Int) r341) fun t357 =>
 Option.bind (m_wished y_rows_here r62 r72 y_bits) fun r372 =>
 Option.bind (setL t357 (1 : Int) r372) fun t388 =>
 some (t388)) else (some (y_told335))) fun y_told339 =>
 Option.bind (m_l_alike y_told339 ([c276, c276] : List (Option (T4 Int (VT Int) (VT Int) (Option Int))))) fun r437 =>
 if (!r437) then (some (.ret (false, b73))) else (m_l_right_l1 y_town_here y_rows_here y_calm y_bits y_plain_here xs_ b73)))
def m_l_right (b : Bag) (y_town_here : (T4 Int Int (List (Int × Int)) (List Int))) (y_rows_here : (List (T5 Str Int (VT Str) (Option (VT Int)) (Option (T4 Int (VT Int) (VT Int) (Option Int)))))) (y_calm : Bool) : Option (Bool × Bag) :=
  Option.bind (m_l_plain y_rows_here y_town_here.a) fun r12 =>
  Option.bind (reprO (y_rows_here : (List (T5 Str Int (VT Str) (Option (VT Int)) (Option (T4 Int (VT Int) (VT Int) (Option Int))))))) fun t29 =>
  bindL1 (m_l_right_l1 y_town_here y_rows_here y_calm y_town_here.a r12 (rangeL (0 : Int) 12) b) (fun b32 => Option.bind (reprO (y_rows_here : (List (T5 Str Int (VT Str) (Option (VT Int)) (Option (T4 Int (VT Int) (VT Int) (Option Int))))))) fun t468 =>
 some ((eqS t468 t29), b32)) (fun r_ => some r_)
abbrev N_l_right : List Str := ["_law_bag_here", "_law_town_here", "_law_rows_here", "_law_calm", "_law_bits", "_law_plain_here", "_law_kept", "_law_k", "_law_gate", "_law_mark_here", "_law_top_here", "_law_due", "_law_found", "_law_order_here", "_law_told", "_law_row"]
theorem sc_l_right : FnScope N_l_right ["_law_bag_here", "_law_town_here", "_law_rows_here", "_law_calm"] (defScope s_l_right) := ⟨rfl, rfl, rfl, by decide +kernel, rfl, by decide +kernel, by decide +kernel⟩
def sp_l_right (K : PySem.W.Frag) : Sp := fun vs H Q _ => ∃ (F : Hp) (B C : Addr) (b : Bag) (v_y_town_here : V) (y_town_here : (T4 Int Int (List (Int × Int)) (List Int))) (p_y_rows_here : Addr) (ws_y_rows_here : List V) (y_rows_here : (List (T5 Str Int (VT Str) (Option (VT Int)) (Option (T4 Int (VT Int) (VT Int) (Option Int)))))) (y_calm : Bool) (r : Bool) (b' : Bag), vs = [.ref B, v_y_town_here, .ref p_y_rows_here, .bl y_calm] ∧ Same F H ∧ BagAt F H B C b ∧ R K F v_y_town_here y_town_here ∧ SqL K H p_y_rows_here ws_y_rows_here ∧ ws_y_rows_here.length ≤ sizeLine ∧ RL K F ws_y_rows_here y_rows_here ∧ (∀ F' H', Gr (Bc B C) F H F' H' → SqL K H' p_y_rows_here ws_y_rows_here) ∧ m_l_right b y_town_here y_rows_here y_calm = some (r, b') ∧ (∀ F' H', Gr (Bc B C) F H F' H' → BagAt F' H' B C b' → Q (.bl r) H')
/-! ### law -/
def m_law_l1  : List Int → Bag → (Option (Lp (Bag) (Bool × Bag)))
  | [], b => some (.go b)
  | e20 :: xs_, b =>
    bind2 (m_l_town b ) fun r22 b23 =>
    Option.bind (atI ([(6 : Int), (16 : Int)] : List Int) (toI (eqI e20 (0 : Int)))) fun t39 =>
    bind2 (m_l_rows b23 r22 t39) fun r44 b45 =>
    bind2 (m_l_right b45 r22 r44 false) fun r64 b65 =>
    if (!r64) then (some (.ret (false, b65))) else (Option.bind (m_l_quiet r44 r22) fun r76 =>
 bind2 (m_l_right b65 r22 r76 true) fun r97 b98 =>
 if (!r97) then (some (.ret (false, b98))) else (m_law_l1  xs_ b98))
def m_law (b : Bag) (len_ : Nat)  : Option (Bool × Bag) :=
  Option.bind (rangeO1 ((4 : Int) + (if ((len_ : Nat) : Int) < (6 : Int) then ((len_ : Nat) : Int) else (6 : Int)))) fun l1 =>
  bindL1 (m_law_l1  l1 b) (fun b4 => some (true, b4)) (fun r_ => some r_)
abbrev N_law : List Str := ["_law_script", "_law_bag_here", "_law_turn", "_law_town_here", "_law_rows_here"]
theorem sc_law : FnScope N_law ["_law_script"] (defScope s_law) := ⟨rfl, rfl, rfl, by decide +kernel, rfl, by decide +kernel, by decide +kernel⟩
def sp_law (K : PySem.W.Frag) : Sp := fun vs H Q _ => ∃ (a : Addr) (ns : List Int), vs = [.ref a] ∧ SqL K H a (ns.map V.int) ∧ ns.length ≤ 63 ∧ (∀ H', Q (.bl true) H')
def kb_held_by_0_g {α : Type} : List α → List α → List α
  | [u0, u1, u2], [w0] => [u0, u1, u2, w0]
  | _, _ => []
theorem kb_held_by_0 {K : PySem.W.Frag} {f : Addr} {fd : FuncData} (F : FnP K "held_by" s_held_by f fd) : KBinds K fd ["wishes", "door", "address", "width"] ["width"] kb_held_by_0_g kb_held_by_0_g := by
  obtain ⟨kV, doc, pm, an, cdv, ct, rfl⟩ := fd_plain F
  refine ⟨fun s us ws _ hl => ?_, fun {vs us zs ws} h1 h2 => ?_⟩
  · unfold kb_held_by_0_g at hl ⊢
    split at hl
    · exact BindsTo.of_eq rfl
    · cases hl
  · rcases h1 with _ | ⟨r_u0, _ | ⟨r_u1, _ | ⟨r_u2, _ | ⟨_, _⟩⟩⟩⟩ <;> rcases h2 with _ | ⟨r_w0, _ | ⟨_, _⟩⟩ <;> first | exact (.cons r_u0 (.cons r_u1 (.cons r_u2 (.cons r_w0 .nil)))) | exact .nil
def kb_held_by_1_g {α : Type} : List α → List α → List α
  | [], [w0, w1, w2, w3] => [w3, w2, w1, w0]
  | _, _ => []
theorem kb_held_by_1 {K : PySem.W.Frag} {f : Addr} {fd : FuncData} (F : FnP K "held_by" s_held_by f fd) : KBinds K fd ["wishes", "door", "address", "width"] ["width", "address", "door", "wishes"] kb_held_by_1_g kb_held_by_1_g := by
  obtain ⟨kV, doc, pm, an, cdv, ct, rfl⟩ := fd_plain F
  refine ⟨fun s us ws _ hl => ?_, fun {vs us zs ws} h1 h2 => ?_⟩
  · unfold kb_held_by_1_g at hl ⊢
    split at hl
    · exact BindsTo.of_eq rfl
    · cases hl
  · rcases h1 with _ | ⟨_, _⟩ <;> rcases h2 with _ | ⟨r_w0, _ | ⟨r_w1, _ | ⟨r_w2, _ | ⟨r_w3, _ | ⟨_, _⟩⟩⟩⟩⟩ <;> first | exact (.cons r_w3 (.cons r_w2 (.cons r_w1 (.cons r_w0 .nil)))) | exact .nil
def kb_wished_2_g {α : Type} : List α → List α → List α
  | [u0, u1, u2], [w0] => [u0, u1, u2, w0]
  | _, _ => []
theorem kb_wished_2 {K : PySem.W.Frag} {f : Addr} {fd : FuncData} (F : FnP K "wished" s_wished f fd) : KBinds K fd ["wishes", "door", "address", "width"] ["width"] kb_wished_2_g kb_wished_2_g := by
  obtain ⟨kV, doc, pm, an, cdv, ct, rfl⟩ := fd_plain F
  refine ⟨fun s us ws _ hl => ?_, fun {vs us zs ws} h1 h2 => ?_⟩
  · unfold kb_wished_2_g at hl ⊢
    split at hl
    · exact BindsTo.of_eq rfl
    · cases hl
  · rcases h1 with _ | ⟨r_u0, _ | ⟨r_u1, _ | ⟨r_u2, _ | ⟨_, _⟩⟩⟩⟩ <;> rcases h2 with _ | ⟨r_w0, _ | ⟨_, _⟩⟩ <;> first | exact (.cons r_u0 (.cons r_u1 (.cons r_u2 (.cons r_w0 .nil)))) | exact .nil
def kb_wished_3_g {α : Type} : List α → List α → List α
  | [], [w0, w1, w2, w3] => [w2, w0, w3, w1]
  | _, _ => []
theorem kb_wished_3 {K : PySem.W.Frag} {f : Addr} {fd : FuncData} (F : FnP K "wished" s_wished f fd) : KBinds K fd ["wishes", "door", "address", "width"] ["door", "width", "wishes", "address"] kb_wished_3_g kb_wished_3_g := by
  obtain ⟨kV, doc, pm, an, cdv, ct, rfl⟩ := fd_plain F
  refine ⟨fun s us ws _ hl => ?_, fun {vs us zs ws} h1 h2 => ?_⟩
  · unfold kb_wished_3_g at hl ⊢
    split at hl
    · exact BindsTo.of_eq rfl
    · cases hl
  · rcases h1 with _ | ⟨_, _⟩ <;> rcases h2 with _ | ⟨r_w0, _ | ⟨r_w1, _ | ⟨r_w2, _ | ⟨r_w3, _ | ⟨_, _⟩⟩⟩⟩⟩ <;> first | exact (.cons r_w2 (.cons r_w0 (.cons r_w3 (.cons r_w1 .nil)))) | exact .nil
end K13
namespace K13
open PySem PySem.Spec PyProof.Rows L2 TL G
theorem ok_bits_of {P : Program} {w : World} {K : PySem.W.Frag} {mg : Str → Option Value} {base : Heap} (T : Txt K mg) : FnOk P w K mg base CX0 1 T.a_bits_of T.d_bits_of ["pattern"] (sp_bits_of K) := by
  refine fd_ok T.F_bits_of sc_bits_of (fun vs H Q E h => ?_) (fun cdv A outer s H0 vs Q E hr h => ?_)
  · obtain ⟨_, rfl, _⟩ := h
    rfl
  · obtain ⟨x_pattern, rfl, gs_x_pattern, hQ⟩ := h
    refine ⟨_, (pss_one (ps_ret (pe_ix (ix_tupK (K := K)) (pe_partition (pv 0) (pe_glob (v := (V.str ("*" : Str))) rfl T.k_STAR ⟨_, rfl⟩)) pe_int (fun _ _ => rfl)))), ?_⟩
    have g0 : Gr M0 H0 H0 H0 H0 := Gr.refl (Same.refl _)
    unfold m_bits_of at hQ
    refine p_ret ?_
    refine ⟨(V.str x_pattern), rfl, ⟨_, rfl⟩, _, _, rfl, rfl, (by decide +kernel), (gs_x_pattern : GS x_pattern).len, fun p1 np2 => ?_⟩
    have sm3 := same_new (o := (.tup [.str (Txt.partition x_pattern ("*" : Str)).1, .str (Txt.partition x_pattern ("*" : Str)).2.1, .str (Txt.partition x_pattern ("*" : Str)).2.2])) (g0.noneF np2)
    have g4 := g0.frz (o := (.tup [.str (Txt.partition x_pattern ("*" : Str)).1, .str (Txt.partition x_pattern ("*" : Str)).2.1, .str (Txt.partition x_pattern ("*" : Str)).2.2])) np2
    have gp6 := GS.part (gs_x_pattern : GS x_pattern) (⟨by decide +kernel, by decide +kernel⟩ : GS ("*" : Str))
    have r5 : R K (upd H0 p1 (.tup [.str (Txt.partition x_pattern ("*" : Str)).1, .str (Txt.partition x_pattern ("*" : Str)).2.1, .str (Txt.partition x_pattern ("*" : Str)).2.2])) (.ref p1) ((partS x_pattern ("*" : Str)) : (T3 Str Str Str)) := R.mk3 fzT (.str _ gp6.1) (.str _ gp6.2.1) (.str _ gp6.2.2)
    obtain ⟨p7, v10, v11, v12, ev8, hS9, r13, r14, r15⟩ := R.p3_v r5
    obtain ⟨rfl, gs16⟩ := R.str_v r13
    obtain ⟨rfl, gs17⟩ := R.str_v r14
    obtain ⟨rfl, gs18⟩ := R.str_v r15
    refine ⟨p7, _, _, (V.str (partS x_pattern ("*" : Str)).a), ev8, rfl, (SqT_mono g4.fh hS9), rfl, (hQ _ _ g4 gs16)⟩
end K13
namespace K13
open PySem PySem.Spec PyProof.Rows L2 TL G
theorem ok_span_of {P : Program} {w : World} {K : PySem.W.Frag} {mg : Str → Option Value} {base : Heap} (T : Txt K mg) : FnOk P w K mg base CX0 2 T.a_span_of T.d_span_of ["pattern", "width"] (sp_span_of K) := by
  have G_bits_of : FnOk P w K mg base CX0 1 T.a_bits_of T.d_bits_of ["pattern"] (sp_bits_of K) := ok_bits_of T
  have b_bits_of := T.F_bits_of.bindsN (ps := ["pattern"]) fun _ _ _ _ _ _ us hl => match us, hl with | [_], _ => rfl
  refine fd_ok T.F_span_of sc_span_of (fun vs H Q E h => ?_) (fun cdv A outer s H0 vs Q E hr h => ?_)
  · obtain ⟨_, _, _, _, rfl, _⟩ := h
    rfl
  · obtain ⟨F0, x_pattern, x_width, r, rfl, hS0, gs_x_pattern, hm, hQ⟩ := h
    refine ⟨_, (pss_cons (ps_set (i := 2) sc_span_of.nd rfl (.inl rfl) (pe_call G_bits_of (hr.mono (by decide)) (by rfl) T.g_bits_of T.F_bits_of.kp b_bits_of .nil pass0 (pa_cons (pv 0) pa_nil))) (pss_cons (ps_set (i := 3) sc_span_of.nd rfl (.inl rfl) pe_int) (pss_cons (ps_for PassesOwn.never rfl (pi_str (pv 2)) (pg_name (i := 4) sc_span_of.nd rfl (Or.inl rfl)) (pss_one (ps_set (i := 3) sc_span_of.nd rfl (.inl rfl) (pe_op op_add (pe_op op_mul pe_int (pv 3)) (pe_callTy call_toI (by rfl) T.n_int (by decide +kernel) (pa_cons (pe_cmpR op_eq (pv 4) pe_str (nomark _)) pa_nil)))))) (pss_cons (ps_set (i := 5) sc_span_of.nd rfl (.inl rfl) (pe_op op_shl pe_int (pe_op op_sub (pv 1) (pe_callB call_len_str (by rfl) T.n_len (by decide +kernel) (pa_cons (pv 2) pa_nil))))) (pss_one (ps_ret (pe_tup (pa_cons (pe_op op_mulW (pv 3) (pv 5)) (pa_cons (pe_op op_mulW (pe_op op_add (pv 3) pe_int) (pv 5)) pa_nil))))))))), ?_⟩
    have g0 : Gr M0 F0 H0 F0 H0 := Gr.refl hS0
    unfold m_span_of at hm
    refine p_seq ?_
    refine p_asg ?_
    refine ⟨(V.str x_pattern), rfl, x_pattern, rfl, gs_x_pattern, fun F2 H3 g4 gs5 => ?_⟩
    have g6 := Gr.apart g0 g4
    obtain ⟨x_bits7, hb8, hm⟩ := bnd hm
    have hx9 : (m_bits_of x_pattern) = x_bits7 := sjoin hb8
    have gs10 : GS x_bits7 := hx9 ▸ (gs5 : GS (m_bits_of x_pattern))
    refine p_nm (v' := (V.str x_bits7)) (congrArg V.str hx9) ?_
    refine p_nx ?_
    refine p_seq ?_
    refine p_asg ?_
    refine p_name ?_
    refine p_nx ?_
    refine p_seq ?_
    refine p_for ?_
    refine ⟨(V.str x_bits7), rfl, x_bits7, rfl, ?_⟩
    obtain ⟨x_number11, ht12, hm⟩ := bnd hm
    refine for_str (z := x_bits7) (fun i σ' H' => ∃ (F' : Hp) (x_number : Int) (o_x_sign : Option V), σ' = [(some (V.str x_pattern)), (some (V.int x_width)), (some (V.str x_bits7)), (some (V.int x_number)), o_x_sign, none] ∧ Gr M0 F0 H0 F' H' ∧ Same F0 F' ∧ m_span_of_l1  ((x_bits7).cps.toList.drop i) x_number = some x_number11) ?_ ?_ ?_
    · exact ⟨F0, (0 : Int), none, rfl, g6, (Same.refl _), ht12⟩
    · intro i13 xv16 σ' H15 hx14 hP
      obtain ⟨F17, x_number18, o_x_sign19, rfl, g20, sm21, hm22⟩ := hP
      have he24 := str_at hx14
      rw [drop_at he24, m_span_of_l1.eq_2] at hm22
      refine p_name ?_
      refine p_asg ?_
      refine ⟨(V.int x_number18), rfl, _, _, rfl, rfl, (.inl ⟨by decide, by decide⟩), (V.str (sgn xv16)), rfl, rfl, _, rfl, _, _, rfl, rfl, ?_⟩
      obtain ⟨x_number25, hb26, hm22⟩ := bnd hm22
      have hx27 : (((2 : Int) * x_number18) + (toI (eqS (sgn xv16) ("1" : Str)))) = x_number25 := sjoin hb26
      refine p_nm (v' := (V.int x_number25)) (congrArg V.int hx27) ?_
      exact ⟨F17, x_number25, (some (V.str (sgn xv16))), rfl, g20, sm21, hm22⟩
    intro σ28 H29 hP
    obtain ⟨F30, x_number31, o_x_sign32, rfl, g33, sm34, hm35⟩ := hP
    rw [drop_end str_size, m_span_of_l1.eq_1] at hm35
    obtain rfl := sjoin hm35
    refine p_nx ?_
    refine p_seq ?_
    refine p_asg ?_
    obtain ⟨t36, hb37, hm⟩ := bnd hm
    obtain ⟨hk38, rfl⟩ := shlI_ok hb37
    refine ⟨(V.int x_width), rfl, (V.str x_bits7), rfl, _, rfl, (gs10 : GS x_bits7).len, _, _, rfl, rfl, _, _, rfl, rfl, hk38, ?_⟩
    obtain ⟨x_size39, hx40⟩ : ∃ z_, ((1 : Int) * 2 ^ ((x_width - ((x_bits7.length : Nat) : Int))).toNat) = z_ := ⟨_, rfl⟩
    try rw [hx40] at hm
    refine p_nm (v' := (V.int x_size39)) (congrArg V.int hx40) ?_
    refine p_nx ?_
    refine p_ret ?_
    obtain ⟨t41, hb42, hm⟩ := bnd hm
    obtain ⟨hk43, rfl⟩ := mulI_ok hb42
    obtain ⟨t44, hb45, hm⟩ := bnd hm
    obtain ⟨hk46, rfl⟩ := mulI_ok hb45
    refine ⟨(V.int x_number31), rfl, (V.int x_size39), rfl, _, _, rfl, rfl, hk43, (V.int x_number31), rfl, _, _, rfl, rfl, (V.int x_size39), rfl, _, _, rfl, rfl, hk46, (by show 2 ≤ sizeLine; decide), fun p47 np48 => ?_⟩
    have sm49 := same_new (o := (.tup [(V.int (x_number31 * x_size39)), (V.int ((x_number31 + (1 : Int)) * x_size39))])) (g33.noneF np48)
    have g50 := g33.frz (o := (.tup [(V.int (x_number31 * x_size39)), (V.int ((x_number31 + (1 : Int)) * x_size39))])) np48
    have r51 : R K (upd F30 p47 (.tup [(V.int (x_number31 * x_size39)), (V.int ((x_number31 + (1 : Int)) * x_size39))])) (.ref p47) (((x_number31 * x_size39), ((x_number31 + (1 : Int)) * x_size39)) : (Int × Int)) := R.mk2 fzT (Rp.int (x_number31 * x_size39)) (Rp.int ((x_number31 + (1 : Int)) * x_size39))
    obtain rfl := sjoin hm
    exact (hQ _ _ _ g50 r51)
end K13
namespace K13
open PySem PySem.Spec PyProof.Rows L2 TL G
theorem ok_has {P : Program} {w : World} {K : PySem.W.Frag} {mg : Str → Option Value} {base : Heap} (T : Txt K mg) : FnOk P w K mg base CX0 3 T.a_has T.d_has ["pattern", "address", "width"] (sp_has K) := by
  have G_span_of : FnOk P w K mg base CX0 2 T.a_span_of T.d_span_of ["pattern", "width"] (sp_span_of K) := ok_span_of T
  have b_span_of := T.F_span_of.bindsN (ps := ["pattern", "width"]) fun _ _ _ _ _ _ us hl => match us, hl with | [_, _], _ => rfl
  refine fd_ok T.F_has sc_has (fun vs H Q E h => ?_) (fun cdv A outer s H0 vs Q E hr h => ?_)
  · obtain ⟨_, _, _, _, rfl, _⟩ := h
    rfl
  · obtain ⟨x_pattern, x_address, x_width, r, rfl, gs_x_pattern, hm, hQ⟩ := h
    refine ⟨_, (pss_cons (ps_asg (pe_call G_span_of (hr.mono (by decide)) (by rfl) T.g_span_of T.F_span_of.kp b_span_of .nil pass0 (pa_cons (pv 0) (pa_cons (pv 2) pa_nil))) (pg_tupK (K := K) 2 rfl (pgs_cons (pg_name (i := 3) sc_has.nd rfl (Or.inl rfl)) (pgs_cons (pg_name (i := 4) sc_has.nd rfl (Or.inl rfl)) pgs_nil)))) (pss_one (ps_ret (pe_val (pe_chain op_le op_lt (pv 3) (pv 1) (pv 4)))))), ?_⟩
    have g0 : Gr M0 H0 H0 H0 H0 := Gr.refl (Same.refl _)
    unfold m_has at hm
    refine p_seq ?_
    refine p_asg ?_
    obtain ⟨r1, hb2, hm⟩ := bnd hm
    refine ⟨(V.str x_pattern), rfl, (V.int x_width), rfl, H0, x_pattern, x_width, r1, rfl, g0.fh, gs_x_pattern, hb2, fun v6 F3 H4 g5 r7 => ?_⟩
    have g8 := Gr.trans g0 g5
    obtain ⟨p9, v12, v13, ev10, hS11, r14, r15⟩ := R.p2_v r7
    obtain rfl := R.int_v r14
    obtain rfl := R.int_v r15
    refine ⟨p9, [(V.int r1.1), (V.int r1.2)], ev10, (SqT_mono g8.fh hS11), rfl, (V.int r1.1), [(V.int r1.2)], rfl, (V.int r1.2), [], rfl, rfl, ?_⟩
    refine p_nx ?_
    refine p_ret ?_
    obtain rfl := sjoin hm
    refine ⟨(V.bl ((decide (r1.1 ≤ x_address)) && (decide (x_address < r1.2)))), (fun Q q => ⟨(V.int r1.1), rfl, (V.int x_address), rfl, _, _, rfl, rfl, _, rfl, iteB (fun hc => ⟨(V.int r1.2), rfl, _, _, rfl, rfl, qTv hc q⟩) (fun hc => qFv hc q)⟩), (hQ _ _ g8)⟩
end K13
namespace K13
open PySem PySem.Spec PyProof.Rows L2 TL G
theorem ok_is_at {P : Program} {w : World} {K : PySem.W.Frag} {mg : Str → Option Value} {base : Heap} (T : Txt K mg) : FnOk P w K mg base CX0 1 T.a_is_at T.d_is_at ["wish", "door"] (sp_is_at K) := by
  refine fd_ok T.F_is_at sc_is_at (fun vs H Q E h => ?_) (fun cdv A outer s H0 vs Q E hr h => ?_)
  · obtain ⟨_, _, _, _, rfl, _⟩ := h
    rfl
  · obtain ⟨v_x_wish, x_wish, x_door, r, rfl, r_x_wish, hm, hQ⟩ := h
    refine ⟨_, (pss_cons (ps_asg (pv 0) (pg_tupK (K := K) 5 rfl (pgs_cons (pg_name (i := 2) sc_is_at.nd rfl (Or.inl rfl)) (pgs_cons (pg_name (i := 3) sc_is_at.nd rfl (Or.inl rfl)) (pgs_cons (pg_name (i := 4) sc_is_at.nd rfl (Or.inl rfl)) (pgs_cons (pg_name (i := 5) sc_is_at.nd rfl (Or.inl rfl)) (pgs_cons (pg_name (i := 6) sc_is_at.nd rfl (Or.inl rfl)) pgs_nil))))))) (pss_cons (ps_if (pt_cmpR op_notO (pv 5) pe_non (nomark _)) (pss_one (ps_ret (pe_cmpR (op_inI (K := K)) (pv 1) (pv 5) rfl))) pss_nil) (pss_one (ps_ret (pe_or (pe_cmpR op_isO (pv 6) pe_non (nomark _)) (pe_one (pe_cmpR op_ne (pe_ix (ix_tupK (K := K)) (pv 6) pe_int (fun _ _ => rfl)) (pv 1) (nomark _)))))))), ?_⟩
    have g0 : Gr M0 H0 H0 H0 H0 := Gr.refl (Same.refl _)
    unfold m_is_at at hm
    refine p_seq ?_
    refine p_asg ?_
    refine ⟨v_x_wish, rfl, ?_⟩
    obtain ⟨p1, v4, v5, v6, v7, v8, ev2, hS3, r9, r10, r11, r12, r13⟩ := R.p5_v r_x_wish
    obtain ⟨rfl, gs14⟩ := R.str_v r9
    obtain rfl := R.int_v r10
    refine ⟨p1, [(V.str x_wish.a), (V.int x_wish.b), v6, v7, v8], ev2, (SqT_mono g0.fh hS3), rfl, (V.str x_wish.a), [(V.int x_wish.b), v6, v7, v8], rfl, (V.int x_wish.b), [v6, v7, v8], rfl, v6, [v7, v8], rfl, v7, [v8], rfl, v8, [], rfl, rfl, ?_⟩
    refine p_nx ?_
    refine p_seq ?_
    refine p_if ?_
    refine ⟨v7, rfl, _, rfl, (isN_eq r12), _, rfl, (iteB (fun hc => ?_) (fun hc => ?_))⟩
    · have hm := ifT hc hm
      refine p_ret ?_
      obtain ⟨t15, hb16, hm⟩ := bnd hm
      have r17 := getO_ok (x := t15) hb16 r12
      obtain ⟨p18, ws19, ev20, hs24, hl22, hA23⟩ := R.vt_s r17
      have hS21 : SqT K _ p18 ws19 := .inl (.inl hs24)
      obtain rfl := sjoin hm
      refine ⟨(V.int x_door), rfl, v7, rfl, _, p18, _, rfl, (by rw [ev20]), (.inr (by rw [← RL.ints hA23]; exact (SqT_mono g0.fh hS21))), (hQ _ _ g0)⟩
    · have hm := ifF hc hm
      refine p_next ?_
      refine p_nx ?_
      refine p_ret ?_
      refine ⟨v8, rfl, _, rfl, (isN_eq r13), _, rfl, ?_⟩
      obtain ⟨c25, hc26, hm⟩ := bnd hm
      refine orJV (M := M0) (F := H0) (c := c25) (P := fun _ _ => True) (fun ha => ?_) (fun ha => ⟨(sjoin (ifT ha hc26)).symm, trivial⟩) g0.fh ?_
      · intro Q28 q29
        have hc26 := ifF ha hc26
        obtain ⟨t30, hb31, hc26⟩ := bnd hc26
        have r32 := getO_ok (x := t30) hb31 r13
        obtain ⟨p33, v36, v37, v38, v39, ev34, hS35, r40, r41, r42, r43⟩ := R.p4_v r32
        obtain rfl := R.int_v r40
        obtain rfl := sjoin hc26
        refine ⟨v8, rfl, p33, _, _, (V.int t30.a), ev34, rfl, (SqT_mono g0.fh hS35), rfl, (V.int x_door), rfl, rfl, (q29 _ _ (Gr.refl (M := M0) g0.fh) trivial)⟩
      intro F44 H45 g46 hB47
      have g48 := Gr.trans g0 g46
      obtain rfl := sjoin hm
      exact (hQ _ _ g48)
end K13
namespace K13
open PySem PySem.Spec PyProof.Rows L2 TL G
theorem ok_holders {P : Program} {w : World} {K : PySem.W.Frag} {mg : Str → Option Value} {base : Heap} (T : Txt K mg) : FnOk P w K mg base CX0 4 T.a_holders T.d_holders ["wishes", "door", "address", "width"] (sp_holders K) := by
  have G_is_at : FnOk P w K mg base CX0 1 T.a_is_at T.d_is_at ["wish", "door"] (sp_is_at K) := ok_is_at T
  have b_is_at := T.F_is_at.bindsN (ps := ["wish", "door"]) fun _ _ _ _ _ _ us hl => match us, hl with | [_, _], _ => rfl
  have G_has : FnOk P w K mg base CX0 3 T.a_has T.d_has ["pattern", "address", "width"] (sp_has K) := ok_has T
  have b_has := T.F_has.bindsN (ps := ["pattern", "address", "width"]) fun _ _ _ _ _ _ us hl => match us, hl with | [_, _, _], _ => rfl
  refine fd_ok T.F_holders sc_holders (fun vs H Q E h => ?_) (fun cdv A outer s H0 vs Q E hr h => ?_)
  · obtain ⟨_, _, _, _, _, _, _, _, rfl, _⟩ := h
    rfl
  · obtain ⟨F0, p_x_wishes, ws_x_wishes, x_wishes, x_door, x_address, x_width, r, rfl, hS0, hS_x_wishes, hl_x_wishes, hA_x_wishes, nm_x_wishes, hm, hQ⟩ := h
    refine ⟨_, (pss_cons (ps_set (i := 4) sc_holders.nd rfl (.inl rfl) (pe_lst pa_nil)) (pss_cons (ps_for PassesOwn.never rfl (pi_listK (K := K) (pv 0)) (pg_name (i := 5) sc_holders.nd rfl (Or.inl rfl)) (pss_one (ps_if (PW.pt (pw_and (pt_val (pe_call G_is_at (hr.mono (by decide)) (by rfl) T.g_is_at T.F_is_at.kp b_is_at .nil pass0 (pa_cons (pv 5) (pa_cons (pv 1) pa_nil)))) (pw_and1 (pt_val (pe_callB (cr_any_ (K := K) rfl) (by rfl) T.n_any (by decide +kernel) (pa_cons (pe_lc (own := [("pattern", 6)]) rfl sc_holders.nd (pi_tupK (K := K) (pe_ix (ix_tupK (K := K)) (pv 5) pe_int (fun _ _ => rfl))) (blkOk_by (own := [("pattern", 6)]) (N := N_holders) (sc := defScope s_holders) (by decide +kernel)) (fun _ _ _ _ _ => (pg_name (i := 6) sc_holders.nd rfl (Or.inl rfl) (.inr rfl))) (fun _ _ _ _ _ => pts_nil) (fun _ _ _ _ _ => (pe_call G_has (hr.mono (by decide)) (by rfl) T.g_has T.F_has.kp b_has .nil pass0 (pa_cons (pv 6) (pa_cons (pv 2) (pa_cons (pv 3) pa_nil)))))) pa_nil)))))) (pss_cons (ps_if (PW.pt (pw_and (pt_cmpR (op_neDK (K := K) hr.units) (pv 4) (pe_lst pa_nil) (nomark _)) (pw_and1 (pt_cmpR op_lt (pe_ix (ix_tupK (K := K)) (pe_ix (ix_listK (K := K)) (pv 4) pe_int (fun _ _ => rfl)) pe_int (fun _ _ => rfl)) (pe_ix (ix_tupK (K := K)) (pv 5) pe_int (fun _ _ => rfl)) (nomark _))))) (pss_one (ps_set (i := 4) sc_holders.nd rfl (.inl rfl) (pe_lst pa_nil))) pss_nil) (pss_one (ps_if (PW.pt (pw_or (pt_cmpR (op_eqDK (K := K) hr.units) (pv 4) (pe_lst pa_nil) (nomark _)) (pw_or1 (pt_cmpR op_eq (pe_ix (ix_tupK (K := K)) (pe_ix (ix_listK (K := K)) (pv 4) pe_int (fun _ _ => rfl)) pe_int (fun _ _ => rfl)) (pe_ix (ix_tupK (K := K)) (pv 5) pe_int (fun _ _ => rfl)) (nomark _))))) (pss_one (ps_expr (pe_bmK (K := K) PySem.F.plainAttrs_list PySem.F.slot_list_append PySem.F.type_list_append mt_append (pv 4) (pa_cons (pv 5) pa_nil)))) pss_nil))) pss_nil))) (pss_one (ps_ret (pv 4))))), ?_⟩
    have g0 : Gr M0 F0 H0 F0 H0 := Gr.refl hS0
    unfold m_holders at hm
    refine p_seq ?_
    refine p_asg ?_
    refine ⟨(by show 0 ≤ sizeLine; decide), fun p1 np2 => ?_⟩
    have g3 := g0.own (o := (.lst [])) np2
    have ow4 : Ow H0 F0 (upd H0 p1 (.lst [])) p1 [] := Ow.new g0 np2
    have hA5 : RL K F0 [] ([] : List (T5 Str Int (VT Str) (Option (VT Int)) (Option (T4 Int (VT Int) (VT Int) (Option Int))))) := RpA.nil
    obtain ⟨x_found6, hb7, hm⟩ := bnd hm
    have hx8 : ([] : List (T5 Str Int (VT Str) (Option (VT Int)) (Option (T4 Int (VT Int) (VT Int) (Option Int))))) = x_found6 := sjoin hb7
    have hA9 : RL K F0 [] x_found6 := RL.re hx8 hA5
    refine p_name ?_
    refine p_nx ?_
    refine p_seq ?_
    refine p_for ?_
    refine ⟨(V.ref p_x_wishes), rfl, p_x_wishes, rfl, ⟨_, (g3.seq nm_x_wishes hS_x_wishes)⟩, ?_⟩
    obtain ⟨x_found10, ht11, hm⟩ := bnd hm
    refine for_list (K := K) (a := p_x_wishes) (xs := ws_x_wishes) (fun i σ' H' => ∃ (F' : Hp) (x_found : (List (T5 Str Int (VT Str) (Option (VT Int)) (Option (T4 Int (VT Int) (VT Int) (Option Int)))))) (p_x_found : Addr) (ws_x_found : List V) (o_x_wish : Option V), σ' = [(some (V.ref p_x_wishes)), (some (V.int x_door)), (some (V.int x_address)), (some (V.int x_width)), (some (V.ref p_x_found)), o_x_wish, none] ∧ Gr M0 F0 H0 F' H' ∧ Same F0 F' ∧ Ow H0 F' H' p_x_found ws_x_found ∧ ws_x_found.length ≤ sizeLine ∧ RL K F' ws_x_found x_found ∧ m_holders_l1 x_door x_address x_width (x_wishes.drop i) x_found = some x_found10) ?_ ?_ ?_ ?_
    · exact ⟨F0, x_found6, p1, [], none, rfl, g3, (Same.refl _), ow4, (by show 0 ≤ sizeLine; decide), hA9, ht11⟩
    · intro i σ' H' _ hP
      obtain ⟨F', x_found, p_x_found, ws_x_found, o_x_wish, rfl, g_, sm_, ow_x_found, hl_x_found, hA_x_found, hm_⟩ := hP
      exact (g_.seq nm_x_wishes hS_x_wishes)
    · intro i12 xv15 σ' H14 hx13 hP
      obtain ⟨F16, x_found17, p_x_found18, ws_x_found19, o_x_wish20, rfl, g21, sm22, ow_x_found23, hl_x_found24, hA_x_found25, hm26⟩ := hP
      obtain ⟨e27, he28, r29⟩ := RL.get (hA_x_wishes.up sm22) hx13
      rw [drop_at he28, m_holders_l1.eq_2] at hm26
      refine p_name ?_
      refine p_if ?_
      obtain ⟨r30, hb31, hm26⟩ := bnd hm26
      refine ⟨xv15, rfl, (V.int x_door), rfl, xv15, e27, x_door, r30, rfl, (Rp.up r29 g21.fh), hb31, fun F32 H33 g34 => ?_⟩
      have g36 := Gr.apart g21 g34
      have ow37 := ow_x_found23.apart g34
      refine ⟨_, rfl, ?_⟩
      obtain ⟨c38, hc39, hm26⟩ := bnd hm26
      refine andJT (M := M0) (F := F16) (c := c38) (P := fun _ _ => True) (fun ha => ?_) (fun ha => ⟨(sjoin (ifF ha hc39)).symm, trivial⟩) g36.fh ?_
      · intro Q41 q42
        have hc39 := ifT ha hc39
        obtain ⟨p43, v46, v47, v48, v49, v50, ev44, hS45, r51, r52, r53, r54, r55⟩ := R.p5_v r29
        obtain ⟨rfl, gs56⟩ := R.str_v r51
        obtain rfl := R.int_v r52
        obtain ⟨p57, ws58, ev59, hs63, hl61, hA62⟩ := R.vt_s r53
        have hS60 : SqT K _ p57 ws58 := .inl (.inl hs63)
        refine ⟨xv15, rfl, p43, _, _, v48, ev44, rfl, (SqT_mono g36.fh hS45), rfl, p57, ev59, ⟨_, (SqT_mono g36.fh hS60)⟩, fun D64 nD65 => ?_⟩
        have ne66 := ow37.ne nD65
        have g67 := g36.own (o := (.lst [])) nD65
        have g68 := (Gr.refl (M := M0) g36.fh).own (o := (.lst [])) nD65
        have ow69 := ow37.own (o := (.lst [])) nD65
        have ow70 : Ow H0 F16 (upd H33 D64 (.lst [])) D64 [] := Ow.new g36 nD65
        obtain ⟨l71, hb72, hc39⟩ := bnd hc39
        refine lc_tup (K := K) (a := p57) (xs := ws58) (fun i H' => ∃ (F' : Hp) (acc : List V) (ds : List Bool) (rest : List Bool), Gr M0 F0 H0 F' H' ∧ Gr M0 F16 H33 F' H' ∧ Same F16 F' ∧ Ow H0 F' H' D64 acc ∧ RL K F' acc ds ∧ acc.length ≤ i ∧ Ow H0 F' H' p_x_found18 ws_x_found19 ∧ m_holders_c2 x_address x_width ((e27.c).l.drop i) = some rest ∧ ds ++ rest = l71) ?_ ?_ ?_ ?_
        · exact ⟨F16, [], [], l71, g67, g68, Same.refl _, ow70, RpA.nil, Nat.le_refl _, ow69, hb72, rfl⟩
        · intro i H' _ hP
          obtain ⟨F73, acc74, ds75, rest76, g077, g178, sm79, owD80, hA81, hi82, ow083, hm84, hr85⟩ := hP
          exact (SqT_mono g077.fh (SqT_mono sm79 hS60))
        · intro i87 xv86 H89 hx88 hP
          obtain ⟨F90, acc91, ds92, rest93, g094, g195, sm96, owD97, hA98, hi99, ow0100, hm101, hr102⟩ := hP
          obtain ⟨e103, he104, r105⟩ := RL.get (hA62.up sm96) hx88
          obtain ⟨rfl, gs106⟩ := R.str_v r105
          rw [drop_at he104, m_holders_c2.eq_2] at hm101
          refine ⟨rfl, (p_yes ?_)⟩
          obtain ⟨r107, hb108, hm101⟩ := bnd hm101
          refine ⟨(V.str e103), rfl, (V.int x_address), rfl, (V.int x_width), rfl, e103, x_address, x_width, r107, rfl, gs106, hb108, fun F109 H110 g111 => ?_⟩
          have g113 := Gr.apart g094 g111
          have g114 := Gr.apart g195 g111
          have ow115 := ow0100.apart g111
          have ow116 := owD97.apart g111
          have hA117 : RL K F90 (acc91 ++ [(V.bl r107)]) (ds92 ++ [(r107 : Bool)]) := RL.snoc hA98 (Rp.bl r107)
          obtain ⟨rest118, h119, h120⟩ := bnd hm101
          obtain rfl := sjoin h120
          refine ⟨acc91, ow116.h, (lt_line hi99 (List.getElem?_eq_some_iff.mp hx88).1 hl61), ?_⟩
          have g121 := g113.put (o := (.lst (acc91 ++ [(V.bl r107)]))) ow116
          have g122 := Gr.mut (o := (.lst (acc91 ++ [(V.bl r107)]))) g114 ow116.nF (.inl (Gr.none0 (Gr.refl (M := M0) g36.fh) nD65))
          have ow123 := ow115.other (o := (.lst (acc91 ++ [(V.bl r107)]))) ne66
          have ow124 := ow116.put (us := (acc91 ++ [(V.bl r107)]))
          exact ⟨F90, (acc91 ++ [(V.bl r107)]), (ds92 ++ [r107]), rest118, g121, g122, sm96, ow124, hA117, (by rw [List.length_append]; exact Nat.succ_le_succ hi99), ow123, h119, (snoc_rest hr102)⟩
        intro H125 hP
        obtain ⟨F126, acc127, ds128, _rest, g0130, g1131, sm132, owD133, hA134, hi135, ow0136, hm137, hr138⟩ := hP
        rw [drop_end (RL.len hA62)] at hm137
        rw [m_holders_c2.eq_1] at hm137
        obtain rfl := sjoin hm137
        rw [List.append_nil] at hr138
        obtain rfl := hr138
        have hl139 : acc127.length ≤ sizeLine := Nat.le_trans hi135 hl61
        obtain rfl := sjoin hc39
        refine ⟨D64, ds128, rfl, (by rw [← RL.bls hA134]; exact owD133.sq), _, rfl, (q42 _ _ g1131 trivial)⟩
      intro F140 H141 g142 hB143
      have g144 := Gr.trans g36 g142
      have ow145 := ow37.gr0 g142
      refine (iteB (fun hc => ?_) (fun hc => ?_))
      · have hm26 := ifT hc hm26
        refine p_seq ?_
        refine p_if ?_
        refine ⟨(V.ref p_x_found18), rfl, (by show 0 ≤ sizeLine; decide), fun p146 np147 => ?_⟩
        have ne148 := ow145.ne np147
        have g149 := g144.own (o := (.lst [])) np147
        have ow150 := ow145.own (o := (.lst [])) np147
        have ow151 : Ow H0 F140 (upd H141 p146 (.lst [])) p146 [] := Ow.new g144 np147
        have rH153 : R K (upd H141 p146 (.lst [])) (V.ref p_x_found18) x_found17 := (R.mkl ow150.sq hl_x_found24 (RpA.up (hA_x_found25.up g142.ff) g149.fh))
        have rH154 : R K (upd H141 p146 (.lst [])) (V.ref p146) ([] : (List (T5 Str Int (VT Str) (Option (VT Int)) (Option (T4 Int (VT Int) (VT Int) (Option Int)))))) := (R.mkl ow151.sq (by show 0 ≤ sizeLine; decide) (RpA.up RpA.nil g149.fh))
        refine ⟨_, _, (Rp.dp _ _ rH153), (Rp.dp _ _ rH154), (R.shaped rH153), (R.shaped rH154), _, rfl, ?_⟩
        obtain ⟨c155, hc156, hm26⟩ := bnd hm26
        refine andJT (M := M0) (F := F140) (c := c155) (P := fun _ _ => True) (fun ha => ?_) (fun ha => ⟨(sjoin (ifF ha hc156)).symm, trivial⟩) g149.fh ?_
        · intro Q158 q159
          have hc156 := ifT ha hc156
          obtain ⟨t160, hb161, hc156⟩ := bnd hc156
          obtain ⟨v162, ha163, r164⟩ := RL.at (hA_x_found25.up g142.ff) hb161
          obtain ⟨p165, v168, v169, v170, v171, v172, ev166, hS167, r173, r174, r175, r176, r177⟩ := R.p5_v r164
          obtain ⟨rfl, gs178⟩ := R.str_v r173
          obtain rfl := R.int_v r174
          obtain ⟨p179, v182, v183, v184, v185, v186, ev180, hS181, r187, r188, r189, r190, r191⟩ := R.p5_v r29
          obtain ⟨rfl, gs192⟩ := R.str_v r187
          obtain rfl := R.int_v r188
          obtain rfl := sjoin hc156
          refine ⟨(V.ref p_x_found18), rfl, p_x_found18, ws_x_found19, _, v162, rfl, rfl, ow150.sq, ha163, p165, _, _, (V.int t160.b), ev166, rfl, (SqT_mono g149.fh hS167), rfl, xv15, rfl, p179, _, _, (V.int e27.b), ev180, rfl, (SqT_mono g149.fh (SqT_mono g142.ff hS181)), rfl, _, _, rfl, rfl, _, rfl, (q159 _ _ (Gr.refl (M := M0) g149.fh) trivial)⟩
        intro F193 H194 g195 hB196
        have g197 := Gr.trans g149 g195
        have ow198 := ow150.gr0 g195
        have ow199 := ow151.gr0 g195
        refine (iteB (fun hc => ?_) (fun hc => ?_))
        · have hm26 := ifT hc hm26
          refine p_asg ?_
          refine ⟨(by show 0 ≤ sizeLine; decide), fun p200 np201 => ?_⟩
          have ne202 := ow198.ne np201
          have ne203 := ow199.ne np201
          have g204 := g197.own (o := (.lst [])) np201
          have ow205 := ow198.own (o := (.lst [])) np201
          have ow206 := ow199.own (o := (.lst [])) np201
          have ow207 : Ow H0 F193 (upd H194 p200 (.lst [])) p200 [] := Ow.new g197 np201
          have hA208 : RL K F193 [] ([] : List (T5 Str Int (VT Str) (Option (VT Int)) (Option (T4 Int (VT Int) (VT Int) (Option Int))))) := RpA.nil
          obtain ⟨x_found209, hb210, hm26⟩ := bnd hm26
          have hx211 : ([] : List (T5 Str Int (VT Str) (Option (VT Int)) (Option (T4 Int (VT Int) (VT Int) (Option Int))))) = x_found209 := sjoin hb210
          have hA212 : RL K F193 [] x_found209 := RL.re hx211 hA208
          refine p_name ?_
          refine p_nx ?_
          refine p_if ?_
          refine ⟨(V.ref p200), rfl, (by show 0 ≤ sizeLine; decide), fun p213 np214 => ?_⟩
          have ne215 := ow205.ne np214
          have ne216 := ow206.ne np214
          have ne217 := ow207.ne np214
          have g218 := g204.own (o := (.lst [])) np214
          have ow219 := ow205.own (o := (.lst [])) np214
          have ow220 := ow206.own (o := (.lst [])) np214
          have ow221 := ow207.own (o := (.lst [])) np214
          have ow222 : Ow H0 F193 (upd (upd H194 p200 (.lst [])) p213 (.lst [])) p213 [] := Ow.new g204 np214
          have rH224 : R K (upd (upd H194 p200 (.lst [])) p213 (.lst [])) (V.ref p200) x_found209 := (R.mkl ow221.sq (by show 0 ≤ sizeLine; decide) (RpA.up hA212 g218.fh))
          have rH225 : R K (upd (upd H194 p200 (.lst [])) p213 (.lst [])) (V.ref p213) ([] : (List (T5 Str Int (VT Str) (Option (VT Int)) (Option (T4 Int (VT Int) (VT Int) (Option Int)))))) := (R.mkl ow222.sq (by show 0 ≤ sizeLine; decide) (RpA.up RpA.nil g218.fh))
          refine ⟨_, _, (Rp.dp _ _ rH224), (Rp.dp _ _ rH225), (R.shaped rH224), (R.shaped rH225), _, rfl, ?_⟩
          obtain ⟨c226, hc227, hm26⟩ := bnd hm26
          refine orJT (M := M0) (F := F193) (c := c226) (P := fun _ _ => True) (fun ha => ?_) (fun ha => ⟨(sjoin (ifT ha hc227)).symm, trivial⟩) g218.fh ?_
          · intro Q229 q230
            have hc227 := ifF ha hc227
            obtain ⟨t231, hb232, hc227⟩ := bnd hc227
            obtain ⟨v233, ha234, r235⟩ := RL.at hA212 hb232
            obtain ⟨p236, v239, v240, v241, v242, v243, ev237, hS238, r244, r245, r246, r247, r248⟩ := R.p5_v r235
            obtain ⟨rfl, gs249⟩ := R.str_v r244
            obtain rfl := R.int_v r245
            obtain ⟨p250, v253, v254, v255, v256, v257, ev251, hS252, r258, r259, r260, r261, r262⟩ := R.p5_v r29
            obtain ⟨rfl, gs263⟩ := R.str_v r258
            obtain rfl := R.int_v r259
            obtain rfl := sjoin hc227
            refine ⟨(V.ref p200), rfl, p200, [], _, v233, rfl, rfl, ow221.sq, ha234, p236, _, _, (V.int t231.b), ev237, rfl, (SqT_mono g218.fh hS238), rfl, xv15, rfl, p250, _, _, (V.int e27.b), ev251, rfl, (SqT_mono g218.fh (SqT_mono (Same.trans g142.ff g195.ff) hS252)), rfl, rfl, _, rfl, (q230 _ _ (Gr.refl (M := M0) g218.fh) trivial)⟩
          intro F264 H265 g266 hB267
          have g268 := Gr.trans g218 g266
          have ow269 := ow219.gr0 g266
          have ow270 := ow220.gr0 g266
          have ow271 := ow221.gr0 g266
          have ow272 := ow222.gr0 g266
          refine (iteB (fun hc => ?_) (fun hc => ?_))
          · have hm26 := ifT hc hm26
            refine p_drop ?_
            obtain ⟨t273, hb274, hm26⟩ := bnd hm26
            obtain ⟨hk275, rfl⟩ := appL_ok hb274
            refine ⟨(V.ref p200), rfl, (.inl ⟨rfl, _, ow271.sq⟩), xv15, rfl, p200, [], xv15, rfl, rfl, ow271.h, (by rw [RL.len (hA212.up g266.ff)]; exact hk275), ?_⟩
            have hA276 : RL K F264 ([] ++ [xv15]) (x_found209 ++ [(e27 : (T5 Str Int (VT Str) (Option (VT Int)) (Option (T4 Int (VT Int) (VT Int) (Option Int)))))]) := RL.snoc (hA212.up g266.ff) (r29.up (Same.trans g142.ff (Same.trans g195.ff g266.ff)))
            have hl277 : ([] ++ [xv15]).length ≤ sizeLine := by rw [List.length_append, RL.len (hA212.up g266.ff)]; exact hk275
            have g278 := g268.put (o := (.lst ([] ++ [xv15]))) ow271
            have ow279 := ow269.other (o := (.lst ([] ++ [xv15]))) ne202
            have ow280 := ow270.other (o := (.lst ([] ++ [xv15]))) ne203
            have ow281 := ow272.other (o := (.lst ([] ++ [xv15]))) (Ne.symm ne217)
            have ow282 := ow271.put (us := ([] ++ [xv15]))
            exact ⟨F264, (x_found209 ++ [e27]), p200, ([] ++ [xv15]), (some xv15), rfl, g278, (Same.trans sm22 (Same.trans g142.ff (Same.trans g195.ff g266.ff))), ow282, hl277, hA276, hm26⟩
          · have hm26 := ifF hc hm26
            refine p_next ?_
            exact ⟨F264, x_found209, p200, [], (some xv15), rfl, g268, (Same.trans sm22 (Same.trans g142.ff (Same.trans g195.ff g266.ff))), ow271, (by show 0 ≤ sizeLine; decide), (hA212.up g266.ff), hm26⟩
        · have hm26 := ifF hc hm26
          refine p_next ?_
          refine p_nx ?_
          refine p_if ?_
          refine ⟨(V.ref p_x_found18), rfl, (by show 0 ≤ sizeLine; decide), fun p283 np284 => ?_⟩
          have ne285 := ow198.ne np284
          have ne286 := ow199.ne np284
          have g287 := g197.own (o := (.lst [])) np284
          have ow288 := ow198.own (o := (.lst [])) np284
          have ow289 := ow199.own (o := (.lst [])) np284
          have ow290 : Ow H0 F193 (upd H194 p283 (.lst [])) p283 [] := Ow.new g197 np284
          have rH292 : R K (upd H194 p283 (.lst [])) (V.ref p_x_found18) x_found17 := (R.mkl ow288.sq hl_x_found24 (RpA.up (hA_x_found25.up (Same.trans g142.ff g195.ff)) g287.fh))
          have rH293 : R K (upd H194 p283 (.lst [])) (V.ref p283) ([] : (List (T5 Str Int (VT Str) (Option (VT Int)) (Option (T4 Int (VT Int) (VT Int) (Option Int)))))) := (R.mkl ow290.sq (by show 0 ≤ sizeLine; decide) (RpA.up RpA.nil g287.fh))
          refine ⟨_, _, (Rp.dp _ _ rH292), (Rp.dp _ _ rH293), (R.shaped rH292), (R.shaped rH293), _, rfl, ?_⟩
          obtain ⟨c294, hc295, hm26⟩ := bnd hm26
          refine orJT (M := M0) (F := F193) (c := c294) (P := fun _ _ => True) (fun ha => ?_) (fun ha => ⟨(sjoin (ifT ha hc295)).symm, trivial⟩) g287.fh ?_
          · intro Q297 q298
            have hc295 := ifF ha hc295
            obtain ⟨t299, hb300, hc295⟩ := bnd hc295
            obtain ⟨v301, ha302, r303⟩ := RL.at (hA_x_found25.up (Same.trans g142.ff g195.ff)) hb300
            obtain ⟨p304, v307, v308, v309, v310, v311, ev305, hS306, r312, r313, r314, r315, r316⟩ := R.p5_v r303
            obtain ⟨rfl, gs317⟩ := R.str_v r312
            obtain rfl := R.int_v r313
            obtain ⟨p318, v321, v322, v323, v324, v325, ev319, hS320, r326, r327, r328, r329, r330⟩ := R.p5_v r29
            obtain ⟨rfl, gs331⟩ := R.str_v r326
            obtain rfl := R.int_v r327
            obtain rfl := sjoin hc295
            refine ⟨(V.ref p_x_found18), rfl, p_x_found18, ws_x_found19, _, v301, rfl, rfl, ow288.sq, ha302, p304, _, _, (V.int t299.b), ev305, rfl, (SqT_mono g287.fh hS306), rfl, xv15, rfl, p318, _, _, (V.int e27.b), ev319, rfl, (SqT_mono g287.fh (SqT_mono (Same.trans g142.ff g195.ff) hS320)), rfl, rfl, _, rfl, (q298 _ _ (Gr.refl (M := M0) g287.fh) trivial)⟩
          intro F332 H333 g334 hB335
          have g336 := Gr.trans g287 g334
          have ow337 := ow288.gr0 g334
          have ow338 := ow289.gr0 g334
          have ow339 := ow290.gr0 g334
          refine (iteB (fun hc => ?_) (fun hc => ?_))
          · have hm26 := ifT hc hm26
            refine p_drop ?_
            obtain ⟨t340, hb341, hm26⟩ := bnd hm26
            obtain ⟨hk342, rfl⟩ := appL_ok hb341
            refine ⟨(V.ref p_x_found18), rfl, (.inl ⟨rfl, _, ow337.sq⟩), xv15, rfl, p_x_found18, ws_x_found19, xv15, rfl, rfl, ow337.h, (by rw [RL.len (hA_x_found25.up (Same.trans g142.ff (Same.trans g195.ff g334.ff)))]; exact hk342), ?_⟩
            have hA343 : RL K F332 (ws_x_found19 ++ [xv15]) (x_found17 ++ [(e27 : (T5 Str Int (VT Str) (Option (VT Int)) (Option (T4 Int (VT Int) (VT Int) (Option Int)))))]) := RL.snoc (hA_x_found25.up (Same.trans g142.ff (Same.trans g195.ff g334.ff))) (r29.up (Same.trans g142.ff (Same.trans g195.ff g334.ff)))
            have hl344 : (ws_x_found19 ++ [xv15]).length ≤ sizeLine := by rw [List.length_append, RL.len (hA_x_found25.up (Same.trans g142.ff (Same.trans g195.ff g334.ff)))]; exact hk342
            have g345 := g336.put (o := (.lst (ws_x_found19 ++ [xv15]))) ow337
            have ow346 := ow338.other (o := (.lst (ws_x_found19 ++ [xv15]))) (Ne.symm ne148)
            have ow347 := ow339.other (o := (.lst (ws_x_found19 ++ [xv15]))) (Ne.symm ne285)
            have ow348 := ow337.put (us := (ws_x_found19 ++ [xv15]))
            exact ⟨F332, (x_found17 ++ [e27]), p_x_found18, (ws_x_found19 ++ [xv15]), (some xv15), rfl, g345, (Same.trans sm22 (Same.trans g142.ff (Same.trans g195.ff g334.ff))), ow348, hl344, hA343, hm26⟩
          · have hm26 := ifF hc hm26
            refine p_next ?_
            exact ⟨F332, x_found17, p_x_found18, ws_x_found19, (some xv15), rfl, g336, (Same.trans sm22 (Same.trans g142.ff (Same.trans g195.ff g334.ff))), ow337, hl_x_found24, (hA_x_found25.up (Same.trans g142.ff (Same.trans g195.ff g334.ff))), hm26⟩
      · have hm26 := ifF hc hm26
        refine p_next ?_
        exact ⟨F140, x_found17, p_x_found18, ws_x_found19, (some xv15), rfl, g144, (Same.trans sm22 g142.ff), ow145, hl_x_found24, (hA_x_found25.up g142.ff), hm26⟩
    intro σ349 H350 hP
    obtain ⟨F351, x_found352, p_x_found353, ws_x_found354, o_x_wish355, rfl, g356, sm357, ow_x_found358, hl_x_found359, hA_x_found360, hm361⟩ := hP
    rw [drop_end (RL.len (hA_x_wishes.up sm357)), m_holders_l1.eq_1] at hm361
    obtain rfl := sjoin hm361
    refine p_nx ?_
    refine p_ret ?_
    obtain rfl := sjoin hm
    refine ⟨(V.ref p_x_found353), rfl, (hQ _ _ _ _ g356 ow_x_found358.n0 ow_x_found358.h ow_x_found358.nF hl_x_found359 hA_x_found360)⟩
end K13
namespace K13
open PySem PySem.Spec PyProof.Rows L2 TL G
theorem ok_wished {P : Program} {w : World} {K : PySem.W.Frag} {mg : Str → Option Value} {base : Heap} (T : Txt K mg) : FnOk P w K mg base CX0 5 T.a_wished T.d_wished ["wishes", "door", "address", "width"] (sp_wished K) := by
  have G_holders : FnOk P w K mg base CX0 4 T.a_holders T.d_holders ["wishes", "door", "address", "width"] (sp_holders K) := ok_holders T
  have b_holders := T.F_holders.bindsN (ps := ["wishes", "door", "address", "width"]) fun _ _ _ _ _ _ us hl => match us, hl with | [_, _, _, _], _ => rfl
  refine fd_ok T.F_wished sc_wished (fun vs H Q E h => ?_) (fun cdv A outer s H0 vs Q E hr h => ?_)
  · obtain ⟨_, _, _, _, _, _, _, _, rfl, _⟩ := h
    rfl
  · obtain ⟨F0, p_x_wishes, ws_x_wishes, x_wishes, x_door, x_address, x_width, r, rfl, hS0, hS_x_wishes, hl_x_wishes, hA_x_wishes, nm_x_wishes, hm, hQ⟩ := h
    refine ⟨_, (pss_cons (ps_set (i := 4) sc_wished.nd rfl (.inl rfl) (pe_call G_holders (hr.mono (by decide)) (by rfl) T.g_holders T.F_holders.kp b_holders .nil pass0 (pa_cons (pv 0) (pa_cons (pv 1) (pa_cons (pv 2) (pa_cons (pv 3) pa_nil)))))) (pss_one (ps_ret (pe_ifExp (pt_cmpR (op_neDK (K := K) hr.units) (pv 4) (pe_lst pa_nil) (nomark _)) (pe_ix (ix_tupK (K := K)) (pe_ix (ix_listK (K := K)) (pv 4) pe_int (fun _ _ => rfl)) pe_int (fun _ _ => rfl)) pe_non)))), ?_⟩
    have g0 : Gr M0 F0 H0 F0 H0 := Gr.refl hS0
    unfold m_wished at hm
    refine p_seq ?_
    refine p_asg ?_
    obtain ⟨r1, hb2, hm⟩ := bnd hm
    refine ⟨(V.ref p_x_wishes), rfl, (V.int x_door), rfl, (V.int x_address), rfl, (V.int x_width), rfl, F0, p_x_wishes, ws_x_wishes, x_wishes, x_door, x_address, x_width, r1, rfl, g0.fh, (g0.seq nm_x_wishes hS_x_wishes), hl_x_wishes, hA_x_wishes, id, hb2, fun p6 ws7 F3 H4 g5 np8 h9 nF10 hl11 hA12 => ?_⟩
    have n013 := g0.none0 np8
    have g14 := Gr.trans g0 g5
    have ow15 : Ow H0 F3 H4 p6 ws7 := ⟨h9, nF10, n013⟩
    refine p_name ?_
    refine p_nx ?_
    refine p_ret ?_
    refine ⟨(V.ref p6), rfl, (by show 0 ≤ sizeLine; decide), fun p16 np17 => ?_⟩
    have ne18 := ow15.ne np17
    have g19 := g14.own (o := (.lst [])) np17
    have ow20 := ow15.own (o := (.lst [])) np17
    have ow21 : Ow H0 F3 (upd H4 p16 (.lst [])) p16 [] := Ow.new g14 np17
    have rH23 : R K (upd H4 p16 (.lst [])) (V.ref p6) r1 := (R.mkl ow20.sq hl11 (RpA.up hA12 g19.fh))
    have rH24 : R K (upd H4 p16 (.lst [])) (V.ref p16) ([] : (List (T5 Str Int (VT Str) (Option (VT Int)) (Option (T4 Int (VT Int) (VT Int) (Option Int)))))) := (R.mkl ow21.sq (by show 0 ≤ sizeLine; decide) (RpA.up RpA.nil g19.fh))
    refine ⟨_, _, (Rp.dp _ _ rH23), (Rp.dp _ _ rH24), (R.shaped rH23), (R.shaped rH24), _, rfl, ?_⟩
    obtain ⟨c25, hc27, hm⟩ := bnd hm
    refine ifJ (M := M0) (F := F3) (P := fun v' F' H' => R K F' v' (c25 : (Option (T4 Int (VT Int) (VT Int) (Option Int))))) (fun ha => ?_) (fun ha => ?_) ?_
    · intro Q28 q29
      have ha : (!eqD r1 ([] : (List (T5 Str Int (VT Str) (Option (VT Int)) (Option (T4 Int (VT Int) (VT Int) (Option Int))))))) = true := ha
      have hc27 := ifT ha hc27
      obtain ⟨t30, hb31, hc27⟩ := bnd hc27
      obtain ⟨v32, ha33, r34⟩ := RL.at hA12 hb31
      obtain ⟨p35, v38, v39, v40, v41, v42, ev36, hS37, r43, r44, r45, r46, r47⟩ := R.p5_v r34
      obtain ⟨rfl, gs48⟩ := R.str_v r43
      obtain rfl := R.int_v r44
      obtain rfl := sjoin hc27
      refine ⟨(V.ref p6), rfl, p6, ws7, _, v32, rfl, rfl, ow20.sq, ha33, p35, _, _, v42, ev36, rfl, (SqT_mono g19.fh hS37), rfl, (q29 _ _ _ (Gr.refl (M := M0) g19.fh) r47)⟩
    · intro Q49 q50
      have ha : (!eqD r1 ([] : (List (T5 Str Int (VT Str) (Option (VT Int)) (Option (T4 Int (VT Int) (VT Int) (Option Int))))))) = false := ha
      have hc27 := ifF ha hc27
      obtain rfl := sjoin hc27
      exact (q50 _ _ _ (Gr.refl (M := M0) g19.fh) Rp.non)
    intro v54 F51 H52 g53 hp55
    have g57 := Gr.trans g19 g53
    have ow58 := ow20.gr0 g53
    have ow59 := ow21.gr0 g53
    obtain rfl := sjoin hm
    exact (hQ _ _ _ g57 hp55)
end K13
namespace K13
open PySem PySem.Spec PyProof.Rows L2 TL G
theorem ok_held_by {P : Program} {w : World} {K : PySem.W.Frag} {mg : Str → Option Value} {base : Heap} (T : Txt K mg) : FnOk P w K mg base CX0 5 T.a_held_by T.d_held_by ["wishes", "door", "address", "width"] (sp_held_by K) := by
  have G_holders : FnOk P w K mg base CX0 4 T.a_holders T.d_holders ["wishes", "door", "address", "width"] (sp_holders K) := ok_holders T
  have b_holders := T.F_holders.bindsN (ps := ["wishes", "door", "address", "width"]) fun _ _ _ _ _ _ us hl => match us, hl with | [_, _, _, _], _ => rfl
  refine fd_ok T.F_held_by sc_held_by (fun vs H Q E h => ?_) (fun cdv A outer s H0 vs Q E hr h => ?_)
  · obtain ⟨_, _, _, _, _, _, _, _, rfl, _⟩ := h
    rfl
  · obtain ⟨F0, p_x_wishes, ws_x_wishes, x_wishes, x_door, x_address, x_width, r, rfl, hS0, hS_x_wishes, hl_x_wishes, hA_x_wishes, nm_x_wishes, hm, hQ⟩ := h
    refine ⟨_, (pss_one (ps_ret (pe_lc (own := [("wish", 4)]) rfl sc_held_by.nd (pi_listK (K := K) (pe_call G_holders (hr.mono (by decide)) (by rfl) T.g_holders T.F_holders.kp b_holders .nil pass0 (pa_cons (pv 0) (pa_cons (pv 1) (pa_cons (pv 2) (pa_cons (pv 3) pa_nil)))))) (blkOk_by (own := [("wish", 4)]) (N := N_held_by) (sc := defScope s_held_by) (by decide +kernel)) (fun _ _ _ _ _ => (pg_name (i := 4) sc_held_by.nd rfl (Or.inl rfl) (.inr rfl))) (fun _ _ _ _ _ => pts_nil) (fun _ _ _ _ _ => (pe_ix (ix_tupK (K := K)) (pv 4) pe_int (fun _ _ => rfl)))))), ?_⟩
    have g0 : Gr M0 F0 H0 F0 H0 := Gr.refl hS0
    unfold m_held_by at hm
    refine p_ret ?_
    obtain ⟨r1, hb2, hm⟩ := bnd hm
    refine ⟨(V.ref p_x_wishes), rfl, (V.int x_door), rfl, (V.int x_address), rfl, (V.int x_width), rfl, F0, p_x_wishes, ws_x_wishes, x_wishes, x_door, x_address, x_width, r1, rfl, g0.fh, (g0.seq nm_x_wishes hS_x_wishes), hl_x_wishes, hA_x_wishes, id, hb2, fun p6 ws7 F3 H4 g5 np8 h9 nF10 hl11 hA12 => ?_⟩
    have n013 := g0.none0 np8
    have g14 := Gr.trans g0 g5
    have ow15 : Ow H0 F3 H4 p6 ws7 := ⟨h9, nF10, n013⟩
    refine ⟨p6, rfl, ⟨_, ow15.sq⟩, fun D16 nD17 => ?_⟩
    have ne18 := ow15.ne nD17
    have g19 := g14.own (o := (.lst [])) nD17
    have ow20 := ow15.own (o := (.lst [])) nD17
    have ow21 : Ow H0 F3 (upd H4 D16 (.lst [])) D16 [] := Ow.new g14 nD17
    refine lc_list (K := K) (a := p6) (xs := ws7) (fun i H' => ∃ (F' : Hp) (acc : List V) (ds : List Str), Gr M0 F0 H0 F' H' ∧ Same F3 F' ∧ Ow H0 F' H' D16 acc ∧ RL K F' acc ds ∧ acc.length ≤ i ∧ Ow H0 F' H' p6 ws7 ∧ ds ++ m_held_by_c1  (r1.drop i) = (m_held_by_c1  r1)) ?_ ?_ ?_ ?_
    · exact ⟨F3, [], [], g19, Same.refl _, ow21, RpA.nil, Nat.le_refl _, ow20, rfl⟩
    · intro i H' _ hP
      obtain ⟨F23, acc24, ds25, g026, sm27, owD28, hA29, hi30, ow031, hr32⟩ := hP
      exact ow031.sq
    · intro i34 xv33 H36 hx35 hP
      obtain ⟨F37, acc38, ds39, g040, sm41, owD42, hA43, hi44, ow045, hr46⟩ := hP
      obtain ⟨e47, he48, r49⟩ := RL.get (hA12.up sm41) hx35
      rw [drop_at he48, m_held_by_c1.eq_2] at hr46
      refine ⟨rfl, (p_yes ?_)⟩
      obtain ⟨p50, v53, v54, v55, v56, v57, ev51, hS52, r58, r59, r60, r61, r62⟩ := R.p5_v r49
      obtain ⟨rfl, gs63⟩ := R.str_v r58
      obtain rfl := R.int_v r59
      have hA64 : RL K F37 (acc38 ++ [(V.str e47.a)]) (ds39 ++ [(e47.a : Str)]) := RL.snoc hA43 (Rp.str e47.a gs63)
      refine ⟨xv33, rfl, p50, _, _, (V.str e47.a), ev51, rfl, (SqT_mono g040.fh hS52), rfl, acc38, owD42.h, (lt_line hi44 (List.getElem?_eq_some_iff.mp hx35).1 hl11), ?_⟩
      have g65 := g040.put (o := (.lst (acc38 ++ [(V.str e47.a)]))) owD42
      have ow66 := ow045.other (o := (.lst (acc38 ++ [(V.str e47.a)]))) ne18
      have ow67 := owD42.put (us := (acc38 ++ [(V.str e47.a)]))
      exact ⟨F37, (acc38 ++ [(V.str e47.a)]), (ds39 ++ [e47.a]), g65, sm41, ow67, hA64, (by rw [List.length_append]; exact Nat.succ_le_succ hi44), ow66, (snoc_rest hr46)⟩
    intro H68 hP
    obtain ⟨F69, acc70, ds71, g073, sm74, owD75, hA76, hi77, ow078, hr79⟩ := hP
    rw [drop_end (RL.len hA12)] at hr79
    rw [m_held_by_c1.eq_1, List.append_nil] at hr79
    obtain rfl := hr79
    have hl80 : acc70.length ≤ sizeLine := Nat.le_trans hi77 hl11
    obtain rfl := sjoin hm
    exact (hQ _ _ _ _ g073 owD75.n0 owD75.h owD75.nF hl80 hA76)
end K13
namespace K13
open PySem PySem.Spec PyProof.Rows L2 TL G
theorem ok_l_bag {P : Program} {w : World} {K : PySem.W.Frag} {mg : Str → Option Value} {base : Heap} (T : Txt K mg) : FnOk P w K mg base CX0 1 T.a_l_bag T.d_l_bag ["_law_script"] (sp_l_bag K) := by
  refine fd_ok T.F_l_bag sc_l_bag (fun vs H Q E h => ?_) (fun cdv A outer s H0 vs Q E hr h => ?_)
  · obtain ⟨_, _, rfl, _⟩ := h
    rfl
  · obtain ⟨a, ns, rfl, hS, hl, hQ⟩ := h
    refine ⟨_, (pss_cons (ps_set (i := 1) sc_l_bag.nd rfl (.inl rfl) pe_int)
      (pss_cons (ps_for PassesOwn.never rfl (pi_list (pe_slice sl_list (pv 0) po_none (po_some pe_int))) (pg_name (i := 2) sc_l_bag.nd rfl (Or.inl rfl))
          (pss_one (ps_set (i := 1) sc_l_bag.nd rfl (.inl rfl) (pe_op op_mod (pe_op op_add (pe_op op_add (pe_op op_mul (pv 1) pe_int) (pe_op op_mod (pv 2) pe_int)) pe_int) pe_int))))
      (pss_one (ps_ret (pe_lst (pa_cons (pe_lc (own := [("_law_cell", 2)]) rfl sc_l_bag.nd (pi_list (pe_slice sl_list (pv 0) po_none (po_some pe_int)))
          (blkOk_by (own := [("_law_cell", 2)]) (N := N_l_bag) (sc := defScope s_l_bag) (by decide +kernel)) (fun _ _ _ _ _ => pg_name (i := 2) sc_l_bag.nd rfl (Or.inl rfl)) (fun _ _ _ _ _ => pts_nil)
          (fun _ _ _ _ _ => pe_op op_mod (pe_callB call_abs (by rfl) T.n_abs (by decide +kernel) (pa_cons (pv 2) pa_nil)) (pe_op op_powW (pe_op op_pow pe_int pe_int) pe_int)))
        (pa_cons pe_int (pa_cons pe_int (pa_cons (pv 1) (pa_cons pe_int pa_nil)))))))))), ?_⟩
    have g0 : Gr M0 (fun _ => none) H0 (fun _ => none) H0 := Gr.refl (fun _ _ h => nomatch h)
    have hcut : ∀ (lo hi : Option Int), cutV (ns.map V.int) lo hi = (cutL ns lo hi).map V.int := fun lo hi => by
      unfold cutV cutL
      rw [List.length_map, List.map_take, List.map_drop]
    have hcl : ∀ (lo hi : Option Int), (cutL ns lo hi).length ≤ 63 := fun lo hi => by
      unfold cutL
      rw [List.length_take, List.length_drop]
      omega
    refine p_seq ?_
    refine p_asg ?_
    refine p_name ?_
    refine p_nx ?_
    refine p_seq ?_
    refine p_for ?_
    refine ⟨.ref a, rfl, 63, rfl, a, ns.map V.int, rfl, hS, fun p np => ?_⟩
    rw [hcut]
    generalize hcs : cutL ns none (some 63) = cs
    have hc1 : cs.length ≤ 63 := by rw [← hcs]; exact hcl _ _
    have hc2 : (cs.map V.int).length = cs.length := List.length_map ..
    have g1 := g0.own (o := .lst (cs.map V.int)) np
    have ow1 : Ow H0 (fun _ => none) _ p (cs.map V.int) := Ow.new g0 np
    generalize hH1 : upd H0 p (.lst (cs.map V.int)) = H1 at g1 ow1 ⊢
    refine ⟨p, rfl, ⟨_, ow1.sq⟩, ?_⟩
    refine for_list (xs := cs.map V.int) (fun i σ' H' => ∃ (z : Int) (c : Option V), σ' = [some (.ref a), some (.int z), c] ∧ 0 ≤ z ∧ z < 2147483648 ∧ H' = H1) ⟨_, none, rfl, by decide, by decide, rfl⟩ (fun i σ' H' _ hP => ?_) (fun i x σ' H' hx hP => ?_) (fun σ' H' hP => ?_)
    · obtain ⟨z, c, _, _, _, rfl⟩ := hP
      exact ow1.sq
    · obtain ⟨z, c, rfl, h1, h2, rfl⟩ := hP
      obtain ⟨x, rfl⟩ : ∃ x', x = V.int x' := by
        rw [List.getElem?_map] at hx
        obtain ⟨y, _, e⟩ := Option.map_eq_some_iff.mp hx
        exact ⟨y, e.symm⟩
      refine p_asg ?_
      refine ⟨.int z, rfl, _, _, rfl, rfl, (.inr ⟨by decide, by decide⟩), .int x, rfl, _, _, rfl, rfl, (show (0 : Int) < 2147483629 by decide), _, _, rfl, rfl, _, _, rfl, rfl, _, _, rfl, rfl, (show (0 : Int) < 2147483647 by decide), ?_⟩
      refine ⟨_, _, rfl, Int.emod_nonneg _ (by decide), ?_, rfl⟩
      exact Int.lt_trans (Int.emod_lt_of_pos _ (by decide)) (by decide)
    · obtain ⟨z, c, rfl, h1, h2, rfl⟩ := hP
      refine p_nx ?_
      refine p_ret ?_
      have hS1 : SqL K H' a (ns.map V.int) := g1.seq id hS
      refine ⟨.ref a, rfl, 63, rfl, a, ns.map V.int, rfl, hS1, fun p2 np2 => ?_⟩
      rw [hcut, hcs]
      have g2 := g1.own (o := .lst (cs.map V.int)) np2
      have ow2 : Ow H0 (fun _ => none) _ p2 (cs.map V.int) := Ow.new g1 np2
      generalize hH2 : upd H' p2 (.lst (cs.map V.int)) = H2 at g2 ow2 ⊢
      refine ⟨p2, rfl, ⟨_, ow2.sq⟩, fun D nD => ?_⟩
      refine lc_list (xs := cs.map V.int) (fun i H' => ∃ ds : List Int, ds.length = i ∧ H' = upd H2 D (.lst (ds.map V.int))) ⟨[], rfl, rfl⟩ (fun i H' _ hP => ?_) (fun i x H' hx hP => ?_) (fun H' hP => ?_)
      · obtain ⟨ds, _, rfl⟩ := hP
        exact (ow2.own nD).sq
      · obtain ⟨ds, hds, rfl⟩ := hP
        have hi : i < cs.length := by rw [← hc2]; exact (List.getElem?_eq_some_iff.mp hx).1
        obtain ⟨x, rfl⟩ : ∃ x', x = V.int x' := by
          rw [List.getElem?_map] at hx
          obtain ⟨y, _, e⟩ := Option.map_eq_some_iff.mp hx
          exact ⟨y, e.symm⟩
        refine ⟨rfl, p_yes ?_⟩
        refine ⟨.int x, rfl, x, rfl, _, _, rfl, rfl, ⟨by decide, by decide, by decide⟩, _, _, rfl, rfl, ⟨by decide, by decide +kernel⟩, _, _, rfl, rfl, (show (0 : Int) < ((10 : Int) ^ (60 : Int).toNat) ^ (10 : Int).toNat by decide +kernel), ?_⟩
        refine ⟨_, upd_same, ?_, ds ++ [(if x < 0 then -x else x) % ((10 : Int) ^ (60 : Int).toNat) ^ (10 : Int).toNat], ?_, ?_⟩
        · rw [List.length_map, sizeLine_eq]; omega
        · rw [List.length_append, hds]; rfl
        · rw [upd_upd, List.map_append]; rfl
      · obtain ⟨ds, hds, rfl⟩ := hP
        rw [hc2] at hds
        refine ⟨.int z, rfl, (by show 5 ≤ sizeLine; decide), fun B nB => ?_⟩
        have hne : D ≠ B := fun e => by rw [← e, upd_same] at nB; cases nB
        exact hQ B D ⟨ds, 0, 0, z, 0⟩ (fun _ => none) _ (fun _ _ h => nomatch h) ⟨upd_same, by rw [upd_ne hne, upd_same], hne.symm, rfl, rfl⟩ ⟨h1, h2, by show ds.length ≤ 63; omega⟩ (((g2.own nD).own nB).seq id hS) (fun o ho z => by
          have m2 := g2.keep a o id ho
          rcases z with rfl | rfl
          · rw [upd_ne (fun e => by rw [e] at m2; rw [m2] at nD; cases nD)] at nB
            rw [m2] at nB
            cases nB
          · rw [m2] at nD
            cases nD)

end K13
namespace K13
open PySem PySem.Spec PyProof.Rows L2 TL G
theorem ok_l_stirred {P : Program} {w : World} {K : PySem.W.Frag} {mg : Str → Option Value} {base : Heap} (T : Txt K mg) : FnOk P w K mg base CX0 1 T.a_l_stirred T.d_l_stirred ["_law_bag_here", "_law_many"] (sp_l_stirred K) := by
  refine fd_ok T.F_l_stirred sc_l_stirred (fun vs H Q E h => ?_) (fun cdv A outer s H0 vs Q E hr h => ?_)
  · obtain ⟨_, _, _, _, _, _, _, rfl, _⟩ := h
    rfl
  · obtain ⟨F0, B, C, b, n, r, b', rfl, hS0, hB, hm, hQ⟩ := h
    refine ⟨_, (pss_cons (ps_set (i := 2) sc_l_stirred.nd rfl (.inl rfl) pe_int)
      (pss_cons (ps_for PassesOwn.never rfl (pi_range1 (by rfl) T.n_range (pa_cons (pe_op op_add pe_int (pe_op op_fdiv (pe_bits (pv 1)) pe_int)) pa_nil)) (pg_name (i := 3) sc_l_stirred.nd rfl (Or.inl rfl))
          (pss_cons (ps_asg (pe_op op_add (pe_ix ix_list (pv 0) pe_int (fun _ _ => rfl)) pe_int) (pg_sub (pv 0) pe_int set_list))
          (pss_cons (ps_asg (pe_op op_mod (pe_op op_add (pe_op op_add (pe_op op_add (pe_op op_pow (pe_ix ix_list (pv 0) pe_int (fun _ _ => rfl)) pe_int) (pe_op op_mul pe_int (pe_ix ix_list (pv 0) pe_int (fun _ _ => rfl)))) (pe_op op_mul pe_int (pe_ix ix_list (pv 0) pe_int (fun _ _ => rfl)))) pe_int) pe_int) (pg_sub (pv 0) pe_int set_list))
          (pss_one (ps_set (i := 2) sc_l_stirred.nd rfl (.inl rfl) (pe_op op_add (pe_op op_mul (pv 2) pe_int) (pe_op op_fdiv (pe_ix ix_list (pv 0) pe_int (fun _ _ => rfl)) pe_int)))))))
      (pss_one (ps_ret (pe_op op_mod (pv 2) (pv 1)))))), ?_⟩
    have g0 : Gr (Bc B C) F0 H0 F0 H0 := Gr.refl hS0
    unfold m_l_stirred at hm
    have hc : (0 < n ∧ Builtin.Int.intBits n < 9000) ∧ (0 ≤ b.stir ∧ b.stir < 2147483648) := by
      by_cases hc : (0 < n ∧ Builtin.Int.intBits n < 9000) ∧ (0 ≤ b.stir ∧ b.stir < 2147483648)
      · exact hc
      · rw [if_neg hc] at hm; cases hm
    rw [if_pos hc] at hm
    obtain ⟨⟨hn, hn2⟩, hs0, hs1⟩ := hc
    obtain ⟨cs, a0, lf, sd, ct⟩ := b
    simp only at hm hs0 hs1
    obtain ⟨rfl, rfl⟩ := pjoin hm
    have lB : ∀ {H : Hp} {a : Nat} {l z c : Int}, BagAt F0 H B C ⟨cs, a, l, z, c⟩ → SqL K H B [V.ref C, .int (a : Nat), .int l, .int z, .int c] := fun h => .inl (.inl h.hB)
    refine p_seq ?_
    refine p_asg ?_
    refine p_name ?_
    refine p_nx ?_
    refine p_seq ?_
    refine p_for ?_
    generalize hbn : Builtin.Int.intBits n = bn at hn2 ⊢
    have htn : ((1 : Int) + ((bn : Nat) : Int) / 27).toNat = 1 + bn / 27 := by omega
    refine ⟨.int n, rfl, n, rfl, _, _, rfl, rfl, ⟨by decide, by decide⟩, _, _, rfl, rfl, (1 : Int) + ((bn : Nat) : Int) / 27, by rw [← hbn], by omega, by omega, ?_⟩
    rw [htn]
    refine for_range (lo := 0) (n := 1 + bn / 27) (fun i σ' H' => ∃ (o : Option V), σ' = [some (.ref B), some (.int n), some (.int (stirN sd ct i).2.2), o] ∧ Gr (Bc B C) F0 H0 F0 H' ∧ BagAt F0 H' B C ⟨cs, a0, lf, (stirN sd ct i).1, (stirN sd ct i).2.1⟩ ∧ 0 ≤ (stirN sd ct i).1 ∧ (stirN sd ct i).1 < 2147483648) ⟨none, rfl, g0, hB, hs0, hs1⟩ (fun i σ' H' hi hP => ?_) (fun σ' H' hP => ?_)
    · obtain ⟨o, rfl, g, hB, h0, h1⟩ := hP
      generalize hS : stirN sd ct i = S at hB h0 h1 ⊢
      obtain ⟨z, c, f⟩ := S
      have hS' : stirN sd ct (i + 1) = (nxt z (c + 1), c + 1, f * 134217728 + nxt z (c + 1) / 16) := by
        show (nxt (stirN sd ct i).1 ((stirN sd ct i).2.1 + 1), (stirN sd ct i).2.1 + 1, (stirN sd ct i).2.2 * 134217728 + nxt (stirN sd ct i).1 ((stirN sd ct i).2.1 + 1) / 16) = _
        rw [hS]
      simp only at hB h0 h1 ⊢
      have hpow : CPow z 3 := ⟨by decide, by decide, by omega⟩
      refine p_seq ?_
      refine p_asg ?_
      refine ⟨_, rfl, _, _, 4, .int c, rfl, rfl, lB hB, rfl, _, _, rfl, rfl, _, rfl, B, _, 4, 4, rfl, rfl, hB.hB, rfl, ?_⟩
      have hB2 := G.BagAt2.put (b' := ⟨cs, a0, lf, z, c + 1⟩) hB rfl
      have g2 := g.mut (o := .lst [.ref C, .int (a0 : Nat), .int lf, .int z, .int (c + 1)]) hB.fB (.inr (.inl rfl))
      refine p_nx ?_
      refine p_seq ?_
      refine p_asg ?_
      refine ⟨_, rfl, _, _, 3, .int z, rfl, rfl, lB hB2, rfl, _, _, rfl, rfl, hpow, _, rfl, _, _, 3, .int z, rfl, rfl, lB hB2, rfl, _, _, rfl, rfl, (.inl ⟨by decide, by decide⟩), _, _, rfl, rfl, _, rfl, _, _, 4, .int (c + 1), rfl, rfl, lB hB2, rfl, _, _, rfl, rfl, (.inl ⟨by decide, by decide⟩), _, _, rfl, rfl, _, _, rfl, rfl, _, _, rfl, rfl, (show (0 : Int) < 2147483647 by decide), _, rfl, B, _, 3, 3, rfl, rfl, hB2.hB, rfl, ?_⟩
      have hB3 := G.BagAt2.put (b' := ⟨cs, a0, lf, nxt z (c + 1), c + 1⟩) hB2 rfl
      have g3 := g2.mut (o := .lst [.ref C, .int (a0 : Nat), .int lf, .int (nxt z (c + 1)), .int (c + 1)]) hB2.fB (.inr (.inl rfl))
      refine p_nx ?_
      refine p_asg ?_
      refine ⟨.int f, rfl, _, _, rfl, rfl, (.inr ⟨by decide, by decide⟩), _, rfl, _, _, 3, .int (nxt z (c + 1)), rfl, rfl, lB hB3, rfl, _, _, rfl, rfl, ⟨by decide, by decide⟩, _, _, rfl, rfl, ?_⟩
      refine p_name ?_
      refine ⟨_, by rw [hS'] <;> rfl, g3, by rw [hS']; exact hB3, ?_, ?_⟩
      · rw [hS']; exact Int.emod_nonneg _ (by decide)
      · rw [hS']
        have : nxt z (c + 1) < 2147483647 := Int.emod_lt_of_pos _ (by decide)
        show nxt z (c + 1) < 2147483648
        omega
    · obtain ⟨o, rfl, g, hB, h0, h1⟩ := hP
      refine p_nx ?_
      refine p_ret ?_
      refine ⟨_, rfl, .int n, rfl, _, _, rfl, rfl, hn, ?_⟩
      subst hbn
      exact hQ _ _ g hB
theorem ok_l_draw {P : Program} {w : World} {K : PySem.W.Frag} {mg : Str → Option Value} {base : Heap} (T : Txt K mg) : FnOk P w K mg base CX0 2 T.a_l_draw T.d_l_draw ["_law_bag_here", "_law_many"] (sp_l_draw K) := by
  have G_l_stirred : FnOk P w K mg base CX0 1 T.a_l_stirred T.d_l_stirred ["_law_bag_here", "_law_many"] (sp_l_stirred K) := ok_l_stirred T
  have b_l_stirred := T.F_l_stirred.bindsN (ps := ["_law_bag_here", "_law_many"]) fun _ _ _ _ _ _ us hl => match us, hl with | [_, _], _ => rfl
  refine fd_ok T.F_l_draw sc_l_draw (fun vs H Q E h => ?_) (fun cdv A outer s H0 vs Q E hr h => ?_)
  · obtain ⟨_, _, _, _, _, _, _, rfl, _⟩ := h
    rfl
  · obtain ⟨F0, B, C, b, n, r, b', rfl, hS0, hB, hm, hQ⟩ := h
    refine ⟨_, (pss_cons (ps_if (PW.pt (pw_and (pt_cmpR op_eq (pe_ix ix_list (pv 0) pe_int (fun _ _ => rfl)) pe_int (nomark _)) (pw_and1 (pt_cmpR op_lt (pe_ix ix_list (pv 0) pe_int (fun _ _ => rfl)) (pe_callB call_lenL (by rfl) T.n_len (by decide +kernel) (pa_cons (pe_ix ix_list (pv 0) pe_int (fun _ _ => rfl)) pa_nil)) (nomark _)))))
          (pss_cons (ps_asg (pe_ix ix_list (pe_ix ix_list (pv 0) pe_int (fun _ _ => rfl)) (pe_ix ix_list (pv 0) pe_int (fun _ _ => rfl)) (fun _ _ => rfl)) (pg_sub (pv 0) pe_int set_list))
          (pss_one (ps_asg (pe_op op_add (pe_ix ix_list (pv 0) pe_int (fun _ _ => rfl)) pe_int) (pg_sub (pv 0) pe_int set_list))))
          (pss_one (ps_if (pt_cmpR op_eq (pe_ix ix_list (pv 0) pe_int (fun _ _ => rfl)) pe_int (nomark _)) (pss_one (ps_ret (pe_call G_l_stirred (hr.mono (by decide)) (by rfl) T.g_l_stirred T.F_l_stirred.kp b_l_stirred .nil pass0 (pa_cons (pv 0) (pa_cons (pv 1) pa_nil))))) pss_nil)))
      (pss_cons (ps_set (i := 2) sc_l_draw.nd rfl (.inl rfl) (pe_op op_mod (pe_ix ix_list (pv 0) pe_int (fun _ _ => rfl)) (pv 1)))
      (pss_cons (ps_asg (pe_op op_fdivW (pe_ix ix_list (pv 0) pe_int (fun _ _ => rfl)) (pv 1)) (pg_sub (pv 0) pe_int set_list))
      (pss_one (ps_ret (pv 2)))))), ?_⟩
    have g0 : Gr (Bc B C) F0 H0 F0 H0 := Gr.refl hS0
    unfold m_l_draw at hm
    have hc : (0 < n ∧ n.natAbs.log2 < 9000) ∧ b.cells.length ≤ sizeLine := by
      by_cases hc : (0 < n ∧ n.natAbs.log2 < 9000) ∧ b.cells.length ≤ sizeLine
      · exact hc
      · rw [if_neg hc] at hm; cases hm
    rw [if_pos hc] at hm
    obtain ⟨⟨hn, hn2⟩, hsz⟩ := hc
    obtain ⟨cs, a, lf, sd, ct⟩ := b
    simp only at hm hsz
    have lB : ∀ {H : Hp} {a : Nat} {l z c : Int}, BagAt F0 H B C ⟨cs, a, l, z, c⟩ → SqL K H B [V.ref C, .int (a : Nat), .int l, .int z, .int c] := fun h => .inl (.inl h.hB)
    have lC : ∀ {H : Hp} {b1 : Bag}, BagAt F0 H B C b1 → SqL K H C (b1.cells.map V.int) := fun h => .inl (.inl h.hC)
    have hz : (cs.map V.int).length = cs.length := List.length_map ..
    refine p_seq ?_
    refine p_if ?_
    refine ⟨_, rfl, _, _, 2, .int lf, rfl, rfl, lB hB, rfl, rfl, _, rfl, ?_⟩
    by_cases h0 : lf = 0
    · subst h0
      rw [if_pos rfl] at hm
      refine ifTr (decide_eq_true rfl) ?_
      refine ⟨_, rfl, _, _, 1, .int (a : Nat), rfl, rfl, lB hB, rfl, _, rfl, _, _, 0, .ref C, rfl, rfl, lB hB, rfl, C, _, _, rfl, .inl (lC hB), hz, _, _, rfl, rfl, _, rfl, ?_⟩
      by_cases hl : a < cs.length
      · obtain ⟨x, hx⟩ : ∃ x, cs[a]? = some x := ⟨_, List.getElem?_eq_getElem hl⟩
        rw [hx] at hm
        obtain ⟨rfl, rfl⟩ := pjoin hm
        refine ifTr (decide_eq_true (Int.ofNat_lt.mpr hl)) ?_
        refine p_seq ?_
        refine p_asg ?_
        refine ⟨_, rfl, _, _, 0, .ref C, rfl, rfl, lB hB, rfl, _, rfl, _, _, 1, .int (a : Nat), rfl, rfl, lB hB, rfl, _, _, (a : Nat), .int x, rfl, rfl, lC hB, atI_map hx, _, rfl, B, _, 2, 2, rfl, rfl, hB.hB, rfl, ?_⟩
        have hB2 := G.BagAt2.put (b' := ⟨cs, a, x, sd, ct⟩) hB rfl
        have g2 := g0.mut (o := .lst [.ref C, .int (a : Nat), .int x, .int sd, .int ct]) hB.fB (.inr (.inl rfl))
        refine p_nx ?_
        refine p_asg ?_
        refine ⟨_, rfl, _, _, 1, .int (a : Nat), rfl, rfl, lB hB2, rfl, _, _, rfl, rfl, _, rfl, B, _, 1, 1, rfl, rfl, hB2.hB, rfl, ?_⟩
        have hB3 := G.BagAt2.put (b' := ⟨cs, a + 1, x, sd, ct⟩) hB2 rfl
        have g3 := g2.mut (o := .lst [.ref C, .int ((a + 1 : Nat) : Int), .int x, .int sd, .int ct]) hB2.fB (.inr (.inl rfl))
        refine p_nx ?_
        refine p_seq ?_
        refine p_asg ?_
        refine ⟨_, rfl, _, _, 2, .int x, rfl, rfl, lB hB3, rfl, .int n, rfl, _, _, rfl, rfl, hn, ?_⟩
        refine p_name ?_
        refine p_nx ?_
        refine p_seq ?_
        refine p_asg ?_
        refine ⟨_, rfl, _, _, 2, .int x, rfl, rfl, lB hB3, rfl, .int n, rfl, x, n, rfl, rfl, ⟨hn, hn2⟩, _, rfl, B, _, 2, 2, rfl, rfl, hB3.hB, rfl, ?_⟩
        refine p_nx ?_
        refine p_ret ?_
        refine ⟨_, rfl, ?_⟩
        exact hQ _ _ (g3.mut hB3.fB (.inr (.inl rfl))) (G.BagAt2.put (b' := ⟨cs, a + 1, x / n, sd, ct⟩) hB3 rfl)
      · rw [List.getElem?_eq_none (by omega)] at hm
        refine ifFr (decide_eq_false fun e => hl (Int.ofNat_lt.mp e)) ?_
        refine p_if ?_
        refine ⟨_, rfl, _, _, 2, .int 0, rfl, rfl, lB hB, rfl, rfl, _, rfl, ?_⟩
        refine ifTr (decide_eq_true rfl) ?_
        refine p_ret ?_
        refine ⟨.ref B, rfl, .int n, rfl, F0, B, C, _, n, r, b', rfl, g0.fh, hB, hm, fun F' H' g hB' => ?_⟩
        exact hQ _ _ (g0.trans g) hB'
    · rw [if_neg h0] at hm
      obtain ⟨rfl, rfl⟩ := pjoin hm
      refine ifFr (decide_eq_false fun e => h0 (V.int.inj e)) ?_
      refine ifFr rfl ?_
      refine p_if ?_
      refine ⟨_, rfl, _, _, 2, .int lf, rfl, rfl, lB hB, rfl, rfl, _, rfl, ?_⟩
      refine ifFr (decide_eq_false fun e => h0 (V.int.inj e)) ?_
      refine p_next ?_
      refine p_nx ?_
      refine p_seq ?_
      refine p_asg ?_
      refine ⟨_, rfl, _, _, 2, .int lf, rfl, rfl, lB hB, rfl, .int n, rfl, _, _, rfl, rfl, hn, ?_⟩
      refine p_name ?_
      refine p_nx ?_
      refine p_seq ?_
      refine p_asg ?_
      refine ⟨_, rfl, _, _, 2, .int lf, rfl, rfl, lB hB, rfl, .int n, rfl, lf, n, rfl, rfl, ⟨hn, hn2⟩, _, rfl, B, _, 2, 2, rfl, rfl, hB.hB, rfl, ?_⟩
      refine p_nx ?_
      refine p_ret ?_
      refine ⟨_, rfl, ?_⟩
      exact hQ _ _ (g0.mut hB.fB (.inr (.inl rfl))) (G.BagAt2.put (b' := ⟨cs, a, lf / n, sd, ct⟩) hB rfl)

end K13
namespace K13
open PySem PySem.Spec PyProof.Rows L2 TL G
theorem ok_al1 {P : Program} {w : World} {K : PySem.W.Frag} {mg : Str → Option Value} {base : Heap} (T : Txt K mg) (n : Nat) (ih : FnOk P w K mg base CX0 n T.a_l_alike T.d_l_alike ["_law_found", "_law_due"] (spA n K)) : FnOk P w K mg base CX0 (n + 1) T.a_l_alike T.d_l_alike ["_law_found", "_law_due"] (sp_alike n K) := by
  have b_l_alike := T.F_l_alike.bindsN (ps := ["_law_found", "_law_due"]) fun _ _ _ _ _ _ us hl => match us, hl with | [_, _], _ => rfl
  refine fd_ok T.F_l_alike sc_l_alike (fun vs H Q E h => ?_) (fun cdv A outer s H0 vs Q E hr h => ?_)
  · obtain ⟨_, _, _, rfl, _⟩ := h
    rfl
  · obtain ⟨v1, v2, d, rfl, r1, r2, hd, hQ⟩ := h
    refine ⟨_, (pss_cons (ps_if (pt_val (pe_callB call_isiT (by rfl) T.n_isinstance (by decide +kernel) (pa_cons (pv 1) (pa_cons (pe_tup (pa_cons (pe_bltn (v := .ty "list") (by rfl) T.n_list (by decide +kernel) rfl) (pa_cons (pe_bltn (v := .ty "tuple") (by rfl) T.n_tuple (by decide +kernel) rfl) pa_nil))) pa_nil))))
        (pss_cons (ps_if (PW.pt (pw_or (pt_not (pt_val (pe_callB call_isiT (by rfl) T.n_isinstance (by decide +kernel) (pa_cons (pv 0) (pa_cons (pe_tup (pa_cons (pe_bltn (v := .ty "list") (by rfl) T.n_list (by decide +kernel) rfl) (pa_cons (pe_bltn (v := .ty "tuple") (by rfl) T.n_tuple (by decide +kernel) rfl) pa_nil))) pa_nil)))))
            (pw_or1 (pt_cmpR op_ne (pe_callB call_isi (by rfl) T.n_isinstance (by decide +kernel) (pa_cons (pv 0) (pa_cons (pe_bltn (v := .ty "list") (by rfl) T.n_list (by decide +kernel) rfl) pa_nil))) (pe_callB call_isi (by rfl) T.n_isinstance (by decide +kernel) (pa_cons (pv 1) (pa_cons (pe_bltn (v := .ty "list") (by rfl) T.n_list (by decide +kernel) rfl) pa_nil))) (nomark _))))) (pss_one (ps_ret pe_bl)) pss_nil)
          (pss_cons (ps_if (pt_cmpR op_ne (pe_callB call_lenL (by rfl) T.n_len (by decide +kernel) (pa_cons (pv 0) pa_nil)) (pe_callB call_lenL (by rfl) T.n_len (by decide +kernel) (pa_cons (pv 1) pa_nil)) (nomark _)) (pss_one (ps_ret pe_bl)) pss_nil)
          (pss_one (ps_ret (pe_callB (cr_all rfl) (by rfl) T.n_all (by decide +kernel) (pa_cons (pe_lc (own := [("_law_k", 2)]) rfl sc_l_alike.nd (pi_range1 (by rfl) T.n_range (pa_cons (pe_callB call_lenL (by rfl) T.n_len (by decide +kernel) (pa_cons (pv 1) pa_nil)) pa_nil))
              (blkOk_by (own := [("_law_k", 2)]) (N := N_l_alike) (sc := defScope s_l_alike) (by decide +kernel)) (fun _ _ _ _ _ => pg_name (i := 2) sc_l_alike.nd rfl (Or.inl rfl)) (fun _ _ _ _ _ => pts_nil)
              (fun _ _ _ _ _ => pe_call ih hr (by rfl) T.g_l_alike T.F_l_alike.kp b_l_alike .nil pass0 (pa_cons (pe_ix (r := rIx K) ix_seq (pv 0) (pv 2) (fun _ _ => rfl)) (pa_cons (pe_ix (r := rIx K) ix_seq (pv 1) (pv 2) (fun _ _ => rfl)) pa_nil)))) pa_nil)))))) pss_nil)
      (pss_cons (ps_if (PW.pt (pw_or (pt_cmpR op_ne (pe_callB call_isi (by rfl) T.n_isinstance (by decide +kernel) (pa_cons (pv 0) (pa_cons (pe_bltn (v := .ty "bool") (by rfl) T.n_bool (by decide +kernel) rfl) pa_nil))) (pe_callB call_isi (by rfl) T.n_isinstance (by decide +kernel) (pa_cons (pv 1) (pa_cons (pe_bltn (v := .ty "bool") (by rfl) T.n_bool (by decide +kernel) rfl) pa_nil))) (nomark _)) (pw_or1 (pt_cmpR op_ne (pe_callB call_isi (by rfl) T.n_isinstance (by decide +kernel) (pa_cons (pv 0) (pa_cons (pe_bltn (v := .ty "int") (by rfl) T.n_int (by decide +kernel) rfl) pa_nil))) (pe_callB call_isi (by rfl) T.n_isinstance (by decide +kernel) (pa_cons (pv 1) (pa_cons (pe_bltn (v := .ty "int") (by rfl) T.n_int (by decide +kernel) rfl) pa_nil))) (nomark _))))) (pss_one (ps_ret pe_bl)) pss_nil)
        (pss_one (ps_ret (pe_and (pe_cmpR op_eq (pe_callB call_isi (by rfl) T.n_isinstance (by decide +kernel) (pa_cons (pv 0) (pa_cons (pe_bltn (v := .ty "str") (by rfl) T.n_str (by decide +kernel) rfl) pa_nil))) (pe_callB call_isi (by rfl) T.n_isinstance (by decide +kernel) (pa_cons (pv 1) (pa_cons (pe_bltn (v := .ty "str") (by rfl) T.n_str (by decide +kernel) rfl) pa_nil))) (nomark _)) (pe_one (pe_cmpR op_eq (pv 0) (pv 1) (nomark _)))))))), ?_⟩
    have g0 : Gr M0 H0 H0 H0 H0 := Gr.refl (Same.refl _)
    refine p_seq ?_
    refine p_if ?_
    refine ⟨v2, rfl, (by show 2 ≤ sizeLine; decide), fun p1 np1 => ?_⟩
    refine ⟨v2, p1, [.ty "list", .ty "tuple"], _, [.type "list", .type "tuple"], _, rfl, upd_same, .cons (.ty _) (.cons (.ty _) .nil), (r2.up (same_new np1)).ty, kit_lt r2.knd, _, rfl, ?_⟩
    have g1 := g0.frz (o := .tup [.ty "list", .ty "tuple"]) np1
    have q1 := r1.up (same_new (o := .tup [.ty "list", .ty "tuple"]) np1)
    have q2 := r2.up (same_new (o := .tup [.ty "list", .ty "tuple"]) np1)
    generalize upd H0 p1 (.tup [.ty "list", .ty "tuple"]) = H1 at g1 q1 q2 ⊢
    refine iteB (fun hc => ?_) (fun hc => ?_)
    · refine p_seq ?_
      refine p_if ?_
      refine ⟨v1, rfl, (by show 2 ≤ sizeLine; decide), fun p2 np2 => ?_⟩
      refine ⟨v1, p2, [.ty "list", .ty "tuple"], _, [.type "list", .type "tuple"], _, rfl, upd_same, .cons (.ty _) (.cons (.ty _) .nil), (q1.up (same_new np2)).ty, kit_lt q1.knd, _, rfl, ?_⟩
      have g2 := g1.frz (o := .tup [.ty "list", .ty "tuple"]) np2
      have t1 := q1.up (same_new (o := .tup [.ty "list", .ty "tuple"]) np2)
      have t2 := q2.up (same_new (o := .tup [.ty "list", .ty "tuple"]) np2)
      generalize upd H1 p2 (.tup [.ty "list", .ty "tuple"]) = H2 at g2 t1 t2 ⊢
      refine ifFr (by rw [hc]; rfl) ?_
      refine ⟨v1, rfl, v1, .ty "list", _, .type "list", _, rfl, .ty _, t1.ty, kit_one t1.knd "list" (.inl rfl), v2, rfl, v2, .ty "list", _, .type "list", _, rfl, .ty _, t2.ty, kit_one t2.knd "list" (.inl rfl), rfl, _, rfl, ?_⟩
      refine ifFr (by simp) ?_
      refine p_next ?_
      refine p_nx ?_
      obtain ⟨a1, ws1, a2, ws2, ds, m, rfl, rfl, s1, s2, l1, l2, e1, e2, hn, hdp⟩ := al_sq t1 t2 hc hd
      subst hn
      refine p_seq ?_
      refine p_if ?_
      refine ⟨_, rfl, a1, ws1, _, rfl, s1, rfl, _, rfl, a2, ws2, _, rfl, s2, rfl, rfl, _, rfl, ?_⟩
      refine ifFr (by rw [e1.length, e2.length]; simp) ?_
      refine p_next ?_
      refine p_nx ?_
      refine p_ret ?_
      have hl2 : (ws2.length : Int) < 2 ^ 62 := by
        have := l2
        rw [sizeLine_eq] at this
        omega
      refine ⟨_, rfl, a2, ws2, _, rfl, s2, rfl, _, rfl, (by omega), hl2, fun D nD => ?_⟩
      refine lc_range (lo := 0) (n := ((ws2.length : Nat) : Int).toNat) (fun i H' => Gr M0 H0 H0 H2 H' ∧ Ow H0 H2 H' D (List.replicate i (.bl true))) ⟨g2.own nD, Ow.new g2 nD⟩ (fun i H' hi hP => ?_) (fun H' hP => ?_)
      · obtain ⟨g, ow⟩ := hP
        refine ⟨rfl, p_yes ?_⟩
        have hi2 : i < ws2.length := by simpa using hi
        obtain ⟨u2, hu2⟩ : ∃ u, ws2[i]? = some u := ⟨_, List.getElem?_eq_getElem hi2⟩
        obtain ⟨di, hdi, ru2⟩ := e2.get hu2
        obtain ⟨u1, hu1, ru1⟩ := e1.back hdi
        refine ⟨_, rfl, _, rfl, ix_go (sq_up s1 g.fh) hu1 ⟨_, rfl, _, rfl, ix_go (sq_up s2 g.fh) hu2 ?_⟩⟩
        refine ⟨u1, u2, di, rfl, ru1.up g.fh, ru2.up g.fh, hdp di (List.mem_of_getElem? hdi), fun F1 H3 g3 => ?_⟩
        have g4 := Gr.apart g g3
        have ow4 := ow.apart g3
        refine ⟨_, ow4.h, ?_, ?_⟩
        · rw [List.length_replicate]; omega
        · have e : List.replicate i (V.bl true) ++ [V.bl true] = List.replicate (i + 1) (V.bl true) := List.replicate_succ'.symm
          rw [e]
          exact ⟨g4.put ow4, ow4.put⟩
      · obtain ⟨g, ow⟩ := hP
        refine ⟨D, List.replicate (((ws2.length : Nat) : Int).toNat) true, rfl, ?_, ?_⟩
        · rw [List.map_replicate]; exact ow.sq
        · rw [show (List.replicate (((ws2.length : Nat) : Int).toNat) true).all id = true by simp]
          exact hQ _ _ g
    · refine p_next ?_
      refine p_nx ?_
      have hv : v1 = v2 ∧ scal v1 v2 = true := al_sc q1 q2 hc
      refine p_seq ?_
      refine p_if ?_
      refine ⟨v1, rfl, v1, .ty _, _, .type _, _, rfl, .ty _, q1.ty, kit_one q1.knd _ (.inr (.inl rfl)), v2, rfl, v2, .ty _, _, .type _, _, rfl, .ty _, q2.ty, kit_one q2.knd _ (.inr (.inl rfl)), rfl, _, rfl, ?_⟩
      refine ifFr (by simp) ?_
      refine ⟨v1, rfl, v1, .ty _, _, .type _, _, rfl, .ty _, q1.ty, kit_int q1.knd, v2, rfl, v2, .ty _, _, .type _, _, rfl, .ty _, q2.ty, kit_int q2.knd, rfl, _, rfl, ?_⟩
      refine ifFr (by simp) ?_
      refine p_next ?_
      refine p_nx ?_
      refine p_ret ?_
      refine ⟨v1, rfl, v1, .ty _, _, .type _, _, rfl, .ty _, q1.ty, kit_one q1.knd _ (.inr (.inr rfl)), v2, rfl, v2, .ty _, _, .type _, _, rfl, .ty _, q2.ty, kit_one q2.knd _ (.inr (.inr rfl)), rfl, ?_⟩
      refine ⟨_, rfl, ifTr (decide_eq_true rfl) ?_⟩
      refine ⟨v1, rfl, v2, rfl, hv.2, ?_⟩
      rw [decide_eq_true hv.1]
      exact hQ _ _ g1
theorem ok_l_alike {P : Program} {w : World} {K : PySem.W.Frag} {mg : Str → Option Value} {base : Heap} (T : Txt K mg) : ∀ n : Nat, FnOk P w K mg base CX0 n T.a_l_alike T.d_l_alike ["_law_found", "_law_due"] (spA n K)
  | 0 => ⟨fun _ _ _ _ h => h.elim, fun _ _ _ _ _ _ _ _ _ _ _ _ _ h => h.elim⟩
  | n + 1 => ok_al1 T n (ok_l_alike T n)

end K13
namespace K13
open PySem PySem.Spec PyProof.Rows L2 TL G
theorem ok_l_town {P : Program} {w : World} {K : PySem.W.Frag} {mg : Str → Option Value} {base : Heap} (T : Txt K mg) : FnOk P w K mg base CX0 3 T.a_l_town T.d_l_town ["_law_bag_here"] (sp_l_town K) := by
  have G_l_draw : FnOk P w K mg base CX0 2 T.a_l_draw T.d_l_draw ["_law_bag_here", "_law_many"] (sp_l_draw K) := ok_l_draw T
  have b_l_draw := T.F_l_draw.bindsN (ps := ["_law_bag_here", "_law_many"]) fun _ _ _ _ _ _ us hl => match us, hl with | [_, _], _ => rfl
  refine fd_ok T.F_l_town sc_l_town (fun vs H Q E h => ?_) (fun cdv A outer s H0 vs Q E hr h => ?_)
  · obtain ⟨_, _, _, _, _, _, rfl, _⟩ := h
    rfl
  · obtain ⟨F0, B, C, b, r, b', rfl, hS0, hB, hm, hQ⟩ := h
    refine ⟨_, (pss_cons (ps_set (i := 1) sc_l_town.nd rfl (.inl rfl) (pe_ix (ix_listK (K := K)) (pe_lst (pa_cons pe_int (pa_cons pe_int (pa_cons pe_int (pa_cons pe_int (pa_cons pe_int (pa_cons pe_int (pa_cons pe_int (pa_cons pe_int pa_nil))))))))) (pe_call G_l_draw (hr.mono (by decide)) (by rfl) T.g_l_draw T.F_l_draw.kp b_l_draw .nil pass0 (pa_cons (pv 0) (pa_cons pe_int pa_nil))) (fun _ _ => rfl))) (pss_cons (ps_set (i := 2) sc_l_town.nd rfl (.inr rfl) (pe_op op_add pe_int (pe_call G_l_draw (hr.mono (by decide)) (by rfl) T.g_l_draw T.F_l_draw.kp b_l_draw .nil pass0 (pa_cons (pv 0) (pa_cons pe_int pa_nil))))) (pss_cons (ps_setLc (i := 3) (own := [("_law_k", 5)]) rfl sc_l_town.nd rfl rfl (sw_true rfl rfl rfl (by decide +kernel)) (pi_range1 (by rfl) T.n_range (pa_cons (pe_op op_sub (pv 2) pe_int) pa_nil)) (blkOk_by (own := [("_law_k", 5)]) (N := N_l_town) (sc := defScope s_l_town) (by decide +kernel)) (fun _ _ _ _ _ => (pg_name (i := 5) sc_l_town.nd rfl (Or.inl rfl) (.inr rfl))) (fun _ _ _ _ _ => (pts_one (pt_cmpR op_gt (pe_call G_l_draw (hr.mono (by decide)) (by rfl) T.g_l_draw T.F_l_draw.kp b_l_draw .nil pass0 (pa_cons (pv 0) (pa_cons pe_int pa_nil))) pe_int (nomark _)))) (fun _ _ _ _ _ => (pe_tup (pa_cons (pv 5) (pa_cons (pe_op op_add (pv 5) pe_int) pa_nil))))) (pss_cons (ps_set (i := 4) sc_l_town.nd rfl (.inl rfl) (pe_op op_add pe_int (pe_call G_l_draw (hr.mono (by decide)) (by rfl) T.g_l_draw T.F_l_draw.kp b_l_draw .nil pass0 (pa_cons (pv 0) (pa_cons (pe_ix (ix_listK (K := K)) (pe_lst (pa_cons pe_int (pa_cons pe_int (pa_cons pe_int (pa_cons pe_int pa_nil))))) (pe_call G_l_draw (hr.mono (by decide)) (by rfl) T.g_l_draw T.F_l_draw.kp b_l_draw .nil pass0 (pa_cons (pv 0) (pa_cons pe_int pa_nil))) (fun _ _ => rfl)) pa_nil))))) (pss_one (ps_ret (pe_tup (pa_cons (pv 1) (pa_cons (pv 2) (pa_cons (pv 3) (pa_cons (pe_lc (own := [("_law_k", 5)]) rfl sc_l_town.nd (pi_range1 (by rfl) T.n_range (pa_cons (pv 4) pa_nil)) (blkOk_by (own := [("_law_k", 5)]) (N := N_l_town) (sc := defScope s_l_town) (by decide +kernel)) (fun _ _ _ _ _ => (pg_name (i := 5) sc_l_town.nd rfl (Or.inl rfl) (.inr rfl))) (fun _ _ _ _ _ => pts_nil) (fun _ _ _ _ _ => (pe_call G_l_draw (hr.mono (by decide)) (by rfl) T.g_l_draw T.F_l_draw.kp b_l_draw .nil pass0 (pa_cons (pv 0) (pa_cons (pv 2) pa_nil))))) pa_nil))))))))))), ?_⟩
    have g0 : Gr (Bc B C) F0 H0 F0 H0 := Gr.refl hS0
    unfold m_l_town at hm
    refine p_seq ?_
    refine p_asg ?_
    refine ⟨(by show 8 ≤ sizeLine; decide), fun p1 np2 => ?_⟩
    have nb3 := hB.nb np2
    have g4 := g0.own (o := (.lst [(V.int (1 : Int)), (V.int (2 : Int)), (V.int (3 : Int)), (V.int (4 : Int)), (V.int (6 : Int)), (V.int (9 : Int)), (V.int (17 : Int)), (V.int (30 : Int))])) np2
    have hB5 := hB.own (o := (.lst [(V.int (1 : Int)), (V.int (2 : Int)), (V.int (3 : Int)), (V.int (4 : Int)), (V.int (6 : Int)), (V.int (9 : Int)), (V.int (17 : Int)), (V.int (30 : Int))])) np2
    have ow6 : Ow H0 F0 (upd H0 p1 (.lst [(V.int (1 : Int)), (V.int (2 : Int)), (V.int (3 : Int)), (V.int (4 : Int)), (V.int (6 : Int)), (V.int (9 : Int)), (V.int (17 : Int)), (V.int (30 : Int))])) p1 [(V.int (1 : Int)), (V.int (2 : Int)), (V.int (3 : Int)), (V.int (4 : Int)), (V.int (6 : Int)), (V.int (9 : Int)), (V.int (17 : Int)), (V.int (30 : Int))] := Ow.new g0 np2
    have hA7 : RL K F0 [(V.int (1 : Int)), (V.int (2 : Int)), (V.int (3 : Int)), (V.int (4 : Int)), (V.int (6 : Int)), (V.int (9 : Int)), (V.int (17 : Int)), (V.int (30 : Int))] ([(1 : Int), (2 : Int), (3 : Int), (4 : Int), (6 : Int), (9 : Int), (17 : Int), (30 : Int)] : List Int) := (RpA.cons (Rp.int (1 : Int)) (RpA.cons (Rp.int (2 : Int)) (RpA.cons (Rp.int (3 : Int)) (RpA.cons (Rp.int (4 : Int)) (RpA.cons (Rp.int (6 : Int)) (RpA.cons (Rp.int (9 : Int)) (RpA.cons (Rp.int (17 : Int)) (RpA.cons (Rp.int (30 : Int)) RpA.nil))))))))
    obtain ⟨r8, b9, hb10, hm⟩ := bnd2 hm
    refine ⟨(V.ref B), rfl, F0, B, C, b, (8 : Int), r8, b9, rfl, g4.fh, hB5, hb10, fun F11 H12 g13 hB14 => ?_⟩
    have g16 := Gr.trans g4 g13
    have ow17 := ow6.gr g13 nb3
    obtain ⟨t18, hb19, hm⟩ := bnd hm
    obtain ⟨v20, ha21, r22⟩ := RL.at (hA7.up g13.ff) hb19
    obtain rfl := R.int_v r22
    refine ⟨p1, [(V.int (1 : Int)), (V.int (2 : Int)), (V.int (3 : Int)), (V.int (4 : Int)), (V.int (6 : Int)), (V.int (9 : Int)), (V.int (17 : Int)), (V.int (30 : Int))], _, (V.int t18), rfl, rfl, ow17.sq, ha21, ?_⟩
    refine p_name ?_
    refine p_nx ?_
    refine p_seq ?_
    refine p_asg ?_
    obtain ⟨r23, b24, hb25, hm⟩ := bnd2 hm
    refine ⟨(V.ref B), rfl, F11, B, C, b9, (12 : Int), r23, b24, rfl, g16.fh, hB14, hb25, fun F26 H27 g28 hB29 => ?_⟩
    have g31 := Gr.trans g16 g28
    have ow32 := ow17.gr g28 nb3
    refine ⟨_, _, rfl, rfl, ?_⟩
    obtain ⟨y_many33, hb34, hm⟩ := bnd hm
    have hx35 : ((1 : Int) + r23) = y_many33 := sjoin hb34
    refine p_nm (v' := (V.int y_many33)) (congrArg V.int hx35) ?_
    refine p_nx ?_
    refine p_seq ?_
    refine p_asg ?_
    obtain ⟨l36, hb38, hm⟩ := bnd hm
    obtain ⟨hk37, rfl⟩ := rangeO1_ok hb38
    refine ⟨(V.int y_many33), rfl, _, _, rfl, rfl, _, rfl, hk37.1.1, hk37.1.2, fun D39 nD40 => ?_⟩
    have ne41 := ow32.ne nD40
    have nb42 := hB29.nb nD40
    have g43 := g31.own (o := (.lst [])) nD40
    have ow44 := ow32.own (o := (.lst [])) nD40
    have hB45 := hB29.own (o := (.lst [])) nD40
    have ow46 : Ow H0 F26 (upd H27 D39 (.lst [])) D39 [] := Ow.new g31 nD40
    obtain ⟨l47, b48, hb49, hm⟩ := bnd2 hm
    refine lc_range (lo := (0 : Int)) (n := ((y_many33 - (1 : Int))).toNat) (fun i H' => ∃ (F' : Hp) (acc : List V) (ds : List (Int × Int)) (rest : List (Int × Int)) (b : Bag), Gr (Bc B C) F0 H0 F' H' ∧ Same F26 F' ∧ Ow H0 F' H' D39 acc ∧ RL K F' acc ds ∧ acc.length ≤ i ∧ Ow H0 F' H' p1 [(V.int (1 : Int)), (V.int (2 : Int)), (V.int (3 : Int)), (V.int (4 : Int)), (V.int (6 : Int)), (V.int (9 : Int)), (V.int (17 : Int)), (V.int (30 : Int))] ∧ BagAt F' H' B C b ∧ m_l_town_c1  ((rangeL (0 : Int) ((y_many33 - (1 : Int))).toNat).drop i) b = some (rest, b48) ∧ ds ++ rest = l47) ?_ ?_ ?_
    · exact ⟨F26, [], [], l47, b24, g43, Same.refl _, ow46, RpA.nil, Nat.le_refl _, ow44, hB45, hb49, rfl⟩
    · intro i51 H53 hx52 hP
      obtain ⟨F54, acc55, ds56, rest57, b58, g059, sm60, owD61, hA62, hi63, ow064, hB65, hm66, hr67⟩ := hP
      have he69 := rangeL_at (lo := (0 : Int)) hx52
      rw [drop_at he69, m_l_town_c1.eq_2] at hm66
      obtain ⟨r70, b71, hb72, hm66⟩ := bnd2 hm66
      refine ⟨rfl, (V.ref B), rfl, F54, B, C, b58, (4 : Int), r70, b71, rfl, g059.fh, hB65, hb72, fun F73 H74 g75 hB76 => ?_⟩
      have g78 := Gr.trans g059 g75
      have ow79 := ow064.gr g75 nb3
      have ow80 := owD61.gr g75 nb42
      refine ⟨_, _, rfl, rfl, _, rfl, (iteB (fun hc => ?_) (fun hc => ?_))⟩
      · have hc : (decide ((0 : Int) < r70)) = true := hc
        have hm66 := ifT hc hm66
        refine ⟨(V.int ((0 : Int) + ((i51 : Nat) : Int))), rfl, (V.int ((0 : Int) + ((i51 : Nat) : Int))), rfl, _, _, rfl, rfl, (by show 2 ≤ sizeLine; decide), fun p81 np82 => ?_⟩
        have ne83 := ow79.ne np82
        have ne84 := ow80.ne np82
        have nb85 := hB76.nb np82
        have sm86 := same_new (o := (.tup [(V.int ((0 : Int) + ((i51 : Nat) : Int))), (V.int (((0 : Int) + ((i51 : Nat) : Int)) + (1 : Int)))])) (g78.noneF np82)
        have g87 := g78.frz (o := (.tup [(V.int ((0 : Int) + ((i51 : Nat) : Int))), (V.int (((0 : Int) + ((i51 : Nat) : Int)) + (1 : Int)))])) np82
        have ow88 := ow79.frz (o := (.tup [(V.int ((0 : Int) + ((i51 : Nat) : Int))), (V.int (((0 : Int) + ((i51 : Nat) : Int)) + (1 : Int)))])) np82
        have ow89 := ow80.frz (o := (.tup [(V.int ((0 : Int) + ((i51 : Nat) : Int))), (V.int (((0 : Int) + ((i51 : Nat) : Int)) + (1 : Int)))])) np82
        have hB90 := hB76.frz (o := (.tup [(V.int ((0 : Int) + ((i51 : Nat) : Int))), (V.int (((0 : Int) + ((i51 : Nat) : Int)) + (1 : Int)))])) np82
        have r91 : R K (upd F73 p81 (.tup [(V.int ((0 : Int) + ((i51 : Nat) : Int))), (V.int (((0 : Int) + ((i51 : Nat) : Int)) + (1 : Int)))])) (.ref p81) ((((0 : Int) + ((i51 : Nat) : Int)), (((0 : Int) + ((i51 : Nat) : Int)) + (1 : Int))) : (Int × Int)) := R.mk2 fzT (Rp.int ((0 : Int) + ((i51 : Nat) : Int))) (Rp.int (((0 : Int) + ((i51 : Nat) : Int)) + (1 : Int)))
        have hA92 : RL K (upd F73 p81 (.tup [(V.int ((0 : Int) + ((i51 : Nat) : Int))), (V.int (((0 : Int) + ((i51 : Nat) : Int)) + (1 : Int)))])) (acc55 ++ [(V.ref p81)]) (ds56 ++ [((((0 : Int) + ((i51 : Nat) : Int)), (((0 : Int) + ((i51 : Nat) : Int)) + (1 : Int))) : (Int × Int))]) := RL.snoc (hA62.up (Same.trans g75.ff sm86)) r91
        obtain ⟨rest93, b94, h95, h96⟩ := bnd2 hm66
        obtain ⟨rfl, rfl⟩ := pjoin h96
        refine ⟨acc55, ow89.h, (lt_line hi63 hx52 hk37.2), ?_⟩
        have g97 := g87.put (o := (.lst (acc55 ++ [(V.ref p81)]))) ow89
        have ow98 := ow88.other (o := (.lst (acc55 ++ [(V.ref p81)]))) ne41
        have hB99 := hB90.other (o := (.lst (acc55 ++ [(V.ref p81)]))) nb42
        have ow100 := ow89.put (us := (acc55 ++ [(V.ref p81)]))
        exact ⟨(upd F73 p81 (.tup [(V.int ((0 : Int) + ((i51 : Nat) : Int))), (V.int (((0 : Int) + ((i51 : Nat) : Int)) + (1 : Int)))])), (acc55 ++ [(V.ref p81)]), (ds56 ++ [(((0 : Int) + ((i51 : Nat) : Int)), (((0 : Int) + ((i51 : Nat) : Int)) + (1 : Int)))]), rest93, b71, g97, (Same.trans sm60 (Same.trans g75.ff sm86)), ow100, hA92, (by rw [List.length_append]; exact Nat.succ_le_succ hi63), ow98, hB99, h95, (snoc_rest hr67)⟩
      · have hc : (decide ((0 : Int) < r70)) = false := hc
        have hm66 := ifF hc hm66
        exact ⟨F73, acc55, ds56, rest57, b71, g78, (Same.trans sm60 g75.ff), ow80, (hA62.up g75.ff), (Nat.le_succ_of_le hi63), ow79, hB76, hm66, hr67⟩
    intro H101 hP
    obtain ⟨F102, acc103, ds104, _rest, b105, g0106, sm107, owD108, hA109, hi110, ow0111, hB112, hm113, hr114⟩ := hP
    rw [drop_end (rangeL_len _ _).symm] at hm113
    rw [m_l_town_c1.eq_1] at hm113
    obtain ⟨rfl, rfl⟩ := pjoin hm113
    rw [List.append_nil] at hr114
    obtain rfl := hr114
    have hl115 : acc103.length ≤ sizeLine := Nat.le_trans hi110 hk37.2
    refine p_name ?_
    refine p_nx ?_
    refine p_seq ?_
    refine p_asg ?_
    refine ⟨(V.ref B), rfl, (by show 4 ≤ sizeLine; decide), fun p116 np117 => ?_⟩
    have ne118 := ow0111.ne np117
    have ne119 := owD108.ne np117
    have nb120 := hB112.nb np117
    have g121 := g0106.own (o := (.lst [(V.int (1 : Int)), (V.int (2 : Int)), (V.int (4 : Int)), (V.int (8 : Int))])) np117
    have ow122 := ow0111.own (o := (.lst [(V.int (1 : Int)), (V.int (2 : Int)), (V.int (4 : Int)), (V.int (8 : Int))])) np117
    have ow123 := owD108.own (o := (.lst [(V.int (1 : Int)), (V.int (2 : Int)), (V.int (4 : Int)), (V.int (8 : Int))])) np117
    have hB124 := hB112.own (o := (.lst [(V.int (1 : Int)), (V.int (2 : Int)), (V.int (4 : Int)), (V.int (8 : Int))])) np117
    have ow125 : Ow H0 F102 (upd H101 p116 (.lst [(V.int (1 : Int)), (V.int (2 : Int)), (V.int (4 : Int)), (V.int (8 : Int))])) p116 [(V.int (1 : Int)), (V.int (2 : Int)), (V.int (4 : Int)), (V.int (8 : Int))] := Ow.new g0106 np117
    have hA126 : RL K F102 [(V.int (1 : Int)), (V.int (2 : Int)), (V.int (4 : Int)), (V.int (8 : Int))] ([(1 : Int), (2 : Int), (4 : Int), (8 : Int)] : List Int) := (RpA.cons (Rp.int (1 : Int)) (RpA.cons (Rp.int (2 : Int)) (RpA.cons (Rp.int (4 : Int)) (RpA.cons (Rp.int (8 : Int)) RpA.nil))))
    obtain ⟨r127, b128, hb129, hm⟩ := bnd2 hm
    refine ⟨(V.ref B), rfl, F102, B, C, b105, (4 : Int), r127, b128, rfl, g121.fh, hB124, hb129, fun F130 H131 g132 hB133 => ?_⟩
    have g135 := Gr.trans g121 g132
    have ow136 := ow122.gr g132 nb3
    have ow137 := ow123.gr g132 nb42
    have ow138 := ow125.gr g132 nb120
    obtain ⟨t139, hb140, hm⟩ := bnd hm
    obtain ⟨v141, ha142, r143⟩ := RL.at (hA126.up g132.ff) hb140
    obtain rfl := R.int_v r143
    obtain ⟨r144, b145, hb146, hm⟩ := bnd2 hm
    refine ⟨p116, [(V.int (1 : Int)), (V.int (2 : Int)), (V.int (4 : Int)), (V.int (8 : Int))], _, (V.int t139), rfl, rfl, ow138.sq, ha142, F130, B, C, b128, t139, r144, b145, rfl, g135.fh, hB133, hb146, fun F147 H148 g149 hB150 => ?_⟩
    have g152 := Gr.trans g135 g149
    have ow153 := ow136.gr g149 nb3
    have ow154 := ow137.gr g149 nb42
    have ow155 := ow138.gr g149 nb120
    refine ⟨_, _, rfl, rfl, ?_⟩
    obtain ⟨y_gates_here156, hb157, hm⟩ := bnd hm
    have hx158 : ((1 : Int) + r144) = y_gates_here156 := sjoin hb157
    refine p_nm (v' := (V.int y_gates_here156)) (congrArg V.int hx158) ?_
    refine p_nx ?_
    refine p_ret ?_
    obtain ⟨l159, hb161, hm⟩ := bnd hm
    obtain ⟨hk160, rfl⟩ := rangeO1_ok hb161
    refine ⟨(V.int t18), rfl, (V.int y_many33), rfl, (V.ref D39), rfl, (V.int y_gates_here156), rfl, _, rfl, hk160.1.1, hk160.1.2, fun D162 nD163 => ?_⟩
    have ne164 := ow153.ne nD163
    have ne165 := ow154.ne nD163
    have ne166 := ow155.ne nD163
    have nb167 := hB150.nb nD163
    have g168 := g152.own (o := (.lst [])) nD163
    have ow169 := ow153.own (o := (.lst [])) nD163
    have ow170 := ow154.own (o := (.lst [])) nD163
    have ow171 := ow155.own (o := (.lst [])) nD163
    have hB172 := hB150.own (o := (.lst [])) nD163
    have ow173 : Ow H0 F147 (upd H148 D162 (.lst [])) D162 [] := Ow.new g152 nD163
    obtain ⟨l174, b175, hb176, hm⟩ := bnd2 hm
    refine lc_range (lo := (0 : Int)) (n := (y_gates_here156).toNat) (fun i H' => ∃ (F' : Hp) (acc : List V) (ds : List Int) (rest : List Int) (b : Bag), Gr (Bc B C) F0 H0 F' H' ∧ Same F147 F' ∧ Ow H0 F' H' D162 acc ∧ RL K F' acc ds ∧ acc.length ≤ i ∧ Ow H0 F' H' p1 [(V.int (1 : Int)), (V.int (2 : Int)), (V.int (3 : Int)), (V.int (4 : Int)), (V.int (6 : Int)), (V.int (9 : Int)), (V.int (17 : Int)), (V.int (30 : Int))] ∧ Ow H0 F' H' D39 acc103 ∧ Ow H0 F' H' p116 [(V.int (1 : Int)), (V.int (2 : Int)), (V.int (4 : Int)), (V.int (8 : Int))] ∧ BagAt F' H' B C b ∧ m_l_town_c2 y_many33 ((rangeL (0 : Int) (y_gates_here156).toNat).drop i) b = some (rest, b175) ∧ ds ++ rest = l174) ?_ ?_ ?_
    · exact ⟨F147, [], [], l174, b145, g168, Same.refl _, ow173, RpA.nil, Nat.le_refl _, ow169, ow170, ow171, hB172, hb176, rfl⟩
    · intro i178 H180 hx179 hP
      obtain ⟨F181, acc182, ds183, rest184, b185, g0186, sm187, owD188, hA189, hi190, ow0191, ow1192, ow2193, hB194, hm195, hr196⟩ := hP
      have he198 := rangeL_at (lo := (0 : Int)) hx179
      rw [drop_at he198, m_l_town_c2.eq_2] at hm195
      refine ⟨rfl, (p_yes ?_)⟩
      obtain ⟨r199, b200, hb201, hm195⟩ := bnd2 hm195
      refine ⟨(V.ref B), rfl, (V.int y_many33), rfl, F181, B, C, b185, y_many33, r199, b200, rfl, g0186.fh, hB194, hb201, fun F202 H203 g204 hB205 => ?_⟩
      have g207 := Gr.trans g0186 g204
      have ow208 := ow0191.gr g204 nb3
      have ow209 := ow1192.gr g204 nb42
      have ow210 := ow2193.gr g204 nb120
      have ow211 := owD188.gr g204 nb167
      have hA212 : RL K F202 (acc182 ++ [(V.int r199)]) (ds183 ++ [(r199 : Int)]) := RL.snoc (hA189.up g204.ff) (Rp.int r199)
      obtain ⟨rest213, b214, h215, h216⟩ := bnd2 hm195
      obtain ⟨rfl, rfl⟩ := pjoin h216
      refine ⟨acc182, ow211.h, (lt_line hi190 hx179 hk160.2), ?_⟩
      have g217 := g207.put (o := (.lst (acc182 ++ [(V.int r199)]))) ow211
      have ow218 := ow208.other (o := (.lst (acc182 ++ [(V.int r199)]))) ne164
      have ow219 := ow209.other (o := (.lst (acc182 ++ [(V.int r199)]))) ne165
      have ow220 := ow210.other (o := (.lst (acc182 ++ [(V.int r199)]))) ne166
      have hB221 := hB205.other (o := (.lst (acc182 ++ [(V.int r199)]))) nb167
      have ow222 := ow211.put (us := (acc182 ++ [(V.int r199)]))
      exact ⟨F202, (acc182 ++ [(V.int r199)]), (ds183 ++ [r199]), rest213, b200, g217, (Same.trans sm187 g204.ff), ow222, hA212, (by rw [List.length_append]; exact Nat.succ_le_succ hi190), ow218, ow219, ow220, hB221, h215, (snoc_rest hr196)⟩
    intro H223 hP
    obtain ⟨F224, acc225, ds226, _rest, b227, g0228, sm229, owD230, hA231, hi232, ow0233, ow1234, ow2235, hB236, hm237, hr238⟩ := hP
    rw [drop_end (rangeL_len _ _).symm] at hm237
    rw [m_l_town_c2.eq_1] at hm237
    obtain ⟨rfl, rfl⟩ := pjoin hm237
    rw [List.append_nil] at hr238
    obtain rfl := hr238
    have hl239 : acc225.length ≤ sizeLine := Nat.le_trans hi232 hk160.2
    have sm240 := ow1234.sf
    have g241 := g0228.fz ow1234
    have ow242 : Ow H0 (upd F224 D39 (.lst acc103)) H223 p1 [(V.int (1 : Int)), (V.int (2 : Int)), (V.int (3 : Int)), (V.int (4 : Int)), (V.int (6 : Int)), (V.int (9 : Int)), (V.int (17 : Int)), (V.int (30 : Int))] := ow0233.fz ne41
    have ow243 : Ow H0 (upd F224 D39 (.lst acc103)) H223 p116 [(V.int (1 : Int)), (V.int (2 : Int)), (V.int (4 : Int)), (V.int (8 : Int))] := ow2235.fz (Ne.symm ne119)
    have ow244 : Ow H0 (upd F224 D39 (.lst acc103)) H223 D162 acc225 := owD230.fz (Ne.symm ne165)
    have hB245 : BagAt (upd F224 D39 (.lst acc103)) H223 B C b227 := hB236.fz nb42
    have r246 : R K (upd F224 D39 (.lst acc103)) (.ref D39) ds104 := R.mkl fzS hl115 (RpA.up (hA109.up (Same.trans g132.ff (Same.trans g149.ff sm229))) sm240)
    have sm247 := ow244.sf
    have g248 := g241.fz ow244
    have ow249 : Ow H0 (upd (upd F224 D39 (.lst acc103)) D162 (.lst acc225)) H223 p1 [(V.int (1 : Int)), (V.int (2 : Int)), (V.int (3 : Int)), (V.int (4 : Int)), (V.int (6 : Int)), (V.int (9 : Int)), (V.int (17 : Int)), (V.int (30 : Int))] := ow242.fz ne164
    have ow250 : Ow H0 (upd (upd F224 D39 (.lst acc103)) D162 (.lst acc225)) H223 p116 [(V.int (1 : Int)), (V.int (2 : Int)), (V.int (4 : Int)), (V.int (8 : Int))] := ow243.fz ne166
    have hB251 : BagAt (upd (upd F224 D39 (.lst acc103)) D162 (.lst acc225)) H223 B C b227 := hB245.fz nb167
    have r252 : R K (upd (upd F224 D39 (.lst acc103)) D162 (.lst acc225)) (.ref D162) ds226 := R.mkl fzS hl239 (RpA.up (hA231.up sm240) sm247)
    refine ⟨(by show 4 ≤ sizeLine; decide), fun p253 np254 => ?_⟩
    have ne255 := ow249.ne np254
    have ne256 := ow250.ne np254
    have nb257 := hB251.nb np254
    have sm258 := same_new (o := (.tup [(V.int t18), (V.int y_many33), (V.ref D39), (V.ref D162)])) (g248.noneF np254)
    have g259 := g248.frz (o := (.tup [(V.int t18), (V.int y_many33), (V.ref D39), (V.ref D162)])) np254
    have ow260 := ow249.frz (o := (.tup [(V.int t18), (V.int y_many33), (V.ref D39), (V.ref D162)])) np254
    have ow261 := ow250.frz (o := (.tup [(V.int t18), (V.int y_many33), (V.ref D39), (V.ref D162)])) np254
    have hB262 := hB251.frz (o := (.tup [(V.int t18), (V.int y_many33), (V.ref D39), (V.ref D162)])) np254
    have r263 : R K (upd (upd (upd F224 D39 (.lst acc103)) D162 (.lst acc225)) p253 (.tup [(V.int t18), (V.int y_many33), (V.ref D39), (V.ref D162)])) (.ref p253) ((T4.mk t18 y_many33 ds104 ds226) : (T4 Int Int (List (Int × Int)) (List Int))) := R.mk4 fzT (Rp.int t18) (Rp.int y_many33) (r246.up (Same.trans sm247 sm258)) (r252.up sm258)
    obtain ⟨rfl, rfl⟩ := pjoin hm
    exact (hQ _ _ _ g259 hB262 r263)
end K13
namespace K13
open PySem PySem.Spec PyProof.Rows L2 TL G
theorem ok_l_names {P : Program} {w : World} {K : PySem.W.Frag} {mg : Str → Option Value} {base : Heap} (T : Txt K mg) : FnOk P w K mg base CX0 3 T.a_l_names T.d_l_names ["_law_bag_here"] (sp_l_names K) := by
  have G_l_draw : FnOk P w K mg base CX0 2 T.a_l_draw T.d_l_draw ["_law_bag_here", "_law_many"] (sp_l_draw K) := ok_l_draw T
  have b_l_draw := T.F_l_draw.bindsN (ps := ["_law_bag_here", "_law_many"]) fun _ _ _ _ _ _ us hl => match us, hl with | [_, _], _ => rfl
  refine fd_ok T.F_l_names sc_l_names (fun vs H Q E h => ?_) (fun cdv A outer s H0 vs Q E hr h => ?_)
  · obtain ⟨_, _, _, _, _, _, rfl, _⟩ := h
    rfl
  · obtain ⟨F0, B, C, b, r, b', rfl, hS0, hB, hm, hQ⟩ := h
    refine ⟨_, (pss_cons (ps_set (i := 1) sc_l_names.nd rfl (.inr rfl) pe_str) (pss_cons (ps_set (i := 2) sc_l_names.nd rfl (.inl rfl) (pe_lst (pa_cons pe_str (pa_cons pe_str (pa_cons pe_str (pa_cons pe_str (pa_cons pe_str (pa_cons pe_str (pa_cons pe_str (pa_cons pe_str pa_nil)))))))))) (pss_cons (ps_set (i := 3) sc_l_names.nd rfl (.inl rfl) (pe_joinK (K := K) pe_str (pe_lc (own := [("_law_k", 5)]) rfl sc_l_names.nd (pi_range1 (by rfl) T.n_range (pa_cons pe_int pa_nil)) (blkOk_by (own := [("_law_k", 5)]) (N := N_l_names) (sc := defScope s_l_names) (by decide +kernel)) (fun _ _ _ _ _ => (pg_name (i := 5) sc_l_names.nd rfl (Or.inl rfl) (.inr rfl))) (fun _ _ _ _ _ => pts_nil) (fun _ _ _ _ _ => (pe_ix ix_str (pv 1) (pe_call G_l_draw (hr.mono (by decide)) (by rfl) T.g_l_draw T.F_l_draw.kp b_l_draw .nil pass0 (pa_cons (pv 0) (pa_cons pe_int pa_nil))) (fun _ _ => rfl)))))) (pss_cons (ps_set (i := 4) sc_l_names.nd rfl (.inr rfl) (pe_lst pa_nil)) (pss_cons (ps_for PassesOwn.never rfl (pi_range1 (by rfl) T.n_range (pa_cons pe_int pa_nil)) (pg_name (i := 5) sc_l_names.nd rfl (Or.inl rfl)) (pss_cons (ps_set (i := 6) sc_l_names.nd rfl (.inl rfl) (pe_joinK (K := K) pe_str (pe_lc (own := [("_law_j", 10)]) rfl sc_l_names.nd (pi_range1 (by rfl) T.n_range (pa_cons (pe_op op_add pe_int (pe_call G_l_draw (hr.mono (by decide)) (by rfl) T.g_l_draw T.F_l_draw.kp b_l_draw .nil pass0 (pa_cons (pv 0) (pa_cons pe_int pa_nil)))) pa_nil)) (blkOk_by (own := [("_law_j", 10)]) (N := N_l_names) (sc := defScope s_l_names) (by decide +kernel)) (fun _ _ _ _ _ => (pg_name (i := 10) sc_l_names.nd rfl (Or.inl rfl) (.inr rfl))) (fun _ _ _ _ _ => pts_nil) (fun _ _ _ _ _ => (pe_ix ix_str (pv 1) (pe_call G_l_draw (hr.mono (by decide)) (by rfl) T.g_l_draw T.F_l_draw.kp b_l_draw .nil pass0 (pa_cons (pv 0) (pa_cons pe_int pa_nil))) (fun _ _ => rfl)))))) (pss_cons (ps_set (i := 7) sc_l_names.nd rfl (.inl rfl) (pe_ix (ix_listK (K := K)) (pe_lst (pa_cons (pv 6) (pa_cons (pe_op op_add_str (pe_slice sl_str (pv 3) po_none (po_some pe_int)) (pe_ix ix_str (pv 1) (pv 5) (fun _ _ => rfl))) (pa_cons (pe_slice sl_str (pv 3) po_none (po_some (pe_op op_add pe_int (pe_op op_mod (pv 5) pe_int)))) (pa_cons (pe_ix (ix_listK (K := K)) (pv 2) (pe_op op_mod (pv 5) pe_int) (fun _ _ => rfl)) pa_nil))))) (pe_call G_l_draw (hr.mono (by decide)) (by rfl) T.g_l_draw T.F_l_draw.kp b_l_draw .nil pass0 (pa_cons (pv 0) (pa_cons pe_int pa_nil))) (fun _ _ => rfl))) (pss_cons (ps_setLc (i := 8) (own := [("_law_name", 9)]) rfl sc_l_names.nd rfl rfl (sw_true rfl rfl rfl (by decide +kernel)) (pi_listK (K := K) (pe_op (op_catLK (K := K)) (pe_lst (pa_cons (pv 7) pa_nil)) (pe_lc (own := [("_law_sign", 11)]) rfl sc_l_names.nd (pi_str (pv 1)) (blkOk_by (own := [("_law_sign", 11)]) (N := N_l_names) (sc := defScope s_l_names) (by decide +kernel)) (fun _ _ _ _ _ => (pg_name (i := 11) sc_l_names.nd rfl (Or.inl rfl) (.inr rfl))) (fun _ _ _ _ _ => pts_nil) (fun _ _ _ _ _ => (pe_op op_add_str (pv 11) pe_str))))) (blkOk_by (own := [("_law_name", 9)]) (N := N_l_names) (sc := defScope s_l_names) (by decide +kernel)) (fun _ _ _ _ _ => (pg_name (i := 9) sc_l_names.nd rfl (Or.inl rfl) (.inr rfl))) (fun _ _ _ _ _ => (pts_one (pt_cmpR (op_notInDK (K := K) (units65 hr)) (pv 9) (pv 4) rfl))) (fun _ _ _ _ _ => (pv 9))) (pss_one (ps_expr (pe_bmK (K := K) PySem.F.plainAttrs_list PySem.F.slot_list_append PySem.F.type_list_append mt_append (pv 4) (pa_cons (pe_ix (ix_listK (K := K)) (pv 8) pe_int (fun _ _ => rfl)) pa_nil)))))))) (pss_one (ps_ret (pv 4)))))))), ?_⟩
    have g0 : Gr (Bc B C) F0 H0 F0 H0 := Gr.refl hS0
    unfold m_l_names at hm
    refine p_seq ?_
    refine p_asg ?_
    obtain ⟨y_letters1, hb2, hm⟩ := bnd hm
    have hx3 : ("abcdefghijklmnopqrstuvwxyz" : Str) = y_letters1 := sjoin hb2
    have gs4 : GS y_letters1 := hx3 ▸ (⟨by decide +kernel, by decide +kernel⟩ : GS ("abcdefghijklmnopqrstuvwxyz" : Str))
    refine p_nm (v' := (V.str y_letters1)) (congrArg V.str hx3) ?_
    refine p_nx ?_
    refine p_seq ?_
    refine p_asg ?_
    refine ⟨(by show 8 ≤ sizeLine; decide), fun p5 np6 => ?_⟩
    have nb7 := hB.nb np6
    have g8 := g0.own (o := (.lst [(V.str ("let" : Str)), (V.str ("bar" : Str)), (V.str ("from" : Str)), (V.str ("any" : Str)), (V.str ("to" : Str)), (V.str ("by" : Str)), (V.str ("past" : Str)), (V.str ("within" : Str))])) np6
    have hB9 := hB.own (o := (.lst [(V.str ("let" : Str)), (V.str ("bar" : Str)), (V.str ("from" : Str)), (V.str ("any" : Str)), (V.str ("to" : Str)), (V.str ("by" : Str)), (V.str ("past" : Str)), (V.str ("within" : Str))])) np6
    have ow10 : Ow H0 F0 (upd H0 p5 (.lst [(V.str ("let" : Str)), (V.str ("bar" : Str)), (V.str ("from" : Str)), (V.str ("any" : Str)), (V.str ("to" : Str)), (V.str ("by" : Str)), (V.str ("past" : Str)), (V.str ("within" : Str))])) p5 [(V.str ("let" : Str)), (V.str ("bar" : Str)), (V.str ("from" : Str)), (V.str ("any" : Str)), (V.str ("to" : Str)), (V.str ("by" : Str)), (V.str ("past" : Str)), (V.str ("within" : Str))] := Ow.new g0 np6
    have hA11 : RL K F0 [(V.str ("let" : Str)), (V.str ("bar" : Str)), (V.str ("from" : Str)), (V.str ("any" : Str)), (V.str ("to" : Str)), (V.str ("by" : Str)), (V.str ("past" : Str)), (V.str ("within" : Str))] ([("let" : Str), ("bar" : Str), ("from" : Str), ("any" : Str), ("to" : Str), ("by" : Str), ("past" : Str), ("within" : Str)] : List Str) := (RpA.cons (Rp.str ("let" : Str) ⟨by decide +kernel, by decide +kernel⟩) (RpA.cons (Rp.str ("bar" : Str) ⟨by decide +kernel, by decide +kernel⟩) (RpA.cons (Rp.str ("from" : Str) ⟨by decide +kernel, by decide +kernel⟩) (RpA.cons (Rp.str ("any" : Str) ⟨by decide +kernel, by decide +kernel⟩) (RpA.cons (Rp.str ("to" : Str) ⟨by decide +kernel, by decide +kernel⟩) (RpA.cons (Rp.str ("by" : Str) ⟨by decide +kernel, by decide +kernel⟩) (RpA.cons (Rp.str ("past" : Str) ⟨by decide +kernel, by decide +kernel⟩) (RpA.cons (Rp.str ("within" : Str) ⟨by decide +kernel, by decide +kernel⟩) RpA.nil))))))))
    obtain ⟨y_kept12, hb13, hm⟩ := bnd hm
    have hx14 : ([("let" : Str), ("bar" : Str), ("from" : Str), ("any" : Str), ("to" : Str), ("by" : Str), ("past" : Str), ("within" : Str)] : List Str) = y_kept12 := sjoin hb13
    have hA15 : RL K F0 [(V.str ("let" : Str)), (V.str ("bar" : Str)), (V.str ("from" : Str)), (V.str ("any" : Str)), (V.str ("to" : Str)), (V.str ("by" : Str)), (V.str ("past" : Str)), (V.str ("within" : Str))] y_kept12 := RL.re hx14 hA11
    refine p_name ?_
    refine p_nx ?_
    refine p_seq ?_
    refine p_asg ?_
    refine ⟨⟨_, rfl⟩, _, rfl, (by decide), (by decide), fun D16 nD17 => ?_⟩
    have ne18 := ow10.ne nD17
    have nb19 := hB9.nb nD17
    have g20 := g8.own (o := (.lst [])) nD17
    have ow21 := ow10.own (o := (.lst [])) nD17
    have hB22 := hB9.own (o := (.lst [])) nD17
    have ow23 : Ow H0 F0 (upd (upd H0 p5 (.lst [(V.str ("let" : Str)), (V.str ("bar" : Str)), (V.str ("from" : Str)), (V.str ("any" : Str)), (V.str ("to" : Str)), (V.str ("by" : Str)), (V.str ("past" : Str)), (V.str ("within" : Str))])) D16 (.lst [])) D16 [] := Ow.new g8 nD17
    obtain ⟨l24, b25, hb26, hm⟩ := bnd2 hm
    refine lc_range (lo := (0 : Int)) (n := (8 : Nat)) (fun i H' => ∃ (F' : Hp) (acc : List V) (ds : List Str) (rest : List Str) (b : Bag), Gr (Bc B C) F0 H0 F' H' ∧ Same F0 F' ∧ Ow H0 F' H' D16 acc ∧ RL K F' acc ds ∧ acc.length ≤ i ∧ Ow H0 F' H' p5 [(V.str ("let" : Str)), (V.str ("bar" : Str)), (V.str ("from" : Str)), (V.str ("any" : Str)), (V.str ("to" : Str)), (V.str ("by" : Str)), (V.str ("past" : Str)), (V.str ("within" : Str))] ∧ BagAt F' H' B C b ∧ m_l_names_c1 y_letters1 ((rangeL (0 : Int) 8).drop i) b = some (rest, b25) ∧ ds ++ rest = l24) ?_ ?_ ?_
    · exact ⟨F0, [], [], l24, b, g20, Same.refl _, ow23, RpA.nil, Nat.le_refl _, ow21, hB22, hb26, rfl⟩
    · intro i28 H30 hx29 hP
      obtain ⟨F31, acc32, ds33, rest34, b35, g036, sm37, owD38, hA39, hi40, ow041, hB42, hm43, hr44⟩ := hP
      have he46 := rangeL_at (lo := (0 : Int)) hx29
      rw [drop_at he46, m_l_names_c1.eq_2] at hm43
      refine ⟨rfl, (p_yes ?_)⟩
      obtain ⟨r47, b48, hb49, hm43⟩ := bnd2 hm43
      refine ⟨(V.str y_letters1), rfl, (V.ref B), rfl, F31, B, C, b35, (26 : Int), r47, b48, rfl, g036.fh, hB42, hb49, fun F50 H51 g52 hB53 => ?_⟩
      have g55 := Gr.trans g036 g52
      have ow56 := ow041.gr g52 nb7
      have ow57 := owD38.gr g52 nb19
      obtain ⟨c58, hb59, hm43⟩ := bnd hm43
      have hA60 : RL K F50 (acc32 ++ [(V.str (sgn c58))]) (ds33 ++ [((sgn c58) : Str)]) := RL.snoc (hA39.up g52.ff) (Rp.str (sgn c58) (GS.sg gs4 (codeAt_mem hb59)))
      obtain ⟨rest61, b62, h63, h64⟩ := bnd2 hm43
      obtain ⟨rfl, rfl⟩ := pjoin h64
      refine ⟨_, _, c58, rfl, rfl, (gs4 : GS y_letters1).len, hb59, acc32, ow57.h, (lt_line hi40 hx29 (by decide : (8 : Nat) ≤ sizeLine)), ?_⟩
      have g65 := g55.put (o := (.lst (acc32 ++ [(V.str (sgn c58))]))) ow57
      have ow66 := ow56.other (o := (.lst (acc32 ++ [(V.str (sgn c58))]))) ne18
      have hB67 := hB53.other (o := (.lst (acc32 ++ [(V.str (sgn c58))]))) nb19
      have ow68 := ow57.put (us := (acc32 ++ [(V.str (sgn c58))]))
      exact ⟨F50, (acc32 ++ [(V.str (sgn c58))]), (ds33 ++ [(sgn c58)]), rest61, b48, g65, (Same.trans sm37 g52.ff), ow68, hA60, (by rw [List.length_append]; exact Nat.succ_le_succ hi40), ow66, hB67, h63, (snoc_rest hr44)⟩
    intro H69 hP
    obtain ⟨F70, acc71, ds72, _rest, b73, g074, sm75, owD76, hA77, hi78, ow079, hB80, hm81, hr82⟩ := hP
    rw [drop_end (rangeL_len _ _).symm] at hm81
    rw [m_l_names_c1.eq_1] at hm81
    obtain ⟨rfl, rfl⟩ := pjoin hm81
    rw [List.append_nil] at hr82
    obtain rfl := hr82
    have hl83 : acc71.length ≤ sizeLine := Nat.le_trans hi78 (by decide : (8 : Nat) ≤ sizeLine)
    obtain ⟨t84, hb85, hm⟩ := bnd hm
    obtain ⟨hk86, rfl⟩ := joinS_ok hb85
    refine ⟨_, D16, ds72, rfl, rfl, (.inl (by rw [← (RL.strs hA77).1]; exact owD76.sq)), hk86, ?_⟩
    obtain ⟨y_base87, hx88⟩ : ∃ z_, (Txt.join ("" : Str) ds72) = z_ := ⟨_, rfl⟩
    try rw [hx88] at hm
    have gs89 : GS y_base87 := hx88 ▸ ((GS.join ⟨by decide +kernel, by decide +kernel⟩ (RL.strs hA77).2 hb85) : GS (Txt.join ("" : Str) ds72))
    refine p_nm (v' := (V.str y_base87)) (congrArg V.str hx88) ?_
    refine p_nx ?_
    refine p_seq ?_
    refine p_asg ?_
    refine ⟨(by show 0 ≤ sizeLine; decide), fun p90 np91 => ?_⟩
    have ne92 := ow079.ne np91
    have ne93 := owD76.ne np91
    have nb94 := hB80.nb np91
    have g95 := g074.own (o := (.lst [])) np91
    have ow96 := ow079.own (o := (.lst [])) np91
    have ow97 := owD76.own (o := (.lst [])) np91
    have hB98 := hB80.own (o := (.lst [])) np91
    have ow99 : Ow H0 F70 (upd H69 p90 (.lst [])) p90 [] := Ow.new g074 np91
    have hA100 : RL K F70 [] ([] : List Str) := RpA.nil
    refine p_name ?_
    refine p_nx ?_
    refine p_seq ?_
    refine p_for ?_
    refine ⟨_, rfl, (by decide), (by decide), ?_⟩
    obtain ⟨y_found101, b102, ht103, hm⟩ := bnd2 hm
    refine for_range (lo := (0 : Int)) (n := (16 : Nat)) (fun i σ' H' => ∃ (F' : Hp) (o_y_k : Option V) (o_y_one : Option V) (o_y_start : Option V) (o_y_left : Option V) (y_found : (List Str)) (ws_y_found : List V) (b : Bag), σ' = [(some (V.ref B)), (some (V.str y_letters1)), (some (V.ref p5)), (some (V.str y_base87)), (some (V.ref p90)), o_y_k, o_y_one, o_y_start, o_y_left, none, none, none] ∧ Gr (Bc B C) F0 H0 F' H' ∧ Same F70 F' ∧ Ow H0 F' H' p90 ws_y_found ∧ ws_y_found.length ≤ sizeLine ∧ RL K F' ws_y_found y_found ∧ Ow H0 F' H' p5 [(V.str ("let" : Str)), (V.str ("bar" : Str)), (V.str ("from" : Str)), (V.str ("any" : Str)), (V.str ("to" : Str)), (V.str ("by" : Str)), (V.str ("past" : Str)), (V.str ("within" : Str))] ∧ BagAt F' H' B C b ∧ m_l_names_l2 y_letters1 y_kept12 y_base87 ((rangeL (0 : Int) 16).drop i) y_found b = some (y_found101, b102)) ?_ ?_ ?_
    · exact ⟨F70, none, none, none, none, ([] : List Str), [], b73, rfl, g95, (Same.refl _), ow99, (by show 0 ≤ sizeLine; decide), hA100, ow96, hB98, ht103⟩
    · intro i104 σ' H106 hx105 hP
      obtain ⟨F108, o_y_k109, o_y_one110, o_y_start111, o_y_left112, y_found113, ws_y_found114, b115, rfl, g116, sm117, ow_y_found118, hl_y_found119, hA_y_found120, owk0121, hB122, hm123⟩ := hP
      have he125 := rangeL_at (lo := (0 : Int)) hx105
      rw [drop_at he125, m_l_names_l2.eq_2] at hm123
      refine p_name ?_
      refine p_seq ?_
      refine p_asg ?_
      obtain ⟨r126, b127, hb128, hm123⟩ := bnd2 hm123
      refine ⟨⟨_, rfl⟩, (V.ref B), rfl, F108, B, C, b115, (8 : Int), r126, b127, rfl, g116.fh, hB122, hb128, fun F129 H130 g131 hB132 => ?_⟩
      have g134 := Gr.trans g116 g131
      have ow135 := owk0121.gr g131 nb7
      have ow136 := ow_y_found118.gr g131 nb94
      obtain ⟨l137, hb139, hm123⟩ := bnd hm123
      obtain ⟨hk138, rfl⟩ := rangeO1_ok hb139
      refine ⟨_, _, rfl, rfl, _, rfl, hk138.1.1, hk138.1.2, fun D140 nD141 => ?_⟩
      have ne142 := ow135.ne nD141
      have ne143 := ow136.ne nD141
      have nb144 := hB132.nb nD141
      have g145 := g134.own (o := (.lst [])) nD141
      have ow146 := ow135.own (o := (.lst [])) nD141
      have ow147 := ow136.own (o := (.lst [])) nD141
      have hB148 := hB132.own (o := (.lst [])) nD141
      have ow149 : Ow H0 F129 (upd H130 D140 (.lst [])) D140 [] := Ow.new g134 nD141
      obtain ⟨l150, b151, hb152, hm123⟩ := bnd2 hm123
      refine lc_range (lo := (0 : Int)) (n := (((1 : Int) + r126)).toNat) (fun i H' => ∃ (F' : Hp) (acc : List V) (ds : List Str) (rest : List Str) (b : Bag), Gr (Bc B C) F0 H0 F' H' ∧ Same F129 F' ∧ Ow H0 F' H' D140 acc ∧ RL K F' acc ds ∧ acc.length ≤ i ∧ Ow H0 F' H' p5 [(V.str ("let" : Str)), (V.str ("bar" : Str)), (V.str ("from" : Str)), (V.str ("any" : Str)), (V.str ("to" : Str)), (V.str ("by" : Str)), (V.str ("past" : Str)), (V.str ("within" : Str))] ∧ Ow H0 F' H' p90 ws_y_found114 ∧ BagAt F' H' B C b ∧ m_l_names_c3 y_letters1 ((rangeL (0 : Int) (((1 : Int) + r126)).toNat).drop i) b = some (rest, b151) ∧ ds ++ rest = l150) ?_ ?_ ?_
      · exact ⟨F129, [], [], l150, b127, g145, Same.refl _, ow149, RpA.nil, Nat.le_refl _, ow146, ow147, hB148, hb152, rfl⟩
      · intro i154 H156 hx155 hP
        obtain ⟨F157, acc158, ds159, rest160, b161, g0162, sm163, owD164, hA165, hi166, ow0167, ow1168, hB169, hm170, hr171⟩ := hP
        have he173 := rangeL_at (lo := (0 : Int)) hx155
        rw [drop_at he173, m_l_names_c3.eq_2] at hm170
        refine ⟨rfl, (p_yes ?_)⟩
        obtain ⟨r174, b175, hb176, hm170⟩ := bnd2 hm170
        refine ⟨(V.str y_letters1), rfl, (V.ref B), rfl, F157, B, C, b161, (26 : Int), r174, b175, rfl, g0162.fh, hB169, hb176, fun F177 H178 g179 hB180 => ?_⟩
        have g182 := Gr.trans g0162 g179
        have ow183 := ow0167.gr g179 nb7
        have ow184 := ow1168.gr g179 nb94
        have ow185 := owD164.gr g179 nb144
        obtain ⟨c186, hb187, hm170⟩ := bnd hm170
        have hA188 : RL K F177 (acc158 ++ [(V.str (sgn c186))]) (ds159 ++ [((sgn c186) : Str)]) := RL.snoc (hA165.up g179.ff) (Rp.str (sgn c186) (GS.sg gs4 (codeAt_mem hb187)))
        obtain ⟨rest189, b190, h191, h192⟩ := bnd2 hm170
        obtain ⟨rfl, rfl⟩ := pjoin h192
        refine ⟨_, _, c186, rfl, rfl, (gs4 : GS y_letters1).len, hb187, acc158, ow185.h, (lt_line hi166 hx155 hk138.2), ?_⟩
        have g193 := g182.put (o := (.lst (acc158 ++ [(V.str (sgn c186))]))) ow185
        have ow194 := ow183.other (o := (.lst (acc158 ++ [(V.str (sgn c186))]))) ne142
        have ow195 := ow184.other (o := (.lst (acc158 ++ [(V.str (sgn c186))]))) ne143
        have hB196 := hB180.other (o := (.lst (acc158 ++ [(V.str (sgn c186))]))) nb144
        have ow197 := ow185.put (us := (acc158 ++ [(V.str (sgn c186))]))
        exact ⟨F177, (acc158 ++ [(V.str (sgn c186))]), (ds159 ++ [(sgn c186)]), rest189, b175, g193, (Same.trans sm163 g179.ff), ow197, hA188, (by rw [List.length_append]; exact Nat.succ_le_succ hi166), ow194, ow195, hB196, h191, (snoc_rest hr171)⟩
      intro H198 hP
      obtain ⟨F199, acc200, ds201, _rest, b202, g0203, sm204, owD205, hA206, hi207, ow0208, ow1209, hB210, hm211, hr212⟩ := hP
      rw [drop_end (rangeL_len _ _).symm] at hm211
      rw [m_l_names_c3.eq_1] at hm211
      obtain ⟨rfl, rfl⟩ := pjoin hm211
      rw [List.append_nil] at hr212
      obtain rfl := hr212
      have hl213 : acc200.length ≤ sizeLine := Nat.le_trans hi207 hk138.2
      obtain ⟨t214, hb215, hm123⟩ := bnd hm123
      obtain ⟨hk216, rfl⟩ := joinS_ok hb215
      refine ⟨_, D140, ds201, rfl, rfl, (.inl (by rw [← (RL.strs hA206).1]; exact owD205.sq)), hk216, ?_⟩
      obtain ⟨y_one217, hx218⟩ : ∃ z_, (Txt.join ("" : Str) ds201) = z_ := ⟨_, rfl⟩
      try rw [hx218] at hm123
      have gs219 : GS y_one217 := hx218 ▸ ((GS.join ⟨by decide +kernel, by decide +kernel⟩ (RL.strs hA206).2 hb215) : GS (Txt.join ("" : Str) ds201))
      refine p_nm (v' := (V.str y_one217)) (congrArg V.str hx218) ?_
      refine p_nx ?_
      refine p_seq ?_
      refine p_asg ?_
      obtain ⟨c220, hb221, hm123⟩ := bnd hm123
      obtain ⟨t222, hb223, hm123⟩ := bnd hm123
      obtain ⟨hk224, rfl⟩ := catS_ok hb223
      obtain ⟨t225, hb226, hm123⟩ := bnd hm123
      obtain ⟨v227, ha228, r229⟩ := RL.at (hA15.up (Same.trans sm75 (Same.trans sm117 (Same.trans g131.ff sm204)))) hb226
      obtain ⟨rfl, gs230⟩ := R.str_v r229
      refine ⟨(V.str y_one217), rfl, (V.str y_base87), rfl, _, rfl, _, rfl, (gs89 : GS y_base87).len, (V.str y_letters1), rfl, (V.int ((0 : Int) + ((i104 : Nat) : Int))), rfl, _, _, c220, rfl, rfl, (gs4 : GS y_letters1).len, hb221, _, _, rfl, rfl, hk224, (V.str y_base87), rfl, (V.int ((0 : Int) + ((i104 : Nat) : Int))), rfl, _, _, rfl, rfl, (show (0 : Int) < 8 by decide), _, _, rfl, rfl, _, rfl, _, rfl, (gs89 : GS y_base87).len, (V.ref p5), rfl, (V.int ((0 : Int) + ((i104 : Nat) : Int))), rfl, _, _, rfl, rfl, (show (0 : Int) < 8 by decide), p5, [(V.str ("let" : Str)), (V.str ("bar" : Str)), (V.str ("from" : Str)), (V.str ("any" : Str)), (V.str ("to" : Str)), (V.str ("by" : Str)), (V.str ("past" : Str)), (V.str ("within" : Str))], _, (V.str t225), rfl, rfl, ow0208.sq, ha228, (by show 4 ≤ sizeLine; decide), fun p231 np232 => ?_⟩
      have ne233 := ow0208.ne np232
      have ne234 := ow1209.ne np232
      have ne235 := owD205.ne np232
      have nb236 := hB210.nb np232
      have g237 := g0203.own (o := (.lst [(V.str y_one217), (V.str ((cutS y_base87 none (some (7 : Int))) ++ (sgn c220))), (V.str (cutS y_base87 none (some ((1 : Int) + (((0 : Int) + ((i104 : Nat) : Int)) % (8 : Int)))))), (V.str t225)])) np232
      have ow238 := ow0208.own (o := (.lst [(V.str y_one217), (V.str ((cutS y_base87 none (some (7 : Int))) ++ (sgn c220))), (V.str (cutS y_base87 none (some ((1 : Int) + (((0 : Int) + ((i104 : Nat) : Int)) % (8 : Int)))))), (V.str t225)])) np232
      have ow239 := ow1209.own (o := (.lst [(V.str y_one217), (V.str ((cutS y_base87 none (some (7 : Int))) ++ (sgn c220))), (V.str (cutS y_base87 none (some ((1 : Int) + (((0 : Int) + ((i104 : Nat) : Int)) % (8 : Int)))))), (V.str t225)])) np232
      have ow240 := owD205.own (o := (.lst [(V.str y_one217), (V.str ((cutS y_base87 none (some (7 : Int))) ++ (sgn c220))), (V.str (cutS y_base87 none (some ((1 : Int) + (((0 : Int) + ((i104 : Nat) : Int)) % (8 : Int)))))), (V.str t225)])) np232
      have hB241 := hB210.own (o := (.lst [(V.str y_one217), (V.str ((cutS y_base87 none (some (7 : Int))) ++ (sgn c220))), (V.str (cutS y_base87 none (some ((1 : Int) + (((0 : Int) + ((i104 : Nat) : Int)) % (8 : Int)))))), (V.str t225)])) np232
      have ow242 : Ow H0 F199 (upd H198 p231 (.lst [(V.str y_one217), (V.str ((cutS y_base87 none (some (7 : Int))) ++ (sgn c220))), (V.str (cutS y_base87 none (some ((1 : Int) + (((0 : Int) + ((i104 : Nat) : Int)) % (8 : Int)))))), (V.str t225)])) p231 [(V.str y_one217), (V.str ((cutS y_base87 none (some (7 : Int))) ++ (sgn c220))), (V.str (cutS y_base87 none (some ((1 : Int) + (((0 : Int) + ((i104 : Nat) : Int)) % (8 : Int)))))), (V.str t225)] := Ow.new g0203 np232
      have hA243 : RL K F199 [(V.str y_one217), (V.str ((cutS y_base87 none (some (7 : Int))) ++ (sgn c220))), (V.str (cutS y_base87 none (some ((1 : Int) + (((0 : Int) + ((i104 : Nat) : Int)) % (8 : Int)))))), (V.str t225)] ([y_one217, ((cutS y_base87 none (some (7 : Int))) ++ (sgn c220)), (cutS y_base87 none (some ((1 : Int) + (((0 : Int) + ((i104 : Nat) : Int)) % (8 : Int))))), t225] : List Str) := (RpA.cons (Rp.str y_one217 gs219) (RpA.cons (Rp.str ((cutS y_base87 none (some (7 : Int))) ++ (sgn c220)) (GS.cat (GS.cut gs89 none (some (7 : Int))) (GS.sg gs4 (codeAt_mem hb221)) hb223)) (RpA.cons (Rp.str (cutS y_base87 none (some ((1 : Int) + (((0 : Int) + ((i104 : Nat) : Int)) % (8 : Int))))) (GS.cut gs89 none (some ((1 : Int) + (((0 : Int) + ((i104 : Nat) : Int)) % (8 : Int)))))) (RpA.cons (Rp.str t225 gs230) RpA.nil))))
      obtain ⟨r244, b245, hb246, hm123⟩ := bnd2 hm123
      refine ⟨(V.ref B), rfl, F199, B, C, b202, (4 : Int), r244, b245, rfl, g237.fh, hB241, hb246, fun F247 H248 g249 hB250 => ?_⟩
      have g252 := Gr.trans g237 g249
      have ow253 := ow238.gr g249 nb7
      have ow254 := ow239.gr g249 nb94
      have ow255 := ow240.gr g249 nb144
      have ow256 := ow242.gr g249 nb236
      obtain ⟨t257, hb258, hm123⟩ := bnd hm123
      obtain ⟨v259, ha260, r261⟩ := RL.at (hA243.up g249.ff) hb258
      obtain ⟨rfl, gs262⟩ := R.str_v r261
      refine ⟨p231, [(V.str y_one217), (V.str ((cutS y_base87 none (some (7 : Int))) ++ (sgn c220))), (V.str (cutS y_base87 none (some ((1 : Int) + (((0 : Int) + ((i104 : Nat) : Int)) % (8 : Int)))))), (V.str t225)], _, (V.str t257), rfl, rfl, ow256.sq, ha260, ?_⟩
      refine p_name ?_
      refine p_nx ?_
      refine p_seq ?_
      refine p_asg ?_
      refine ⟨(V.str t257), rfl, (by show 1 ≤ sizeLine; decide), fun p263 np264 => ?_⟩
      have ne265 := ow253.ne np264
      have ne266 := ow254.ne np264
      have ne267 := ow255.ne np264
      have ne268 := ow256.ne np264
      have nb269 := hB250.nb np264
      have g270 := g252.own (o := (.lst [(V.str t257)])) np264
      have ow271 := ow253.own (o := (.lst [(V.str t257)])) np264
      have ow272 := ow254.own (o := (.lst [(V.str t257)])) np264
      have ow273 := ow255.own (o := (.lst [(V.str t257)])) np264
      have ow274 := ow256.own (o := (.lst [(V.str t257)])) np264
      have hB275 := hB250.own (o := (.lst [(V.str t257)])) np264
      have ow276 : Ow H0 F247 (upd H248 p263 (.lst [(V.str t257)])) p263 [(V.str t257)] := Ow.new g252 np264
      have hA277 : RL K F247 [(V.str t257)] ([t257] : List Str) := (RpA.cons (Rp.str t257 gs262) RpA.nil)
      refine ⟨(V.str y_letters1), rfl, y_letters1, rfl, fun D278 nD279 => ?_⟩
      have ne280 := ow271.ne nD279
      have ne281 := ow272.ne nD279
      have ne282 := ow273.ne nD279
      have ne283 := ow274.ne nD279
      have ne284 := ow276.ne nD279
      have nb285 := hB275.nb nD279
      have g286 := g270.own (o := (.lst [])) nD279
      have ow287 := ow271.own (o := (.lst [])) nD279
      have ow288 := ow272.own (o := (.lst [])) nD279
      have ow289 := ow273.own (o := (.lst [])) nD279
      have ow290 := ow274.own (o := (.lst [])) nD279
      have ow291 := ow276.own (o := (.lst [])) nD279
      have hB292 := hB275.own (o := (.lst [])) nD279
      have ow293 : Ow H0 F247 (upd (upd H248 p263 (.lst [(V.str t257)])) D278 (.lst [])) D278 [] := Ow.new g270 nD279
      obtain ⟨l294, hb295, hm123⟩ := bnd hm123
      refine lc_str (z := y_letters1) (fun i H' => ∃ (F' : Hp) (acc : List V) (ds : List Str) (rest : List Str), Gr (Bc B C) F0 H0 F' H' ∧ Same F247 F' ∧ Ow H0 F' H' D278 acc ∧ RL K F' acc ds ∧ acc.length ≤ i ∧ Ow H0 F' H' p5 [(V.str ("let" : Str)), (V.str ("bar" : Str)), (V.str ("from" : Str)), (V.str ("any" : Str)), (V.str ("to" : Str)), (V.str ("by" : Str)), (V.str ("past" : Str)), (V.str ("within" : Str))] ∧ Ow H0 F' H' p90 ws_y_found114 ∧ Ow H0 F' H' D140 acc200 ∧ Ow H0 F' H' p231 [(V.str y_one217), (V.str ((cutS y_base87 none (some (7 : Int))) ++ (sgn c220))), (V.str (cutS y_base87 none (some ((1 : Int) + (((0 : Int) + ((i104 : Nat) : Int)) % (8 : Int)))))), (V.str t225)] ∧ Ow H0 F' H' p263 [(V.str t257)] ∧ BagAt F' H' B C b245 ∧ m_l_names_c4  ((y_letters1).cps.toList.drop i) = some rest ∧ ds ++ rest = l294) ?_ ?_ ?_
      · exact ⟨F247, [], [], l294, g286, Same.refl _, ow293, RpA.nil, Nat.le_refl _, ow287, ow288, ow289, ow290, ow291, hB292, hb295, rfl⟩
      · intro i297 xv296 H299 hx298 hP
        obtain ⟨F300, acc301, ds302, rest303, g0304, sm305, owD306, hA307, hi308, ow0309, ow1310, ow2311, ow3312, ow4313, hB314, hm315, hr316⟩ := hP
        have he318 := str_at hx298
        rw [drop_at he318, m_l_names_c4.eq_2] at hm315
        refine ⟨rfl, (p_yes ?_)⟩
        obtain ⟨t319, hb320, hm315⟩ := bnd hm315
        obtain ⟨hk321, rfl⟩ := catS_ok hb320
        have hA322 : RL K F300 (acc301 ++ [(V.str ((sgn xv296) ++ ("zz" : Str)))]) (ds302 ++ [(((sgn xv296) ++ ("zz" : Str)) : Str)]) := RL.snoc hA307 (Rp.str ((sgn xv296) ++ ("zz" : Str)) (GS.cat (GS.sg gs4 (List.mem_of_getElem? he318)) ⟨by decide +kernel, by decide +kernel⟩ hb320))
        obtain ⟨rest323, h324, h325⟩ := bnd hm315
        obtain rfl := sjoin h325
        refine ⟨(V.str (sgn xv296)), rfl, _, _, rfl, rfl, hk321, acc301, owD306.h, (lt_line hi308 (str_lt hx298) (gs4 : GS y_letters1).len), ?_⟩
        have g326 := g0304.put (o := (.lst (acc301 ++ [(V.str ((sgn xv296) ++ ("zz" : Str)))]))) owD306
        have ow327 := ow0309.other (o := (.lst (acc301 ++ [(V.str ((sgn xv296) ++ ("zz" : Str)))]))) ne280
        have ow328 := ow1310.other (o := (.lst (acc301 ++ [(V.str ((sgn xv296) ++ ("zz" : Str)))]))) ne281
        have ow329 := ow2311.other (o := (.lst (acc301 ++ [(V.str ((sgn xv296) ++ ("zz" : Str)))]))) ne282
        have ow330 := ow3312.other (o := (.lst (acc301 ++ [(V.str ((sgn xv296) ++ ("zz" : Str)))]))) ne283
        have ow331 := ow4313.other (o := (.lst (acc301 ++ [(V.str ((sgn xv296) ++ ("zz" : Str)))]))) ne284
        have hB332 := hB314.other (o := (.lst (acc301 ++ [(V.str ((sgn xv296) ++ ("zz" : Str)))]))) nb285
        have ow333 := owD306.put (us := (acc301 ++ [(V.str ((sgn xv296) ++ ("zz" : Str)))]))
        exact ⟨F300, (acc301 ++ [(V.str ((sgn xv296) ++ ("zz" : Str)))]), (ds302 ++ [((sgn xv296) ++ ("zz" : Str))]), rest323, g326, sm305, ow333, hA322, (by rw [List.length_append]; exact Nat.succ_le_succ hi308), ow327, ow328, ow329, ow330, ow331, hB332, h324, (snoc_rest hr316)⟩
      intro H334 hP
      obtain ⟨F335, acc336, ds337, _rest, g0339, sm340, owD341, hA342, hi343, ow0344, ow1345, ow2346, ow3347, ow4348, hB349, hm350, hr351⟩ := hP
      rw [drop_end str_size] at hm350
      rw [m_l_names_c4.eq_1] at hm350
      obtain rfl := sjoin hm350
      rw [List.append_nil] at hr351
      obtain rfl := hr351
      have hl352 : acc336.length ≤ sizeLine := Nat.le_trans hi343 (gs4 : GS y_letters1).len
      obtain ⟨t353, hb354, hm123⟩ := bnd hm123
      obtain ⟨hk355, rfl⟩ := conL_ok hb354
      have hz358 : ([(V.str t257)] ++ acc336).length ≤ sizeLine := by rw [List.length_append, RL.len (hA277.up sm340), RL.len hA342]; exact hk355
      refine ⟨p263, D278, [(V.str t257)], acc336, rfl, rfl, ow4348.sq, owD341.sq, (by rw [RL.len (hA277.up sm340), RL.len hA342]; exact hk355), fun p356 np357 => ?_⟩
      have hA359 := RL.app (hA277.up sm340) hA342
      have ne361 := ow0344.ne np357
      have ne362 := ow1345.ne np357
      have ne363 := ow2346.ne np357
      have ne364 := ow3347.ne np357
      have ne365 := ow4348.ne np357
      have ne366 := owD341.ne np357
      have nb367 := hB349.nb np357
      have g368 := g0339.own (o := (.lst ([(V.str t257)] ++ acc336))) np357
      have ow369 := ow0344.own (o := (.lst ([(V.str t257)] ++ acc336))) np357
      have ow370 := ow1345.own (o := (.lst ([(V.str t257)] ++ acc336))) np357
      have ow371 := ow2346.own (o := (.lst ([(V.str t257)] ++ acc336))) np357
      have ow372 := ow3347.own (o := (.lst ([(V.str t257)] ++ acc336))) np357
      have ow373 := ow4348.own (o := (.lst ([(V.str t257)] ++ acc336))) np357
      have ow374 := owD341.own (o := (.lst ([(V.str t257)] ++ acc336))) np357
      have hB375 := hB349.own (o := (.lst ([(V.str t257)] ++ acc336))) np357
      have ow376 : Ow H0 F335 (upd H334 p356 (.lst ([(V.str t257)] ++ acc336))) p356 ([(V.str t257)] ++ acc336) := Ow.new g0339 np357
      refine ⟨p356, rfl, ⟨_, ow376.sq⟩, fun D377 nD378 => ?_⟩
      have ne379 := ow369.ne nD378
      have ne380 := ow370.ne nD378
      have ne381 := ow371.ne nD378
      have ne382 := ow372.ne nD378
      have ne383 := ow373.ne nD378
      have ne384 := ow374.ne nD378
      have ne385 := ow376.ne nD378
      have nb386 := hB375.nb nD378
      have g387 := g368.own (o := (.lst [])) nD378
      have ow388 := ow369.own (o := (.lst [])) nD378
      have ow389 := ow370.own (o := (.lst [])) nD378
      have ow390 := ow371.own (o := (.lst [])) nD378
      have ow391 := ow372.own (o := (.lst [])) nD378
      have ow392 := ow373.own (o := (.lst [])) nD378
      have ow393 := ow374.own (o := (.lst [])) nD378
      have ow394 := ow376.own (o := (.lst [])) nD378
      have hB395 := hB375.own (o := (.lst [])) nD378
      have ow396 : Ow H0 F335 (upd (upd H334 p356 (.lst ([(V.str t257)] ++ acc336))) D377 (.lst [])) D377 [] := Ow.new g368 nD378
      refine lc_list (K := K) (a := p356) (xs := ([(V.str t257)] ++ acc336)) (fun i H' => ∃ (F' : Hp) (acc : List V) (ds : List Str), Gr (Bc B C) F0 H0 F' H' ∧ Same F335 F' ∧ Ow H0 F' H' D377 acc ∧ RL K F' acc ds ∧ acc.length ≤ i ∧ Ow H0 F' H' p5 [(V.str ("let" : Str)), (V.str ("bar" : Str)), (V.str ("from" : Str)), (V.str ("any" : Str)), (V.str ("to" : Str)), (V.str ("by" : Str)), (V.str ("past" : Str)), (V.str ("within" : Str))] ∧ Ow H0 F' H' p90 ws_y_found114 ∧ Ow H0 F' H' D140 acc200 ∧ Ow H0 F' H' p231 [(V.str y_one217), (V.str ((cutS y_base87 none (some (7 : Int))) ++ (sgn c220))), (V.str (cutS y_base87 none (some ((1 : Int) + (((0 : Int) + ((i104 : Nat) : Int)) % (8 : Int)))))), (V.str t225)] ∧ Ow H0 F' H' p263 [(V.str t257)] ∧ Ow H0 F' H' D278 acc336 ∧ Ow H0 F' H' p356 ([(V.str t257)] ++ acc336) ∧ BagAt F' H' B C b245 ∧ ds ++ m_l_names_c5 y_found113 ((([t257] : List Str) ++ ds337).drop i) = (m_l_names_c5 y_found113 (([t257] : List Str) ++ ds337))) ?_ ?_ ?_ ?_
      · exact ⟨F335, [], [], g387, Same.refl _, ow396, RpA.nil, Nat.le_refl _, ow388, ow389, ow390, ow391, ow392, ow393, ow394, hB395, rfl⟩
      · intro i H' _ hP
        obtain ⟨F398, acc399, ds400, g0401, sm402, owD403, hA404, hi405, ow0406, ow1407, ow2408, ow3409, ow4410, ow5411, ow6412, hB413, hr414⟩ := hP
        exact ow6412.sq
      · intro i416 xv415 H418 hx417 hP
        obtain ⟨F419, acc420, ds421, g0422, sm423, owD424, hA425, hi426, ow0427, ow1428, ow2429, ow3430, ow4431, ow5432, ow6433, hB434, hr435⟩ := hP
        obtain ⟨e436, he437, r438⟩ := RL.get (hA359.up sm423) hx417
        obtain ⟨rfl, gs439⟩ := R.str_v r438
        rw [drop_at he437, m_l_names_c5.eq_2] at hr435
        have rH440 : R K H418 (V.str e436) e436 := (Rp.str e436 gs439)
        have rH441 : R K H418 (V.ref p90) y_found113 := (R.mkl ow1428.sq hl_y_found119 (RpA.up (hA_y_found120.up (Same.trans g131.ff (Same.trans sm204 (Same.trans g249.ff (Same.trans sm340 sm423))))) g0422.fh))
        refine ⟨rfl, (V.str e436), rfl, (V.ref p90), rfl, _, _, (Rp.dp _ _ rH440), (Rp.dp _ _ rH441), (R.shaped rH440), (R.shaped rH441), _, rfl, (iteB (fun hc => ?_) (fun hc => ?_))⟩
        · have hc : (!inD e436 y_found113) = true := hc
          rw [if_pos hc] at hr435
          have hA442 : RL K F419 (acc420 ++ [(V.str e436)]) (ds421 ++ [(e436 : Str)]) := RL.snoc hA425 (Rp.str e436 gs439)
          refine ⟨(V.str e436), rfl, acc420, owD424.h, (lt_line hi426 (List.getElem?_eq_some_iff.mp hx417).1 hz358), ?_⟩
          have g443 := g0422.put (o := (.lst (acc420 ++ [(V.str e436)]))) owD424
          have ow444 := ow0427.other (o := (.lst (acc420 ++ [(V.str e436)]))) ne379
          have ow445 := ow1428.other (o := (.lst (acc420 ++ [(V.str e436)]))) ne380
          have ow446 := ow2429.other (o := (.lst (acc420 ++ [(V.str e436)]))) ne381
          have ow447 := ow3430.other (o := (.lst (acc420 ++ [(V.str e436)]))) ne382
          have ow448 := ow4431.other (o := (.lst (acc420 ++ [(V.str e436)]))) ne383
          have ow449 := ow5432.other (o := (.lst (acc420 ++ [(V.str e436)]))) ne384
          have ow450 := ow6433.other (o := (.lst (acc420 ++ [(V.str e436)]))) ne385
          have hB451 := hB434.other (o := (.lst (acc420 ++ [(V.str e436)]))) nb386
          have ow452 := owD424.put (us := (acc420 ++ [(V.str e436)]))
          exact ⟨F419, (acc420 ++ [(V.str e436)]), (ds421 ++ [e436]), g443, sm423, ow452, hA442, (by rw [List.length_append]; exact Nat.succ_le_succ hi426), ow444, ow445, ow446, ow447, ow448, ow449, ow450, hB451, (snoc_rest hr435)⟩
        · have hc : (!inD e436 y_found113) = false := hc
          rw [if_neg (ne_true_of_eq_false hc)] at hr435
          exact ⟨F419, acc420, ds421, g0422, sm423, owD424, hA425, (Nat.le_succ_of_le hi426), ow0427, ow1428, ow2429, ow3430, ow4431, ow5432, ow6433, hB434, hr435⟩
      intro H453 hP
      obtain ⟨F454, acc455, ds456, g0458, sm459, owD460, hA461, hi462, ow0463, ow1464, ow2465, ow3466, ow4467, ow5468, ow6469, hB470, hr471⟩ := hP
      rw [drop_end (RL.len hA359)] at hr471
      rw [m_l_names_c5.eq_1, List.append_nil] at hr471
      obtain rfl := hr471
      have hl472 : acc455.length ≤ sizeLine := Nat.le_trans hi462 hz358
      obtain ⟨y_left473, hb474, hm123⟩ := bnd hm123
      have hx475 : (m_l_names_c5 y_found113 (([t257] : List Str) ++ ds337)) = y_left473 := sjoin hb474
      have hA476 : RL K F454 acc455 y_left473 := RL.re hx475 hA461
      refine p_name ?_
      refine p_nx ?_
      refine p_drop ?_
      obtain ⟨t477, hb478, hm123⟩ := bnd hm123
      obtain ⟨v479, ha480, r481⟩ := RL.at hA476 hb478
      obtain ⟨rfl, gs482⟩ := R.str_v r481
      obtain ⟨t483, hb484, hm123⟩ := bnd hm123
      obtain ⟨hk485, rfl⟩ := appL_ok hb484
      refine ⟨(V.ref p90), rfl, (.inl ⟨rfl, _, ow1464.sq⟩), (V.ref D377), rfl, D377, acc455, _, (V.str t477), rfl, rfl, owD460.sq, ha480, p90, ws_y_found114, (V.str t477), rfl, rfl, ow1464.h, (by rw [RL.len (hA_y_found120.up (Same.trans g131.ff (Same.trans sm204 (Same.trans g249.ff (Same.trans sm340 sm459)))))]; exact hk485), ?_⟩
      have hA486 : RL K F454 (ws_y_found114 ++ [(V.str t477)]) (y_found113 ++ [(t477 : Str)]) := RL.snoc (hA_y_found120.up (Same.trans g131.ff (Same.trans sm204 (Same.trans g249.ff (Same.trans sm340 sm459))))) (Rp.str t477 gs482)
      have hl487 : (ws_y_found114 ++ [(V.str t477)]).length ≤ sizeLine := by rw [List.length_append, RL.len (hA_y_found120.up (Same.trans g131.ff (Same.trans sm204 (Same.trans g249.ff (Same.trans sm340 sm459)))))]; exact hk485
      have g488 := g0458.put (o := (.lst (ws_y_found114 ++ [(V.str t477)]))) ow1464
      have ow489 := ow0463.other (o := (.lst (ws_y_found114 ++ [(V.str t477)]))) ne92
      have ow490 := ow2465.other (o := (.lst (ws_y_found114 ++ [(V.str t477)]))) (Ne.symm ne143)
      have ow491 := ow3466.other (o := (.lst (ws_y_found114 ++ [(V.str t477)]))) (Ne.symm ne234)
      have ow492 := ow4467.other (o := (.lst (ws_y_found114 ++ [(V.str t477)]))) (Ne.symm ne266)
      have ow493 := ow5468.other (o := (.lst (ws_y_found114 ++ [(V.str t477)]))) (Ne.symm ne281)
      have ow494 := ow6469.other (o := (.lst (ws_y_found114 ++ [(V.str t477)]))) (Ne.symm ne362)
      have ow495 := owD460.other (o := (.lst (ws_y_found114 ++ [(V.str t477)]))) (Ne.symm ne380)
      have hB496 := hB470.other (o := (.lst (ws_y_found114 ++ [(V.str t477)]))) nb94
      have ow497 := ow1464.put (us := (ws_y_found114 ++ [(V.str t477)]))
      exact ⟨F454, (some (V.int ((0 : Int) + ((i104 : Nat) : Int)))), (some (V.str y_one217)), (some (V.str t257)), (some (V.ref D377)), (y_found113 ++ [t477]), (ws_y_found114 ++ [(V.str t477)]), b245, rfl, g488, (Same.trans sm117 (Same.trans g131.ff (Same.trans sm204 (Same.trans g249.ff (Same.trans sm340 sm459))))), ow497, hl487, hA486, ow489, hB496, hm123⟩
    intro σ498 H499 hP
    obtain ⟨F500, o_y_k501, o_y_one502, o_y_start503, o_y_left504, y_found505, ws_y_found506, b507, rfl, g508, sm509, ow_y_found510, hl_y_found511, hA_y_found512, owk0513, hB514, hm515⟩ := hP
    rw [drop_end (rangeL_len _ _).symm, m_l_names_l2.eq_1] at hm515
    obtain ⟨rfl, rfl⟩ := pjoin hm515
    refine p_nx ?_
    refine p_ret ?_
    obtain ⟨rfl, rfl⟩ := pjoin hm
    refine ⟨(V.ref p90), rfl, (hQ _ _ _ _ g508 hB514 ow_y_found510.n0 ow_y_found510.h ow_y_found510.nF hl_y_found511 hA_y_found512)⟩
end K13
namespace K13
open PySem PySem.Spec PyProof.Rows L2 TL G
theorem ok_l_pattern {P : Program} {w : World} {K : PySem.W.Frag} {mg : Str → Option Value} {base : Heap} (T : Txt K mg) : FnOk P w K mg base CX0 3 T.a_l_pattern T.d_l_pattern ["_law_bag_here", "_law_bits"] (sp_l_pattern K) := by
  have G_l_draw : FnOk P w K mg base CX0 2 T.a_l_draw T.d_l_draw ["_law_bag_here", "_law_many"] (sp_l_draw K) := ok_l_draw T
  have b_l_draw := T.F_l_draw.bindsN (ps := ["_law_bag_here", "_law_many"]) fun _ _ _ _ _ _ us hl => match us, hl with | [_, _], _ => rfl
  refine fd_ok T.F_l_pattern sc_l_pattern (fun vs H Q E h => ?_) (fun cdv A outer s H0 vs Q E hr h => ?_)
  · obtain ⟨_, _, _, _, _, _, _, rfl, _⟩ := h
    rfl
  · obtain ⟨F0, B, C, b, y_bits, r, b', rfl, hS0, hB, hm, hQ⟩ := h
    refine ⟨_, (pss_cons (ps_set (i := 2) sc_l_pattern.nd rfl (.inl rfl) (pe_ix (ix_listK (K := K)) (pe_lst (pa_cons (pe_call G_l_draw (hr.mono (by decide)) (by rfl) T.g_l_draw T.F_l_draw.kp b_l_draw .nil pass0 (pa_cons (pv 0) (pa_cons (pe_op op_add (pv 1) pe_int) pa_nil))) (pa_cons (pe_callB (call_min2 rfl) (by rfl) T.n_min (by decide +kernel) (pa_cons (pv 1) (pa_cons (pe_call G_l_draw (hr.mono (by decide)) (by rfl) T.g_l_draw T.F_l_draw.kp b_l_draw .nil pass0 (pa_cons (pv 0) (pa_cons pe_int pa_nil))) pa_nil))) (pa_cons (pv 1) pa_nil)))) (pe_call G_l_draw (hr.mono (by decide)) (by rfl) T.g_l_draw T.F_l_draw.kp b_l_draw .nil pass0 (pa_cons (pv 0) (pa_cons pe_int pa_nil))) (fun _ _ => rfl))) (pss_one (ps_ret (pe_op op_add_str (pe_joinK (K := K) pe_str (pe_lc (own := [("_law_k", 3)]) rfl sc_l_pattern.nd (pi_range1 (by rfl) T.n_range (pa_cons (pv 2) pa_nil)) (blkOk_by (own := [("_law_k", 3)]) (N := N_l_pattern) (sc := defScope s_l_pattern) (by decide +kernel)) (fun _ _ _ _ _ => (pg_name (i := 3) sc_l_pattern.nd rfl (Or.inl rfl) (.inr rfl))) (fun _ _ _ _ _ => pts_nil) (fun _ _ _ _ _ => (pe_callTy call_strB (by rfl) T.n_str (by decide +kernel) (pa_cons (pe_call G_l_draw (hr.mono (by decide)) (by rfl) T.g_l_draw T.F_l_draw.kp b_l_draw .nil pass0 (pa_cons (pv 0) (pa_cons pe_int pa_nil))) pa_nil))))) (pe_op op_mulS pe_str (pe_callTy call_toI (by rfl) T.n_int (by decide +kernel) (pa_cons (pe_cmpR op_lt (pv 2) (pv 1) (nomark _)) pa_nil))))))), ?_⟩
    have g0 : Gr (Bc B C) F0 H0 F0 H0 := Gr.refl hS0
    unfold m_l_pattern at hm
    refine p_seq ?_
    refine p_asg ?_
    obtain ⟨r1, b2, hb3, hm⟩ := bnd2 hm
    refine ⟨(V.ref B), rfl, (V.int y_bits), rfl, _, _, rfl, rfl, F0, B, C, b, (y_bits + (1 : Int)), r1, b2, rfl, g0.fh, hB, hb3, fun F4 H5 g6 hB7 => ?_⟩
    have g9 := Gr.trans g0 g6
    obtain ⟨r10, b11, hb12, hm⟩ := bnd2 hm
    refine ⟨(V.int y_bits), rfl, (V.ref B), rfl, F4, B, C, b2, (3 : Int), r10, b11, rfl, g9.fh, hB7, hb12, fun F13 H14 g15 hB16 => ?_⟩
    have g18 := Gr.trans g9 g15
    refine ⟨_, _, rfl, (V.int y_bits), rfl, (by show 3 ≤ sizeLine; decide), fun p19 np20 => ?_⟩
    have nb21 := hB16.nb np20
    have g22 := g18.own (o := (.lst [(V.int r1), (V.int (if r10 < y_bits then r10 else y_bits)), (V.int y_bits)])) np20
    have hB23 := hB16.own (o := (.lst [(V.int r1), (V.int (if r10 < y_bits then r10 else y_bits)), (V.int y_bits)])) np20
    have ow24 : Ow H0 F13 (upd H14 p19 (.lst [(V.int r1), (V.int (if r10 < y_bits then r10 else y_bits)), (V.int y_bits)])) p19 [(V.int r1), (V.int (if r10 < y_bits then r10 else y_bits)), (V.int y_bits)] := Ow.new g18 np20
    have hA25 : RL K F13 [(V.int r1), (V.int (if r10 < y_bits then r10 else y_bits)), (V.int y_bits)] ([r1, (if r10 < y_bits then r10 else y_bits), y_bits] : List Int) := (RpA.cons (Rp.int r1) (RpA.cons (Rp.int (if r10 < y_bits then r10 else y_bits)) (RpA.cons (Rp.int y_bits) RpA.nil)))
    obtain ⟨r26, b27, hb28, hm⟩ := bnd2 hm
    refine ⟨(V.ref B), rfl, F13, B, C, b11, (3 : Int), r26, b27, rfl, g22.fh, hB23, hb28, fun F29 H30 g31 hB32 => ?_⟩
    have g34 := Gr.trans g22 g31
    have ow35 := ow24.gr g31 nb21
    obtain ⟨t36, hb37, hm⟩ := bnd hm
    obtain ⟨v38, ha39, r40⟩ := RL.at (hA25.up g31.ff) hb37
    obtain rfl := R.int_v r40
    refine ⟨p19, [(V.int r1), (V.int (if r10 < y_bits then r10 else y_bits)), (V.int y_bits)], _, (V.int t36), rfl, rfl, ow35.sq, ha39, ?_⟩
    refine p_name ?_
    refine p_nx ?_
    refine p_ret ?_
    obtain ⟨l41, hb43, hm⟩ := bnd hm
    obtain ⟨hk42, rfl⟩ := rangeO1_ok hb43
    refine ⟨⟨_, rfl⟩, (V.int t36), rfl, _, rfl, hk42.1.1, hk42.1.2, fun D44 nD45 => ?_⟩
    have ne46 := ow35.ne nD45
    have nb47 := hB32.nb nD45
    have g48 := g34.own (o := (.lst [])) nD45
    have ow49 := ow35.own (o := (.lst [])) nD45
    have hB50 := hB32.own (o := (.lst [])) nD45
    have ow51 : Ow H0 F29 (upd H30 D44 (.lst [])) D44 [] := Ow.new g34 nD45
    obtain ⟨l52, b53, hb54, hm⟩ := bnd2 hm
    refine lc_range (lo := (0 : Int)) (n := (t36).toNat) (fun i H' => ∃ (F' : Hp) (acc : List V) (ds : List Str) (rest : List Str) (b : Bag), Gr (Bc B C) F0 H0 F' H' ∧ Same F29 F' ∧ Ow H0 F' H' D44 acc ∧ RL K F' acc ds ∧ acc.length ≤ i ∧ Ow H0 F' H' p19 [(V.int r1), (V.int (if r10 < y_bits then r10 else y_bits)), (V.int y_bits)] ∧ BagAt F' H' B C b ∧ m_l_pattern_c1  ((rangeL (0 : Int) (t36).toNat).drop i) b = some (rest, b53) ∧ ds ++ rest = l52) ?_ ?_ ?_
    · exact ⟨F29, [], [], l52, b27, g48, Same.refl _, ow51, RpA.nil, Nat.le_refl _, ow49, hB50, hb54, rfl⟩
    · intro i56 H58 hx57 hP
      obtain ⟨F59, acc60, ds61, rest62, b63, g064, sm65, owD66, hA67, hi68, ow069, hB70, hm71, hr72⟩ := hP
      have he74 := rangeL_at (lo := (0 : Int)) hx57
      rw [drop_at he74, m_l_pattern_c1.eq_2] at hm71
      refine ⟨rfl, (p_yes ?_)⟩
      obtain ⟨r75, b76, hb77, hm71⟩ := bnd2 hm71
      refine ⟨(V.ref B), rfl, F59, B, C, b63, (2 : Int), r75, b76, rfl, g064.fh, hB70, hb77, fun F78 H79 g80 hB81 => ?_⟩
      have g83 := Gr.trans g064 g80
      have ow84 := ow069.gr g80 nb21
      have ow85 := owD66.gr g80 nb47
      obtain ⟨t86, hb87, hm71⟩ := bnd hm71
      have hA88 : RL K F78 (acc60 ++ [(V.str t86)]) (ds61 ++ [(t86 : Str)]) := RL.snoc (hA67.up g80.ff) (Rp.str t86 (strO_gs hb87))
      obtain ⟨rest89, b90, h91, h92⟩ := bnd2 hm71
      obtain ⟨rfl, rfl⟩ := pjoin h92
      refine ⟨r75, t86, rfl, hb87, acc60, ow85.h, (lt_line hi68 hx57 hk42.2), ?_⟩
      have g93 := g83.put (o := (.lst (acc60 ++ [(V.str t86)]))) ow85
      have ow94 := ow84.other (o := (.lst (acc60 ++ [(V.str t86)]))) ne46
      have hB95 := hB81.other (o := (.lst (acc60 ++ [(V.str t86)]))) nb47
      have ow96 := ow85.put (us := (acc60 ++ [(V.str t86)]))
      exact ⟨F78, (acc60 ++ [(V.str t86)]), (ds61 ++ [t86]), rest89, b76, g93, (Same.trans sm65 g80.ff), ow96, hA88, (by rw [List.length_append]; exact Nat.succ_le_succ hi68), ow94, hB95, h91, (snoc_rest hr72)⟩
    intro H97 hP
    obtain ⟨F98, acc99, ds100, _rest, b101, g0102, sm103, owD104, hA105, hi106, ow0107, hB108, hm109, hr110⟩ := hP
    rw [drop_end (rangeL_len _ _).symm] at hm109
    rw [m_l_pattern_c1.eq_1] at hm109
    obtain ⟨rfl, rfl⟩ := pjoin hm109
    rw [List.append_nil] at hr110
    obtain rfl := hr110
    have hl111 : acc99.length ≤ sizeLine := Nat.le_trans hi106 hk42.2
    obtain ⟨t112, hb113, hm⟩ := bnd hm
    obtain ⟨hk114, rfl⟩ := joinS_ok hb113
    obtain ⟨t115, hb116, hm⟩ := bnd hm
    obtain ⟨hk117, rfl⟩ := mulS_ok hb116
    obtain ⟨t118, hb119, hm⟩ := bnd hm
    obtain ⟨hk120, rfl⟩ := catS_ok hb119
    obtain ⟨rfl, rfl⟩ := pjoin hm
    refine ⟨_, D44, ds100, rfl, rfl, (.inl (by rw [← (RL.strs hA105).1]; exact owD104.sq)), hk114, (V.int t36), rfl, (V.int y_bits), rfl, _, _, rfl, rfl, _, rfl, _, _, rfl, rfl, hk117, _, _, rfl, rfl, hk120, (hQ _ _ g0102 hB108 (GS.cat (GS.join ⟨by decide +kernel, by decide +kernel⟩ (RL.strs hA105).2 hb113) (GS.mul ⟨by decide +kernel, by decide +kernel⟩ hb116) hb119))⟩
end K13
namespace K13
open PySem PySem.Spec PyProof.Rows L2 TL G
theorem ok_l_order {P : Program} {w : World} {K : PySem.W.Frag} {mg : Str → Option Value} {base : Heap} (T : Txt K mg) : FnOk P w K mg base CX0 3 T.a_l_order T.d_l_order ["_law_bag_here", "_law_town_here"] (sp_l_order K) := by
  have G_l_draw : FnOk P w K mg base CX0 2 T.a_l_draw T.d_l_draw ["_law_bag_here", "_law_many"] (sp_l_draw K) := ok_l_draw T
  have b_l_draw := T.F_l_draw.bindsN (ps := ["_law_bag_here", "_law_many"]) fun _ _ _ _ _ _ us hl => match us, hl with | [_, _], _ => rfl
  refine fd_ok T.F_l_order sc_l_order (fun vs H Q E h => ?_) (fun cdv A outer s H0 vs Q E hr h => ?_)
  · obtain ⟨_, _, _, _, _, _, _, _, rfl, _⟩ := h
    rfl
  · obtain ⟨F0, B, C, b, v_y_town_here, y_town_here, r, b', rfl, hS0, hB, r_y_town_here, hm, hQ⟩ := h
    refine ⟨_, (pss_cons (ps_set (i := 2) sc_l_order.nd rfl (.inl rfl) (pe_lst pa_nil)) (pss_cons (ps_for PassesOwn.never rfl (pi_range1 (by rfl) T.n_range (pa_cons (pe_ix (ix_listK (K := K)) (pe_lst (pa_cons pe_int (pa_cons pe_int (pa_cons pe_int (pa_cons pe_int (pa_cons pe_int pa_nil)))))) (pe_call G_l_draw (hr.mono (by decide)) (by rfl) T.g_l_draw T.F_l_draw.kp b_l_draw .nil pass0 (pa_cons (pv 0) (pa_cons pe_int pa_nil))) (fun _ _ => rfl)) pa_nil)) (pg_name (i := 3) sc_l_order.nd rfl (Or.inl rfl)) (pss_cons (ps_set (i := 4) sc_l_order.nd rfl (.inl rfl) (pe_call G_l_draw (hr.mono (by decide)) (by rfl) T.g_l_draw T.F_l_draw.kp b_l_draw .nil pass0 (pa_cons (pv 0) (pa_cons (pe_ix (ix_tupK (K := K)) (pv 1) pe_int (fun _ _ => rfl)) pa_nil)))) (pss_one (ps_if (PW.pt (pw_or (pt_cmpR (op_eqDK (K := K) hr.units) (pv 2) (pe_lst pa_nil) (nomark _)) (pw_or1 (pt_cmpR op_ne (pe_ix (ix_listK (K := K)) (pv 2) (pe_un un_neg pe_int) (fun _ _ => rfl)) (pv 4) (nomark _))))) (pss_one (ps_expr (pe_bmK (K := K) PySem.F.plainAttrs_list PySem.F.slot_list_append PySem.F.type_list_append mt_append (pv 2) (pa_cons (pv 4) pa_nil)))) pss_nil)))) (pss_cons (ps_setLc (i := 5) (own := [("_law_k", 3)]) rfl sc_l_order.nd rfl rfl (sw_true rfl rfl rfl (by decide +kernel)) (pi_range1 (by rfl) T.n_range (pa_cons (pe_ix (ix_listK (K := K)) (pe_lst (pa_cons pe_int (pa_cons pe_int (pa_cons pe_int (pa_cons pe_int (pa_cons pe_int pa_nil)))))) (pe_call G_l_draw (hr.mono (by decide)) (by rfl) T.g_l_draw T.F_l_draw.kp b_l_draw .nil pass0 (pa_cons (pv 0) (pa_cons pe_int pa_nil))) (fun _ _ => rfl)) pa_nil)) (blkOk_by (own := [("_law_k", 3)]) (N := N_l_order) (sc := defScope s_l_order) (by decide +kernel)) (fun _ _ _ _ _ => (pg_name (i := 3) sc_l_order.nd rfl (Or.inl rfl) (.inr rfl))) (fun _ _ _ _ _ => pts_nil) (fun _ _ _ _ _ => (pe_call G_l_draw (hr.mono (by decide)) (by rfl) T.g_l_draw T.F_l_draw.kp b_l_draw .nil pass0 (pa_cons (pv 0) (pa_cons (pe_ix (ix_tupK (K := K)) (pv 1) pe_int (fun _ _ => rfl)) pa_nil))))) (pss_cons (ps_set (i := 6) sc_l_order.nd rfl (.inl rfl) (pe_ix (ix_listK (K := K)) (pe_lst (pa_cons pe_non (pa_cons (pe_call G_l_draw (hr.mono (by decide)) (by rfl) T.g_l_draw T.F_l_draw.kp b_l_draw .nil pass0 (pa_cons (pv 0) (pa_cons pe_int pa_nil))) (pa_cons (pe_call G_l_draw (hr.mono (by decide)) (by rfl) T.g_l_draw T.F_l_draw.kp b_l_draw .nil pass0 (pa_cons (pv 0) (pa_cons (pe_op op_pow pe_int pe_int) pa_nil))) (pa_cons pe_non pa_nil))))) (pe_call G_l_draw (hr.mono (by decide)) (by rfl) T.g_l_draw T.F_l_draw.kp b_l_draw .nil pass0 (pa_cons (pv 0) (pa_cons pe_int pa_nil))) (fun _ _ => rfl))) (pss_one (ps_ret (pe_tup (pa_cons (pe_call G_l_draw (hr.mono (by decide)) (by rfl) T.g_l_draw T.F_l_draw.kp b_l_draw .nil pass0 (pa_cons (pv 0) (pa_cons (pe_callB (call_lenLK (K := K)) (by rfl) T.n_len (by decide +kernel) (pa_cons (pe_ix (ix_tupK (K := K)) (pv 1) pe_int (fun _ _ => rfl)) pa_nil)) pa_nil))) (pa_cons (pe_tupleOfK (K := K) (by rfl) T.n_tuple (pv 2)) (pa_cons (pe_tupleOfK (K := K) (by rfl) T.n_tuple (pe_ssetK (K := K) rfl (by rfl) T.n_sorted (by rfl) T.n_set (pv 5))) (pa_cons (pv 6) pa_nil))))))))))), ?_⟩
    have g0 : Gr (Bc B C) F0 H0 F0 H0 := Gr.refl hS0
    unfold m_l_order at hm
    refine p_seq ?_
    refine p_asg ?_
    refine ⟨(by show 0 ≤ sizeLine; decide), fun p1 np2 => ?_⟩
    have nb3 := hB.nb np2
    have g4 := g0.own (o := (.lst [])) np2
    have hB5 := hB.own (o := (.lst [])) np2
    have ow6 : Ow H0 F0 (upd H0 p1 (.lst [])) p1 [] := Ow.new g0 np2
    have hA7 : RL K F0 [] ([] : List Int) := RpA.nil
    refine p_name ?_
    refine p_nx ?_
    refine p_seq ?_
    refine p_for ?_
    refine ⟨(by show 5 ≤ sizeLine; decide), fun p8 np9 => ?_⟩
    have ne10 := ow6.ne np9
    have nb11 := hB5.nb np9
    have g12 := g4.own (o := (.lst [(V.int (0 : Int)), (V.int (0 : Int)), (V.int (1 : Int)), (V.int (2 : Int)), (V.int (3 : Int))])) np9
    have ow13 := ow6.own (o := (.lst [(V.int (0 : Int)), (V.int (0 : Int)), (V.int (1 : Int)), (V.int (2 : Int)), (V.int (3 : Int))])) np9
    have hB14 := hB5.own (o := (.lst [(V.int (0 : Int)), (V.int (0 : Int)), (V.int (1 : Int)), (V.int (2 : Int)), (V.int (3 : Int))])) np9
    have ow15 : Ow H0 F0 (upd (upd H0 p1 (.lst [])) p8 (.lst [(V.int (0 : Int)), (V.int (0 : Int)), (V.int (1 : Int)), (V.int (2 : Int)), (V.int (3 : Int))])) p8 [(V.int (0 : Int)), (V.int (0 : Int)), (V.int (1 : Int)), (V.int (2 : Int)), (V.int (3 : Int))] := Ow.new g4 np9
    have hA16 : RL K F0 [(V.int (0 : Int)), (V.int (0 : Int)), (V.int (1 : Int)), (V.int (2 : Int)), (V.int (3 : Int))] ([(0 : Int), (0 : Int), (1 : Int), (2 : Int), (3 : Int)] : List Int) := (RpA.cons (Rp.int (0 : Int)) (RpA.cons (Rp.int (0 : Int)) (RpA.cons (Rp.int (1 : Int)) (RpA.cons (Rp.int (2 : Int)) (RpA.cons (Rp.int (3 : Int)) RpA.nil)))))
    obtain ⟨r17, b18, hb19, hm⟩ := bnd2 hm
    refine ⟨(V.ref B), rfl, F0, B, C, b, (5 : Int), r17, b18, rfl, g12.fh, hB14, hb19, fun F20 H21 g22 hB23 => ?_⟩
    have g25 := Gr.trans g12 g22
    have ow26 := ow13.gr g22 nb3
    have ow27 := ow15.gr g22 nb11
    obtain ⟨t28, hb29, hm⟩ := bnd hm
    obtain ⟨v30, ha31, r32⟩ := RL.at (hA16.up g22.ff) hb29
    obtain rfl := R.int_v r32
    obtain ⟨l33, hb35, hm⟩ := bnd hm
    obtain ⟨hk34, rfl⟩ := rangeO1_ok hb35
    refine ⟨p8, [(V.int (0 : Int)), (V.int (0 : Int)), (V.int (1 : Int)), (V.int (2 : Int)), (V.int (3 : Int))], _, (V.int t28), rfl, rfl, ow27.sq, ha31, _, rfl, hk34.1.1, hk34.1.2, ?_⟩
    obtain ⟨y_by36, b37, ht38, hm⟩ := bnd2 hm
    refine for_range (lo := (0 : Int)) (n := (t28).toNat) (fun i σ' H' => ∃ (F' : Hp) (o_y_k : Option V) (o_y_one : Option V) (y_by : (List Int)) (ws_y_by : List V) (b : Bag), σ' = [(some (V.ref B)), (some v_y_town_here), (some (V.ref p1)), o_y_k, o_y_one, none, none] ∧ Gr (Bc B C) F0 H0 F' H' ∧ Same F20 F' ∧ Ow H0 F' H' p1 ws_y_by ∧ ws_y_by.length ≤ sizeLine ∧ RL K F' ws_y_by y_by ∧ BagAt F' H' B C b ∧ m_l_order_l1 y_town_here ((rangeL (0 : Int) (t28).toNat).drop i) y_by b = some (y_by36, b37)) ?_ ?_ ?_
    · exact ⟨F20, none, none, ([] : List Int), [], b18, rfl, g25, (Same.refl _), ow26, (by show 0 ≤ sizeLine; decide), (hA7.up g22.ff), hB23, ht38⟩
    · intro i39 σ' H41 hx40 hP
      obtain ⟨F43, o_y_k44, o_y_one45, y_by46, ws_y_by47, b48, rfl, g49, sm50, ow_y_by51, hl_y_by52, hA_y_by53, hB54, hm55⟩ := hP
      have he57 := rangeL_at (lo := (0 : Int)) hx40
      rw [drop_at he57, m_l_order_l1.eq_2] at hm55
      refine p_name ?_
      refine p_seq ?_
      refine p_asg ?_
      obtain ⟨p58, v61, v62, v63, v64, ev59, hS60, r65, r66, r67, r68⟩ := R.p4_v r_y_town_here
      obtain rfl := R.int_v r65
      obtain rfl := R.int_v r66
      obtain ⟨r69, b70, hb71, hm55⟩ := bnd2 hm55
      refine ⟨(V.ref B), rfl, v_y_town_here, rfl, p58, _, _, (V.int y_town_here.b), ev59, rfl, (SqT_mono g49.fh (SqT_mono (Same.trans g22.ff sm50) hS60)), rfl, F43, B, C, b48, y_town_here.b, r69, b70, rfl, g49.fh, hB54, hb71, fun F72 H73 g74 hB75 => ?_⟩
      have g77 := Gr.trans g49 g74
      have ow78 := ow_y_by51.gr g74 nb3
      refine p_name ?_
      refine p_nx ?_
      refine p_if ?_
      refine ⟨(V.ref p1), rfl, (by show 0 ≤ sizeLine; decide), fun p79 np80 => ?_⟩
      have ne81 := ow78.ne np80
      have nb82 := hB75.nb np80
      have g83 := g77.own (o := (.lst [])) np80
      have ow84 := ow78.own (o := (.lst [])) np80
      have hB85 := hB75.own (o := (.lst [])) np80
      have ow86 : Ow H0 F72 (upd H73 p79 (.lst [])) p79 [] := Ow.new g77 np80
      have rH88 : R K (upd H73 p79 (.lst [])) (V.ref p1) y_by46 := (R.mkl ow84.sq hl_y_by52 (RpA.up (hA_y_by53.up g74.ff) g83.fh))
      have rH89 : R K (upd H73 p79 (.lst [])) (V.ref p79) ([] : (List Int)) := (R.mkl ow86.sq (by show 0 ≤ sizeLine; decide) (RpA.up RpA.nil g83.fh))
      refine ⟨_, _, (Rp.dp _ _ rH88), (Rp.dp _ _ rH89), (R.shaped rH88), (R.shaped rH89), _, rfl, ?_⟩
      obtain ⟨c90, hc91, hm55⟩ := bnd hm55
      refine orJT (M := M0) (F := F72) (c := c90) (P := fun _ _ => True) (fun ha => ?_) (fun ha => ⟨(sjoin (ifT ha hc91)).symm, trivial⟩) g83.fh ?_
      · intro Q93 q94
        have hc91 := ifF ha hc91
        obtain ⟨t95, hb96, hc91⟩ := bnd hc91
        obtain ⟨v97, ha98, r99⟩ := RL.at (hA_y_by53.up g74.ff) hb96
        obtain rfl := R.int_v r99
        obtain rfl := sjoin hc91
        refine ⟨(V.ref p1), rfl, _, rfl, p1, ws_y_by47, _, (V.int t95), rfl, rfl, ow84.sq, ha98, (V.int r69), rfl, rfl, _, rfl, (q94 _ _ (Gr.refl (M := M0) g83.fh) trivial)⟩
      intro F100 H101 g102 hB103
      have g104 := Gr.trans g83 (Gr.of0 g102)
      have ow105 := ow84.gr0 g102
      have ow106 := ow86.gr0 g102
      have hB107 := hB85.gr0 g102
      refine (iteB (fun hc => ?_) (fun hc => ?_))
      · have hm55 := ifT hc hm55
        refine p_drop ?_
        obtain ⟨t108, hb109, hm55⟩ := bnd hm55
        obtain ⟨hk110, rfl⟩ := appL_ok hb109
        refine ⟨(V.ref p1), rfl, (.inl ⟨rfl, _, ow105.sq⟩), (V.int r69), rfl, p1, ws_y_by47, (V.int r69), rfl, rfl, ow105.h, (by rw [RL.len (hA_y_by53.up (Same.trans g74.ff g102.ff))]; exact hk110), ?_⟩
        have hA111 : RL K F100 (ws_y_by47 ++ [(V.int r69)]) (y_by46 ++ [(r69 : Int)]) := RL.snoc (hA_y_by53.up (Same.trans g74.ff g102.ff)) (Rp.int r69)
        have hl112 : (ws_y_by47 ++ [(V.int r69)]).length ≤ sizeLine := by rw [List.length_append, RL.len (hA_y_by53.up (Same.trans g74.ff g102.ff))]; exact hk110
        have g113 := g104.put (o := (.lst (ws_y_by47 ++ [(V.int r69)]))) ow105
        have ow114 := ow106.other (o := (.lst (ws_y_by47 ++ [(V.int r69)]))) (Ne.symm ne81)
        have hB115 := hB107.other (o := (.lst (ws_y_by47 ++ [(V.int r69)]))) nb3
        have ow116 := ow105.put (us := (ws_y_by47 ++ [(V.int r69)]))
        exact ⟨F100, (some (V.int ((0 : Int) + ((i39 : Nat) : Int)))), (some (V.int r69)), (y_by46 ++ [r69]), (ws_y_by47 ++ [(V.int r69)]), b70, rfl, g113, (Same.trans sm50 (Same.trans g74.ff g102.ff)), ow116, hl112, hA111, hB115, hm55⟩
      · have hm55 := ifF hc hm55
        refine p_next ?_
        exact ⟨F100, (some (V.int ((0 : Int) + ((i39 : Nat) : Int)))), (some (V.int r69)), y_by46, ws_y_by47, b70, rfl, g104, (Same.trans sm50 (Same.trans g74.ff g102.ff)), ow105, hl_y_by52, (hA_y_by53.up (Same.trans g74.ff g102.ff)), hB107, hm55⟩
    intro σ117 H118 hP
    obtain ⟨F119, o_y_k120, o_y_one121, y_by122, ws_y_by123, b124, rfl, g125, sm126, ow_y_by127, hl_y_by128, hA_y_by129, hB130, hm131⟩ := hP
    rw [drop_end (rangeL_len _ _).symm, m_l_order_l1.eq_1] at hm131
    obtain ⟨rfl, rfl⟩ := pjoin hm131
    refine p_nx ?_
    refine p_seq ?_
    refine p_asg ?_
    refine ⟨(by show 5 ≤ sizeLine; decide), fun p132 np133 => ?_⟩
    have ne134 := ow_y_by127.ne np133
    have nb135 := hB130.nb np133
    have g136 := g125.own (o := (.lst [(V.int (0 : Int)), (V.int (0 : Int)), (V.int (1 : Int)), (V.int (2 : Int)), (V.int (3 : Int))])) np133
    have ow137 := ow_y_by127.own (o := (.lst [(V.int (0 : Int)), (V.int (0 : Int)), (V.int (1 : Int)), (V.int (2 : Int)), (V.int (3 : Int))])) np133
    have hB138 := hB130.own (o := (.lst [(V.int (0 : Int)), (V.int (0 : Int)), (V.int (1 : Int)), (V.int (2 : Int)), (V.int (3 : Int))])) np133
    have ow139 : Ow H0 F119 (upd H118 p132 (.lst [(V.int (0 : Int)), (V.int (0 : Int)), (V.int (1 : Int)), (V.int (2 : Int)), (V.int (3 : Int))])) p132 [(V.int (0 : Int)), (V.int (0 : Int)), (V.int (1 : Int)), (V.int (2 : Int)), (V.int (3 : Int))] := Ow.new g125 np133
    have hA140 : RL K F119 [(V.int (0 : Int)), (V.int (0 : Int)), (V.int (1 : Int)), (V.int (2 : Int)), (V.int (3 : Int))] ([(0 : Int), (0 : Int), (1 : Int), (2 : Int), (3 : Int)] : List Int) := (RpA.cons (Rp.int (0 : Int)) (RpA.cons (Rp.int (0 : Int)) (RpA.cons (Rp.int (1 : Int)) (RpA.cons (Rp.int (2 : Int)) (RpA.cons (Rp.int (3 : Int)) RpA.nil)))))
    obtain ⟨r141, b142, hb143, hm⟩ := bnd2 hm
    refine ⟨(V.ref B), rfl, F119, B, C, b124, (5 : Int), r141, b142, rfl, g136.fh, hB138, hb143, fun F144 H145 g146 hB147 => ?_⟩
    have g149 := Gr.trans g136 g146
    have ow150 := ow137.gr g146 nb3
    have ow151 := ow139.gr g146 nb135
    obtain ⟨t152, hb153, hm⟩ := bnd hm
    obtain ⟨v154, ha155, r156⟩ := RL.at (hA140.up g146.ff) hb153
    obtain rfl := R.int_v r156
    obtain ⟨l157, hb159, hm⟩ := bnd hm
    obtain ⟨hk158, rfl⟩ := rangeO1_ok hb159
    refine ⟨p132, [(V.int (0 : Int)), (V.int (0 : Int)), (V.int (1 : Int)), (V.int (2 : Int)), (V.int (3 : Int))], _, (V.int t152), rfl, rfl, ow151.sq, ha155, _, rfl, hk158.1.1, hk158.1.2, fun D160 nD161 => ?_⟩
    have ne162 := ow150.ne nD161
    have ne163 := ow151.ne nD161
    have nb164 := hB147.nb nD161
    have g165 := g149.own (o := (.lst [])) nD161
    have ow166 := ow150.own (o := (.lst [])) nD161
    have ow167 := ow151.own (o := (.lst [])) nD161
    have hB168 := hB147.own (o := (.lst [])) nD161
    have ow169 : Ow H0 F144 (upd H145 D160 (.lst [])) D160 [] := Ow.new g149 nD161
    obtain ⟨l170, b171, hb172, hm⟩ := bnd2 hm
    refine lc_range (lo := (0 : Int)) (n := (t152).toNat) (fun i H' => ∃ (F' : Hp) (acc : List V) (ds : List Int) (rest : List Int) (b : Bag), Gr (Bc B C) F0 H0 F' H' ∧ Same F144 F' ∧ Ow H0 F' H' D160 acc ∧ RL K F' acc ds ∧ acc.length ≤ i ∧ Ow H0 F' H' p1 ws_y_by123 ∧ Ow H0 F' H' p132 [(V.int (0 : Int)), (V.int (0 : Int)), (V.int (1 : Int)), (V.int (2 : Int)), (V.int (3 : Int))] ∧ BagAt F' H' B C b ∧ m_l_order_c2 y_town_here ((rangeL (0 : Int) (t152).toNat).drop i) b = some (rest, b171) ∧ ds ++ rest = l170) ?_ ?_ ?_
    · exact ⟨F144, [], [], l170, b142, g165, Same.refl _, ow169, RpA.nil, Nat.le_refl _, ow166, ow167, hB168, hb172, rfl⟩
    · intro i174 H176 hx175 hP
      obtain ⟨F177, acc178, ds179, rest180, b181, g0182, sm183, owD184, hA185, hi186, ow0187, ow1188, hB189, hm190, hr191⟩ := hP
      have he193 := rangeL_at (lo := (0 : Int)) hx175
      rw [drop_at he193, m_l_order_c2.eq_2] at hm190
      refine ⟨rfl, (p_yes ?_)⟩
      obtain ⟨p194, v197, v198, v199, v200, ev195, hS196, r201, r202, r203, r204⟩ := R.p4_v r_y_town_here
      obtain rfl := R.int_v r201
      obtain rfl := R.int_v r202
      obtain ⟨r205, b206, hb207, hm190⟩ := bnd2 hm190
      refine ⟨(V.ref B), rfl, v_y_town_here, rfl, p194, _, _, (V.int y_town_here.b), ev195, rfl, (SqT_mono g0182.fh (SqT_mono (Same.trans g22.ff (Same.trans sm126 (Same.trans g146.ff sm183))) hS196)), rfl, F177, B, C, b181, y_town_here.b, r205, b206, rfl, g0182.fh, hB189, hb207, fun F208 H209 g210 hB211 => ?_⟩
      have g213 := Gr.trans g0182 g210
      have ow214 := ow0187.gr g210 nb3
      have ow215 := ow1188.gr g210 nb135
      have ow216 := owD184.gr g210 nb164
      have hA217 : RL K F208 (acc178 ++ [(V.int r205)]) (ds179 ++ [(r205 : Int)]) := RL.snoc (hA185.up g210.ff) (Rp.int r205)
      obtain ⟨rest218, b219, h220, h221⟩ := bnd2 hm190
      obtain ⟨rfl, rfl⟩ := pjoin h221
      refine ⟨acc178, ow216.h, (lt_line hi186 hx175 hk158.2), ?_⟩
      have g222 := g213.put (o := (.lst (acc178 ++ [(V.int r205)]))) ow216
      have ow223 := ow214.other (o := (.lst (acc178 ++ [(V.int r205)]))) ne162
      have ow224 := ow215.other (o := (.lst (acc178 ++ [(V.int r205)]))) ne163
      have hB225 := hB211.other (o := (.lst (acc178 ++ [(V.int r205)]))) nb164
      have ow226 := ow216.put (us := (acc178 ++ [(V.int r205)]))
      exact ⟨F208, (acc178 ++ [(V.int r205)]), (ds179 ++ [r205]), rest218, b206, g222, (Same.trans sm183 g210.ff), ow226, hA217, (by rw [List.length_append]; exact Nat.succ_le_succ hi186), ow223, ow224, hB225, h220, (snoc_rest hr191)⟩
    intro H227 hP
    obtain ⟨F228, acc229, ds230, _rest, b231, g0232, sm233, owD234, hA235, hi236, ow0237, ow1238, hB239, hm240, hr241⟩ := hP
    rw [drop_end (rangeL_len _ _).symm] at hm240
    rw [m_l_order_c2.eq_1] at hm240
    obtain ⟨rfl, rfl⟩ := pjoin hm240
    rw [List.append_nil] at hr241
    obtain rfl := hr241
    have hl242 : acc229.length ≤ sizeLine := Nat.le_trans hi236 hk158.2
    refine p_name ?_
    refine p_nx ?_
    refine p_seq ?_
    refine p_asg ?_
    obtain ⟨r243, b244, hb245, hm⟩ := bnd2 hm
    refine ⟨(V.ref B), rfl, F228, B, C, b231, (9 : Int), r243, b244, rfl, g0232.fh, hB239, hb245, fun F246 H247 g248 hB249 => ?_⟩
    have g251 := Gr.trans g0232 g248
    have ow252 := ow0237.gr g248 nb3
    have ow253 := ow1238.gr g248 nb135
    have ow254 := owD234.gr g248 nb164
    obtain ⟨r255, b256, hb257, hm⟩ := bnd2 hm
    refine ⟨(V.ref B), rfl, _, _, rfl, rfl, ⟨by decide, by decide, by decide⟩, F246, B, C, b244, ((10 : Int) ^ (9 : Int).toNat), r255, b256, rfl, g251.fh, hB249, hb257, fun F258 H259 g260 hB261 => ?_⟩
    have g263 := Gr.trans g251 g260
    have ow264 := ow252.gr g260 nb3
    have ow265 := ow253.gr g260 nb135
    have ow266 := ow254.gr g260 nb164
    refine ⟨(by show 4 ≤ sizeLine; decide), fun p267 np268 => ?_⟩
    have ne269 := ow264.ne np268
    have ne270 := ow265.ne np268
    have ne271 := ow266.ne np268
    have nb272 := hB261.nb np268
    have g273 := g263.own (o := (.lst [V.non, (V.int r243), (V.int r255), V.non])) np268
    have ow274 := ow264.own (o := (.lst [V.non, (V.int r243), (V.int r255), V.non])) np268
    have ow275 := ow265.own (o := (.lst [V.non, (V.int r243), (V.int r255), V.non])) np268
    have ow276 := ow266.own (o := (.lst [V.non, (V.int r243), (V.int r255), V.non])) np268
    have hB277 := hB261.own (o := (.lst [V.non, (V.int r243), (V.int r255), V.non])) np268
    have ow278 : Ow H0 F258 (upd H259 p267 (.lst [V.non, (V.int r243), (V.int r255), V.non])) p267 [V.non, (V.int r243), (V.int r255), V.non] := Ow.new g263 np268
    have hA279 : RL K F258 [V.non, (V.int r243), (V.int r255), V.non] ([(none : (Option Int)), (some r243), (some r255), (none : (Option Int))] : List (Option Int)) := (RpA.cons Rp.non (RpA.cons (Rp.int r243) (RpA.cons (Rp.int r255) (RpA.cons Rp.non RpA.nil))))
    obtain ⟨r280, b281, hb282, hm⟩ := bnd2 hm
    refine ⟨(V.ref B), rfl, F258, B, C, b256, (4 : Int), r280, b281, rfl, g273.fh, hB277, hb282, fun F283 H284 g285 hB286 => ?_⟩
    have g288 := Gr.trans g273 g285
    have ow289 := ow274.gr g285 nb3
    have ow290 := ow275.gr g285 nb135
    have ow291 := ow276.gr g285 nb164
    have ow292 := ow278.gr g285 nb272
    obtain ⟨t293, hb294, hm⟩ := bnd hm
    obtain ⟨v295, ha296, r297⟩ := RL.at (hA279.up g285.ff) hb294
    refine ⟨p267, [V.non, (V.int r243), (V.int r255), V.non], _, v295, rfl, rfl, ow292.sq, ha296, ?_⟩
    refine p_name ?_
    refine p_nx ?_
    refine p_ret ?_
    obtain ⟨p298, v301, v302, v303, v304, ev299, hS300, r305, r306, r307, r308⟩ := R.p4_v r_y_town_here
    obtain rfl := R.int_v r305
    obtain rfl := R.int_v r306
    obtain ⟨p309, ws310, ev311, hS312, hl313, hA314⟩ := R.lst_v r308
    obtain ⟨r315, b316, hb317, hm⟩ := bnd2 hm
    refine ⟨(V.ref B), rfl, v_y_town_here, rfl, p298, _, _, v304, ev299, rfl, (SqT_mono g288.fh (SqT_mono (Same.trans g22.ff (Same.trans sm126 (Same.trans g146.ff (Same.trans sm233 (Same.trans g248.ff (Same.trans g260.ff g285.ff)))))) hS300)), rfl, p309, ws310, _, (by rw [ev311]), (.inl (Same.seq g288.fh (Same.seq (Same.trans g22.ff (Same.trans sm126 (Same.trans g146.ff (Same.trans sm233 (Same.trans g248.ff (Same.trans g260.ff g285.ff)))))) hS312))), (RL.len (hA314.up (Same.trans g22.ff (Same.trans sm126 (Same.trans g146.ff (Same.trans sm233 (Same.trans g248.ff (Same.trans g260.ff g285.ff)))))))), F283, B, C, b281, (((y_town_here.e).length : Nat) : Int), r315, b316, rfl, g288.fh, hB286, hb317, fun F318 H319 g320 hB321 => ?_⟩
    have g323 := Gr.trans g288 g320
    have ow324 := ow289.gr g320 nb3
    have ow325 := ow290.gr g320 nb135
    have ow326 := ow291.gr g320 nb164
    have ow327 := ow292.gr g320 nb272
    have hA330 := (hA_y_by129.up (Same.trans g146.ff (Same.trans sm233 (Same.trans g248.ff (Same.trans g260.ff (Same.trans g285.ff g320.ff))))))
    refine ⟨(V.ref p1), rfl, (.inl ⟨p1, ws_y_by123, rfl, ow324.sq, fun q328 nq329 => ?_⟩)⟩
    have ne331 := ow324.ne nq329
    have ne332 := ow325.ne nq329
    have ne333 := ow326.ne nq329
    have ne334 := ow327.ne nq329
    have nb335 := hB321.nb nq329
    have sm336 := same_new (o := (.tup ws_y_by123)) (g323.noneF nq329)
    have g337 := g323.frz (o := (.tup ws_y_by123)) nq329
    have ow338 := ow324.frz (o := (.tup ws_y_by123)) nq329
    have ow339 := ow325.frz (o := (.tup ws_y_by123)) nq329
    have ow340 := ow326.frz (o := (.tup ws_y_by123)) nq329
    have ow341 := ow327.frz (o := (.tup ws_y_by123)) nq329
    have hB342 := hB321.frz (o := (.tup ws_y_by123)) nq329
    have r343 : R K (upd F318 q328 (.tup ws_y_by123)) (.ref q328) ((VT.mk y_by122) : (VT Int)) := R.mkvt fzT hl_y_by128 (hA330.up sm336)
    obtain ⟨t344, hb345, hm⟩ := bnd hm
    obtain ⟨hk346, hss_⟩ := ssetO_ok hb345
    subst hss_
    refine ⟨(V.ref D160), rfl, D160, ds230, rfl, (by rw [← RL.ints (hA235.up (Same.trans g248.ff (Same.trans g260.ff (Same.trans g285.ff (Same.trans g320.ff sm336)))))]; exact ow340.sq), hk346, fun ns347 p351 so348 mm349 ln350 np352 => ?_⟩
    obtain rfl := ssort_uniq so348 mm349
    have hl353 : ((ssort ds230).map V.int).length ≤ sizeLine := by rw [List.length_map, sizeLine_eq]; omega
    have hA354 : RL K (upd F318 q328 (.tup ws_y_by123)) ((ssort ds230).map V.int) (ssort ds230) := RL.ofInts _
    have ne355 := ow338.ne np352
    have ne356 := ow339.ne np352
    have ne357 := ow340.ne np352
    have ne358 := ow341.ne np352
    have nb359 := hB342.nb np352
    have g360 := g337.own (o := (.lst ((ssort ds230).map V.int))) np352
    have ow361 := ow338.own (o := (.lst ((ssort ds230).map V.int))) np352
    have ow362 := ow339.own (o := (.lst ((ssort ds230).map V.int))) np352
    have ow363 := ow340.own (o := (.lst ((ssort ds230).map V.int))) np352
    have ow364 := ow341.own (o := (.lst ((ssort ds230).map V.int))) np352
    have hB365 := hB342.own (o := (.lst ((ssort ds230).map V.int))) np352
    have ow366 : Ow H0 (upd F318 q328 (.tup ws_y_by123)) (upd (upd H319 q328 (.tup ws_y_by123)) p351 (.lst ((ssort ds230).map V.int))) p351 ((ssort ds230).map V.int) := Ow.new g337 np352
    have hA369 := hA354
    refine (.inl ⟨p351, ((ssort ds230).map V.int), rfl, ow366.sq, fun q367 nq368 => ?_⟩)
    have ne370 := ow361.ne nq368
    have ne371 := ow362.ne nq368
    have ne372 := ow363.ne nq368
    have ne373 := ow364.ne nq368
    have ne374 := ow366.ne nq368
    have nb375 := hB365.nb nq368
    have sm376 := same_new (o := (.tup ((ssort ds230).map V.int))) (g360.noneF nq368)
    have g377 := g360.frz (o := (.tup ((ssort ds230).map V.int))) nq368
    have ow378 := ow361.frz (o := (.tup ((ssort ds230).map V.int))) nq368
    have ow379 := ow362.frz (o := (.tup ((ssort ds230).map V.int))) nq368
    have ow380 := ow363.frz (o := (.tup ((ssort ds230).map V.int))) nq368
    have ow381 := ow364.frz (o := (.tup ((ssort ds230).map V.int))) nq368
    have ow382 := ow366.frz (o := (.tup ((ssort ds230).map V.int))) nq368
    have hB383 := hB365.frz (o := (.tup ((ssort ds230).map V.int))) nq368
    have r384 : R K (upd (upd F318 q328 (.tup ws_y_by123)) q367 (.tup ((ssort ds230).map V.int))) (.ref q367) ((VT.mk (ssort ds230)) : (VT Int)) := R.mkvt fzT hl353 (hA369.up sm376)
    refine ⟨v295, rfl, (by show 4 ≤ sizeLine; decide), fun p385 np386 => ?_⟩
    have ne387 := ow378.ne np386
    have ne388 := ow379.ne np386
    have ne389 := ow380.ne np386
    have ne390 := ow381.ne np386
    have ne391 := ow382.ne np386
    have nb392 := hB383.nb np386
    have sm393 := same_new (o := (.tup [(V.int r315), (V.ref q328), (V.ref q367), v295])) (g377.noneF np386)
    have g394 := g377.frz (o := (.tup [(V.int r315), (V.ref q328), (V.ref q367), v295])) np386
    have ow395 := ow378.frz (o := (.tup [(V.int r315), (V.ref q328), (V.ref q367), v295])) np386
    have ow396 := ow379.frz (o := (.tup [(V.int r315), (V.ref q328), (V.ref q367), v295])) np386
    have ow397 := ow380.frz (o := (.tup [(V.int r315), (V.ref q328), (V.ref q367), v295])) np386
    have ow398 := ow381.frz (o := (.tup [(V.int r315), (V.ref q328), (V.ref q367), v295])) np386
    have ow399 := ow382.frz (o := (.tup [(V.int r315), (V.ref q328), (V.ref q367), v295])) np386
    have hB400 := hB383.frz (o := (.tup [(V.int r315), (V.ref q328), (V.ref q367), v295])) np386
    have r401 : R K (upd (upd (upd F318 q328 (.tup ws_y_by123)) q367 (.tup ((ssort ds230).map V.int))) p385 (.tup [(V.int r315), (V.ref q328), (V.ref q367), v295])) (.ref p385) ((T4.mk r315 (VT.mk y_by122) (VT.mk (ssort ds230)) t293) : (T4 Int (VT Int) (VT Int) (Option Int))) := R.mk4 fzT (Rp.int r315) (r343.up (Same.trans sm376 sm393)) (r384.up sm393) (r297.up (Same.trans g320.ff (Same.trans sm336 (Same.trans sm376 sm393))))
    obtain ⟨rfl, rfl⟩ := pjoin hm
    exact (hQ _ _ _ g394 hB400 r401)
end K13
namespace K13
open PySem PySem.Spec PyProof.Rows L2 TL G
theorem ok_l_near {P : Program} {w : World} {K : PySem.W.Frag} {mg : Str → Option Value} {base : Heap} (T : Txt K mg) : FnOk P w K mg base CX0 3 T.a_l_near T.d_l_near ["_law_bag_here", "_law_town_here", "_law_order_here"] (sp_l_near K) := by
  have G_l_draw : FnOk P w K mg base CX0 2 T.a_l_draw T.d_l_draw ["_law_bag_here", "_law_many"] (sp_l_draw K) := ok_l_draw T
  have b_l_draw := T.F_l_draw.bindsN (ps := ["_law_bag_here", "_law_many"]) fun _ _ _ _ _ _ us hl => match us, hl with | [_, _], _ => rfl
  refine fd_ok T.F_l_near sc_l_near (fun vs H Q E h => ?_) (fun cdv A outer s H0 vs Q E hr h => ?_)
  · obtain ⟨_, _, _, _, _, _, _, _, _, _, rfl, _⟩ := h
    rfl
  · obtain ⟨F0, B, C, b, v_y_town_here, y_town_here, v_y_order_here, y_order_here, r, b', rfl, hS0, hB, r_y_town_here, r_y_order_here, hm, hQ⟩ := h
    refine ⟨_, (pss_cons (ps_asg (pv 2) (pg_tupK (K := K) 4 rfl (pgs_cons (pg_name (i := 3) sc_l_near.nd rfl (Or.inl rfl)) (pgs_cons (pg_name (i := 4) sc_l_near.nd rfl (Or.inl rfl)) (pgs_cons (pg_name (i := 5) sc_l_near.nd rfl (Or.inl rfl)) (pgs_cons (pg_name (i := 6) sc_l_near.nd rfl (Or.inl rfl)) pgs_nil)))))) (pss_cons (ps_set (i := 7) sc_l_near.nd rfl (.inl rfl) (pe_call G_l_draw (hr.mono (by decide)) (by rfl) T.g_l_draw T.F_l_draw.kp b_l_draw .nil pass0 (pa_cons (pv 0) (pa_cons pe_int pa_nil)))) (pss_cut (ps_if (pt_cmpR op_eq (pv 7) pe_int (nomark _)) (pss_one (ps_set (i := 6) sc_l_near.nd rfl (.inl rfl) (pe_ifExp (pt_cmpR op_isO (pv 6) pe_non (nomark _)) pe_int pe_non))) pss_nil) (pss_cut (ps_if (pt_cmpR op_eq (pv 7) pe_int (nomark _)) (pss_one (ps_set (i := 4) sc_l_near.nd rfl (.inl rfl) (pe_revTK (K := K) (pv 4)))) pss_nil) (pss_cut (ps_if (pt_cmpR op_eq (pv 7) pe_int (nomark _)) (pss_one (ps_set (i := 5) sc_l_near.nd rfl (.inl rfl) (pe_slice (sl_tupF (K := K)) (pv 5) (po_some pe_int) po_none))) pss_nil) (pss_cut (ps_if (pt_cmpR op_eq (pv 7) pe_int (nomark _)) (pss_one (ps_set (i := 3) sc_l_near.nd rfl (.inl rfl) (pe_call G_l_draw (hr.mono (by decide)) (by rfl) T.g_l_draw T.F_l_draw.kp b_l_draw .nil pass0 (pa_cons (pv 0) (pa_cons (pe_callB (call_lenLK (K := K)) (by rfl) T.n_len (by decide +kernel) (pa_cons (pe_ix (ix_tupK (K := K)) (pv 1) pe_int (fun _ _ => rfl)) pa_nil)) pa_nil))))) pss_nil) (pss_cons (ps_if (PW.pt (pw_and (pt_cmpR op_eq (pv 7) pe_int (nomark _)) (pw_and1 (pt_cmpR (op_eqDK (K := K) hr.units) (pe_callTy (call_list_of_ (K := K)) (by rfl) T.n_list (by decide +kernel) (pa_cons (pv 4) pa_nil)) (pe_ssetTK (K := K) rfl (by rfl) T.n_sorted (by rfl) T.n_set (pv 4)) (nomark _))))) (pss_one (ps_ret (pe_tup (pa_cons (pv 3) (pa_cons (pv 5) (pa_cons (pv 4) (pa_cons (pv 6) pa_nil))))))) pss_nil) (pss_one (ps_ret (pe_tup (pa_cons (pv 3) (pa_cons (pv 4) (pa_cons (pv 5) (pa_cons (pv 6) pa_nil)))))))))))))), ?_⟩
    have g0 : Gr (Bc B C) F0 H0 F0 H0 := Gr.refl hS0
    unfold m_l_near at hm
    refine p_seq ?_
    refine p_asg ?_
    refine ⟨v_y_order_here, rfl, ?_⟩
    obtain ⟨p1, v4, v5, v6, v7, ev2, hS3, r8, r9, r10, r11⟩ := R.p4_v r_y_order_here
    obtain rfl := R.int_v r8
    refine ⟨p1, [(V.int y_order_here.a), v5, v6, v7], ev2, (SqT_mono g0.fh hS3), rfl, (V.int y_order_here.a), [v5, v6, v7], rfl, v5, [v6, v7], rfl, v6, [v7], rfl, v7, [], rfl, rfl, ?_⟩
    refine p_nx ?_
    refine p_seq ?_
    refine p_asg ?_
    obtain ⟨r12, b13, hb14, hm⟩ := bnd2 hm
    refine ⟨(V.ref B), rfl, F0, B, C, b, (5 : Int), r12, b13, rfl, g0.fh, hB, hb14, fun F15 H16 g17 hB18 => ?_⟩
    have g20 := Gr.trans g0 g17
    refine p_name ?_
    refine p_nx ?_
    obtain ⟨y_most21, hj22, hm⟩ := bnd hm
    refine ⟨fun σ' H' => ∃ (F' : Hp) (v_y_most21 : V), σ' = [(some (V.ref B)), (some v_y_town_here), (some v_y_order_here), (some (V.int y_order_here.a)), (some v5), (some v6), (some v_y_most21), (some (V.int r12))] ∧ Gr (Bc B C) F0 H0 F' H' ∧ Same F15 F' ∧ R K F' v_y_most21 y_most21 ∧ BagAt F' H' B C b13, ?_, ?_⟩
    · refine p_if ?_
      refine ⟨(V.int r12), rfl, rfl, _, rfl, (iteB (fun hc => ?_) (fun hc => ?_))⟩
      · have hj22 := ifT hc hj22
        refine p_asg ?_
        refine ⟨v7, rfl, _, rfl, (isN_eq (r11.up g17.ff)), _, rfl, ?_⟩
        refine ifJ (M := M0) (F := F15) (P := fun v' F' H' => R K F' v' ((if (y_order_here.e).isNone then (some (5 : Int)) else (none : (Option Int))) : (Option Int))) (fun ha => ?_) (fun ha => ?_) ?_
        · intro Q25 q26
          have ha : (y_order_here.e).isNone = true := ha
          exact (q26 _ _ _ (Gr.refl (M := M0) g20.fh) (by rw [if_pos ha]; exact (Rp.int (5 : Int))))
        · intro Q27 q28
          have ha : (y_order_here.e).isNone = false := ha
          exact (q28 _ _ _ (Gr.refl (M := M0) g20.fh) (by rw [if_neg (ne_true_of_eq_false ha)]; exact Rp.non))
        intro v32 F29 H30 g31 hp33
        have g35 := Gr.trans g20 (Gr.of0 g31)
        have hB36 := hB18.gr0 g31
        obtain ⟨y_most37, hb38, hj22⟩ := bnd hj22
        have hx39 : (if (y_order_here.e).isNone then (some (5 : Int)) else (none : (Option Int))) = y_most37 := sjoin hb38
        have r40 : R K _ v32 y_most37 := hx39 ▸ (hp33 : R K _ v32 (if (y_order_here.e).isNone then (some (5 : Int)) else (none : (Option Int))))
        refine p_name ?_
        obtain rfl := sjoin hj22
        exact ⟨F29, v32, rfl, g35, g31.ff, r40, hB36⟩
      · have hj22 := ifF hc hj22
        refine p_next ?_
        obtain rfl := sjoin hj22
        exact ⟨F15, v7, rfl, g20, (Same.refl _), (r11.up g17.ff), hB18⟩
    intro σ41 H42 hMid
    obtain ⟨F43, v_y_most2149, rfl, g44, sm45, r_y_most2146, hB47⟩ := hMid
    obtain ⟨y_by50, hj51, hm⟩ := bnd hm
    refine ⟨fun σ' H' => ∃ (F' : Hp) (v_y_by50 : V), σ' = [(some (V.ref B)), (some v_y_town_here), (some v_y_order_here), (some (V.int y_order_here.a)), (some v_y_by50), (some v6), (some v_y_most2149), (some (V.int r12))] ∧ Gr (Bc B C) F0 H0 F' H' ∧ Same F43 F' ∧ R K F' v_y_by50 y_by50 ∧ BagAt F' H' B C b13, ?_, ?_⟩
    · refine p_if ?_
      refine ⟨(V.int r12), rfl, rfl, _, rfl, (iteB (fun hc => ?_) (fun hc => ?_))⟩
      · have hj51 := ifT hc hj51
        refine p_asg ?_
        obtain ⟨p52, ws53, ev54, hs58, hl56, hA57⟩ := R.vt_s r9
        have hS55 : SqT K _ p52 ws53 := .inl (.inl hs58)
        refine ⟨v5, rfl, p52, ws53, ev54, (SqT_mono g44.fh (SqT_mono (Same.trans g17.ff sm45) hS55)), fun p59 np60 => ?_⟩
        have hA61 := RL.rev (hA57.up (Same.trans g17.ff sm45))
        have nb62 := hB47.nb np60
        have sm63 := same_new (o := (.tup ws53.reverse)) (g44.noneF np60)
        have g64 := g44.frz (o := (.tup ws53.reverse)) np60
        have hB65 := hB47.frz (o := (.tup ws53.reverse)) np60
        have r66 : R K (upd F43 p59 (.tup ws53.reverse)) (.ref p59) (VT.mk (y_order_here.b).l.reverse : (VT Int)) := R.mkvt fzT (by rw [List.length_reverse]; exact hl56) (hA61.up sm63)
        obtain ⟨y_by67, hb68, hj51⟩ := bnd hj51
        have hx69 : (VT.mk (y_order_here.b).l.reverse : (VT Int)) = y_by67 := sjoin hb68
        have r70 : R K _ (V.ref p59) y_by67 := hx69 ▸ (r66 : R K _ (V.ref p59) (VT.mk (y_order_here.b).l.reverse : (VT Int)))
        refine p_name ?_
        obtain rfl := sjoin hj51
        exact ⟨(upd F43 p59 (.tup ws53.reverse)), (V.ref p59), rfl, g64, sm63, r70, hB65⟩
      · have hj51 := ifF hc hj51
        refine p_next ?_
        obtain rfl := sjoin hj51
        exact ⟨F43, v5, rfl, g44, (Same.refl _), (r9.up (Same.trans g17.ff sm45)), hB47⟩
    intro σ71 H72 hMid
    obtain ⟨F73, v_y_by5079, rfl, g74, sm75, r_y_by5076, hB77⟩ := hMid
    obtain ⟨y_past80, hj81, hm⟩ := bnd hm
    refine ⟨fun σ' H' => ∃ (F' : Hp) (v_y_past80 : V), σ' = [(some (V.ref B)), (some v_y_town_here), (some v_y_order_here), (some (V.int y_order_here.a)), (some v_y_by5079), (some v_y_past80), (some v_y_most2149), (some (V.int r12))] ∧ Gr (Bc B C) F0 H0 F' H' ∧ Same F73 F' ∧ R K F' v_y_past80 y_past80 ∧ BagAt F' H' B C b13, ?_, ?_⟩
    · refine p_if ?_
      refine ⟨(V.int r12), rfl, rfl, _, rfl, (iteB (fun hc => ?_) (fun hc => ?_))⟩
      · have hj81 := ifT hc hj81
        refine p_asg ?_
        obtain ⟨p82, ws83, ev84, hs88, hl86, hA87⟩ := R.vt_s r10
        have hS85 : SqT K _ p82 ws83 := .inl (.inl hs88)
        refine ⟨v6, rfl, _, rfl, F73, p82, ws83, ev84, (sm75 _ _ (sm45 _ _ (g17.ff _ _ hs88))), g74.fh, fun q89 F90 H91 g92 hs93 => ?_⟩
        have hA94 := RL.cut (some (1 : Int)) none (hA87.up (Same.trans g17.ff (Same.trans sm45 sm75)))
        have g95 := Gr.trans g74 (Gr.of0 g92)
        have hB96 := hB77.gr0 g92
        have r97 : R K F90 (.ref q89) ((VT.mk (cutL (y_order_here.c).l (some (1 : Int)) none)) : (VT Int)) := R.mkvt hs93 (Nat.le_trans (cutV_length _ _ _) hl86) (RpA.up hA94 g92.ff)
        obtain ⟨y_past98, hb99, hj81⟩ := bnd hj81
        have hx100 : (VT.mk (cutL (y_order_here.c).l (some (1 : Int)) none)) = y_past98 := sjoin hb99
        have r101 : R K _ (V.ref q89) y_past98 := hx100 ▸ (r97 : R K _ (V.ref q89) (VT.mk (cutL (y_order_here.c).l (some (1 : Int)) none)))
        refine p_name ?_
        obtain rfl := sjoin hj81
        exact ⟨F90, (V.ref q89), rfl, g95, g92.ff, r101, hB96⟩
      · have hj81 := ifF hc hj81
        refine p_next ?_
        obtain rfl := sjoin hj81
        exact ⟨F73, v6, rfl, g74, (Same.refl _), (r10.up (Same.trans g17.ff (Same.trans sm45 sm75))), hB77⟩
    intro σ102 H103 hMid
    obtain ⟨F104, v_y_past80110, rfl, g105, sm106, r_y_past80107, hB108⟩ := hMid
    obtain ⟨y_gate111, b112, hj113, hm⟩ := bnd2 hm
    refine ⟨fun σ' H' => ∃ (F' : Hp), σ' = [(some (V.ref B)), (some v_y_town_here), (some v_y_order_here), (some (V.int y_gate111)), (some v_y_by5079), (some v_y_past80110), (some v_y_most2149), (some (V.int r12))] ∧ Gr (Bc B C) F0 H0 F' H' ∧ Same F104 F' ∧ BagAt F' H' B C b112, ?_, ?_⟩
    · refine p_if ?_
      refine ⟨(V.int r12), rfl, rfl, _, rfl, (iteB (fun hc => ?_) (fun hc => ?_))⟩
      · have hj113 := ifT hc hj113
        refine p_asg ?_
        obtain ⟨p114, v117, v118, v119, v120, ev115, hS116, r121, r122, r123, r124⟩ := R.p4_v r_y_town_here
        obtain rfl := R.int_v r121
        obtain rfl := R.int_v r122
        obtain ⟨p125, ws126, ev127, hS128, hl129, hA130⟩ := R.lst_v r124
        obtain ⟨r131, b132, hb133, hj113⟩ := bnd2 hj113
        refine ⟨(V.ref B), rfl, v_y_town_here, rfl, p114, _, _, v120, ev115, rfl, (SqT_mono g105.fh (SqT_mono (Same.trans g17.ff (Same.trans sm45 (Same.trans sm75 sm106))) hS116)), rfl, p125, ws126, _, (by rw [ev127]), (.inl (Same.seq g105.fh (Same.seq (Same.trans g17.ff (Same.trans sm45 (Same.trans sm75 sm106))) hS128))), (RL.len (hA130.up (Same.trans g17.ff (Same.trans sm45 (Same.trans sm75 sm106))))), F104, B, C, b13, (((y_town_here.e).length : Nat) : Int), r131, b132, rfl, g105.fh, hB108, hb133, fun F134 H135 g136 hB137 => ?_⟩
        have g139 := Gr.trans g105 g136
        refine p_name ?_
        obtain ⟨rfl, rfl⟩ := pjoin hj113
        exact ⟨F134, rfl, g139, g136.ff, hB137⟩
      · have hj113 := ifF hc hj113
        refine p_next ?_
        obtain ⟨rfl, rfl⟩ := pjoin hj113
        exact ⟨F104, rfl, g105, (Same.refl _), hB108⟩
    intro σ140 H141 hMid
    obtain ⟨F142, rfl, g143, sm144, hB145⟩ := hMid
    refine p_seq ?_
    refine p_if ?_
    refine ⟨(V.int r12), rfl, rfl, _, rfl, ?_⟩
    obtain ⟨c147, hc148, hm⟩ := bnd hm
    refine andJT (M := M0) (F := F142) (c := c147) (P := fun _ _ => True) (fun ha => ?_) (fun ha => ⟨(sjoin (ifF ha hc148)).symm, trivial⟩) g143.fh ?_
    · intro Q150 q151
      have hc148 := ifT ha hc148
      obtain ⟨p152, ws153, ev154, hs158, hl156, hA157⟩ := R.vt_s r_y_by5076
      have hS155 : SqT K _ p152 ws153 := .inl (.inl hs158)
      refine ⟨v_y_by5079, rfl, p152, ws153, (by rw [ev154]), (.inr (SqT_mono g143.fh (SqT_mono (Same.trans sm106 sm144) hS155))), fun p159 np160 => ?_⟩
      have hA161 := (hA157.up (Same.trans sm106 sm144))
      have nb162 := hB145.nb np160
      have g163 := g143.own (o := (.lst ws153)) np160
      have g164 := (Gr.refl (M := M0) g143.fh).own (o := (.lst ws153)) np160
      have hB165 := hB145.own (o := (.lst ws153)) np160
      have ow166 : Ow H0 F142 (upd H141 p159 (.lst ws153)) p159 ws153 := Ow.new g143 np160
      obtain ⟨t167, hb168, hc148⟩ := bnd hc148
      obtain ⟨hk169, hss_⟩ := ssetO_ok hb168
      subst hss_
      refine ⟨v_y_by5079, rfl, p152, (y_by50).l, (by rw [ev154]), (by rw [← RL.ints (hA157.up (Same.trans sm106 sm144))]; exact (SqT_mono g163.fh (SqT_mono (Same.trans sm106 sm144) hS155))), hk169, fun ns170 p174 so171 mm172 ln173 np175 => ?_⟩
      obtain rfl := ssort_uniq so171 mm172
      have hl176 : ((ssort (y_by50).l).map V.int).length ≤ sizeLine := by rw [List.length_map, sizeLine_eq]; omega
      have hA177 : RL K F142 ((ssort (y_by50).l).map V.int) (ssort (y_by50).l) := RL.ofInts _
      have ne178 := ow166.ne np175
      have nb179 := hB165.nb np175
      have g180 := g163.own (o := (.lst ((ssort (y_by50).l).map V.int))) np175
      have g181 := g164.own (o := (.lst ((ssort (y_by50).l).map V.int))) np175
      have ow182 := ow166.own (o := (.lst ((ssort (y_by50).l).map V.int))) np175
      have hB183 := hB165.own (o := (.lst ((ssort (y_by50).l).map V.int))) np175
      have ow184 : Ow H0 F142 (upd (upd H141 p159 (.lst ws153)) p174 (.lst ((ssort (y_by50).l).map V.int))) p174 ((ssort (y_by50).l).map V.int) := Ow.new g163 np175
      have rH185 : R K (upd (upd H141 p159 (.lst ws153)) p174 (.lst ((ssort (y_by50).l).map V.int))) (V.ref p159) (y_by50).l := (R.mkl ow182.sq hl156 (RpA.up hA161 g180.fh))
      have rH186 : R K (upd (upd H141 p159 (.lst ws153)) p174 (.lst ((ssort (y_by50).l).map V.int))) (V.ref p174) (ssort (y_by50).l) := (R.mkl ow184.sq hl176 (RpA.up hA177 g180.fh))
      obtain rfl := sjoin hc148
      refine ⟨_, _, (Rp.dp _ _ rH185), (Rp.dp _ _ rH186), (R.shaped rH185), (R.shaped rH186), _, rfl, (q151 _ _ g181 trivial)⟩
    intro F187 H188 g189 hB190
    have g191 := Gr.trans g143 (Gr.of0 g189)
    have hB192 := hB145.gr0 g189
    refine (iteB (fun hc => ?_) (fun hc => ?_))
    · have hm := ifT hc hm
      refine p_ret ?_
      refine ⟨(V.int y_gate111), rfl, v_y_past80110, rfl, v_y_by5079, rfl, v_y_most2149, rfl, (by show 4 ≤ sizeLine; decide), fun p193 np194 => ?_⟩
      have nb195 := hB192.nb np194
      have sm196 := same_new (o := (.tup [(V.int y_gate111), v_y_past80110, v_y_by5079, v_y_most2149])) (g191.noneF np194)
      have g197 := g191.frz (o := (.tup [(V.int y_gate111), v_y_past80110, v_y_by5079, v_y_most2149])) np194
      have hB198 := hB192.frz (o := (.tup [(V.int y_gate111), v_y_past80110, v_y_by5079, v_y_most2149])) np194
      have r199 : R K (upd F187 p193 (.tup [(V.int y_gate111), v_y_past80110, v_y_by5079, v_y_most2149])) (.ref p193) ((T4.mk y_gate111 y_past80 y_by50 y_most21) : (T4 Int (VT Int) (VT Int) (Option Int))) := R.mk4 fzT (Rp.int y_gate111) (r_y_past80107.up (Same.trans sm144 (Same.trans g189.ff sm196))) (r_y_by5076.up (Same.trans sm106 (Same.trans sm144 (Same.trans g189.ff sm196)))) (r_y_most2146.up (Same.trans sm75 (Same.trans sm106 (Same.trans sm144 (Same.trans g189.ff sm196)))))
      obtain ⟨rfl, rfl⟩ := pjoin hm
      exact (hQ _ _ _ g197 hB198 r199)
    · have hm := ifF hc hm
      refine p_next ?_
      refine p_nx ?_
      refine p_ret ?_
      refine ⟨(V.int y_gate111), rfl, v_y_by5079, rfl, v_y_past80110, rfl, v_y_most2149, rfl, (by show 4 ≤ sizeLine; decide), fun p200 np201 => ?_⟩
      have nb202 := hB192.nb np201
      have sm203 := same_new (o := (.tup [(V.int y_gate111), v_y_by5079, v_y_past80110, v_y_most2149])) (g191.noneF np201)
      have g204 := g191.frz (o := (.tup [(V.int y_gate111), v_y_by5079, v_y_past80110, v_y_most2149])) np201
      have hB205 := hB192.frz (o := (.tup [(V.int y_gate111), v_y_by5079, v_y_past80110, v_y_most2149])) np201
      have r206 : R K (upd F187 p200 (.tup [(V.int y_gate111), v_y_by5079, v_y_past80110, v_y_most2149])) (.ref p200) ((T4.mk y_gate111 y_by50 y_past80 y_most21) : (T4 Int (VT Int) (VT Int) (Option Int))) := R.mk4 fzT (Rp.int y_gate111) (r_y_by5076.up (Same.trans sm106 (Same.trans sm144 (Same.trans g189.ff sm203)))) (r_y_past80107.up (Same.trans sm144 (Same.trans g189.ff sm203))) (r_y_most2146.up (Same.trans sm75 (Same.trans sm106 (Same.trans sm144 (Same.trans g189.ff sm203)))))
      obtain ⟨rfl, rfl⟩ := pjoin hm
      exact (hQ _ _ _ g204 hB205 r206)
end K13
namespace K13
open PySem PySem.Spec PyProof.Rows L2 TL G
theorem ok_l_gates {P : Program} {w : World} {K : PySem.W.Frag} {mg : Str → Option Value} {base : Heap} (T : Txt K mg) : FnOk P w K mg base CX0 3 T.a_l_gates T.d_l_gates ["_law_bag_here", "_law_town_here"] (sp_l_gates K) := by
  have G_l_draw : FnOk P w K mg base CX0 2 T.a_l_draw T.d_l_draw ["_law_bag_here", "_law_many"] (sp_l_draw K) := ok_l_draw T
  have b_l_draw := T.F_l_draw.bindsN (ps := ["_law_bag_here", "_law_many"]) fun _ _ _ _ _ _ us hl => match us, hl with | [_, _], _ => rfl
  refine fd_ok T.F_l_gates sc_l_gates (fun vs H Q E h => ?_) (fun cdv A outer s H0 vs Q E hr h => ?_)
  · obtain ⟨_, _, _, _, _, _, _, _, rfl, _⟩ := h
    rfl
  · obtain ⟨F0, B, C, b, v_y_town_here, y_town_here, r, b', rfl, hS0, hB, r_y_town_here, hm, hQ⟩ := h
    refine ⟨_, (pss_cons (ps_if (pt_cmpR op_eq (pe_call G_l_draw (hr.mono (by decide)) (by rfl) T.g_l_draw T.F_l_draw.kp b_l_draw .nil pass0 (pa_cons (pv 0) (pa_cons pe_int pa_nil))) pe_int (nomark _)) (pss_one (ps_ret pe_non)) pss_nil) (pss_cons (ps_setLc (i := 2) (own := [("_law_k", 3)]) rfl sc_l_gates.nd rfl rfl (sw_true rfl rfl rfl (by decide +kernel)) (pi_range1 (by rfl) T.n_range (pa_cons (pe_ix (ix_listK (K := K)) (pe_lst (pa_cons pe_int (pa_cons pe_int (pa_cons pe_int (pa_cons pe_int pa_nil))))) (pe_call G_l_draw (hr.mono (by decide)) (by rfl) T.g_l_draw T.F_l_draw.kp b_l_draw .nil pass0 (pa_cons (pv 0) (pa_cons pe_int pa_nil))) (fun _ _ => rfl)) pa_nil)) (blkOk_by (own := [("_law_k", 3)]) (N := N_l_gates) (sc := defScope s_l_gates) (by decide +kernel)) (fun _ _ _ _ _ => (pg_name (i := 3) sc_l_gates.nd rfl (Or.inl rfl) (.inr rfl))) (fun _ _ _ _ _ => pts_nil) (fun _ _ _ _ _ => (pe_call G_l_draw (hr.mono (by decide)) (by rfl) T.g_l_draw T.F_l_draw.kp b_l_draw .nil pass0 (pa_cons (pv 0) (pa_cons (pe_callB (call_lenLK (K := K)) (by rfl) T.n_len (by decide +kernel) (pa_cons (pe_ix (ix_tupK (K := K)) (pv 1) pe_int (fun _ _ => rfl)) pa_nil)) pa_nil))))) (pss_one (ps_ret (pe_tupleOfK (K := K) (by rfl) T.n_tuple (pe_ssetK (K := K) rfl (by rfl) T.n_sorted (by rfl) T.n_set (pv 2))))))), ?_⟩
    have g0 : Gr (Bc B C) F0 H0 F0 H0 := Gr.refl hS0
    unfold m_l_gates at hm
    refine p_seq ?_
    refine p_if ?_
    obtain ⟨r1, b2, hb3, hm⟩ := bnd2 hm
    refine ⟨(V.ref B), rfl, F0, B, C, b, (3 : Int), r1, b2, rfl, g0.fh, hB, hb3, fun F4 H5 g6 hB7 => ?_⟩
    have g9 := Gr.trans g0 g6
    refine ⟨rfl, _, rfl, (iteB (fun hc => ?_) (fun hc => ?_))⟩
    · have hm := ifT hc hm
      refine p_ret ?_
      obtain ⟨rfl, rfl⟩ := pjoin hm
      exact (hQ _ _ _ g9 hB7 Rp.non)
    · have hm := ifF hc hm
      refine p_next ?_
      refine p_nx ?_
      refine p_seq ?_
      refine p_asg ?_
      refine ⟨(by show 4 ≤ sizeLine; decide), fun p10 np11 => ?_⟩
      have nb12 := hB7.nb np11
      have g13 := g9.own (o := (.lst [(V.int (1 : Int)), (V.int (1 : Int)), (V.int (2 : Int)), (V.int (8 : Int))])) np11
      have hB14 := hB7.own (o := (.lst [(V.int (1 : Int)), (V.int (1 : Int)), (V.int (2 : Int)), (V.int (8 : Int))])) np11
      have ow15 : Ow H0 F4 (upd H5 p10 (.lst [(V.int (1 : Int)), (V.int (1 : Int)), (V.int (2 : Int)), (V.int (8 : Int))])) p10 [(V.int (1 : Int)), (V.int (1 : Int)), (V.int (2 : Int)), (V.int (8 : Int))] := Ow.new g9 np11
      have hA16 : RL K F4 [(V.int (1 : Int)), (V.int (1 : Int)), (V.int (2 : Int)), (V.int (8 : Int))] ([(1 : Int), (1 : Int), (2 : Int), (8 : Int)] : List Int) := (RpA.cons (Rp.int (1 : Int)) (RpA.cons (Rp.int (1 : Int)) (RpA.cons (Rp.int (2 : Int)) (RpA.cons (Rp.int (8 : Int)) RpA.nil))))
      obtain ⟨r17, b18, hb19, hm⟩ := bnd2 hm
      refine ⟨(V.ref B), rfl, F4, B, C, b2, (4 : Int), r17, b18, rfl, g13.fh, hB14, hb19, fun F20 H21 g22 hB23 => ?_⟩
      have g25 := Gr.trans g13 g22
      have ow26 := ow15.gr g22 nb12
      obtain ⟨t27, hb28, hm⟩ := bnd hm
      obtain ⟨v29, ha30, r31⟩ := RL.at (hA16.up g22.ff) hb28
      obtain rfl := R.int_v r31
      obtain ⟨l32, hb34, hm⟩ := bnd hm
      obtain ⟨hk33, rfl⟩ := rangeO1_ok hb34
      refine ⟨p10, [(V.int (1 : Int)), (V.int (1 : Int)), (V.int (2 : Int)), (V.int (8 : Int))], _, (V.int t27), rfl, rfl, ow26.sq, ha30, _, rfl, hk33.1.1, hk33.1.2, fun D35 nD36 => ?_⟩
      have ne37 := ow26.ne nD36
      have nb38 := hB23.nb nD36
      have g39 := g25.own (o := (.lst [])) nD36
      have ow40 := ow26.own (o := (.lst [])) nD36
      have hB41 := hB23.own (o := (.lst [])) nD36
      have ow42 : Ow H0 F20 (upd H21 D35 (.lst [])) D35 [] := Ow.new g25 nD36
      obtain ⟨l43, b44, hb45, hm⟩ := bnd2 hm
      refine lc_range (lo := (0 : Int)) (n := (t27).toNat) (fun i H' => ∃ (F' : Hp) (acc : List V) (ds : List Int) (rest : List Int) (b : Bag), Gr (Bc B C) F0 H0 F' H' ∧ Same F20 F' ∧ Ow H0 F' H' D35 acc ∧ RL K F' acc ds ∧ acc.length ≤ i ∧ Ow H0 F' H' p10 [(V.int (1 : Int)), (V.int (1 : Int)), (V.int (2 : Int)), (V.int (8 : Int))] ∧ BagAt F' H' B C b ∧ m_l_gates_c1 y_town_here ((rangeL (0 : Int) (t27).toNat).drop i) b = some (rest, b44) ∧ ds ++ rest = l43) ?_ ?_ ?_
      · exact ⟨F20, [], [], l43, b18, g39, Same.refl _, ow42, RpA.nil, Nat.le_refl _, ow40, hB41, hb45, rfl⟩
      · intro i47 H49 hx48 hP
        obtain ⟨F50, acc51, ds52, rest53, b54, g055, sm56, owD57, hA58, hi59, ow060, hB61, hm62, hr63⟩ := hP
        have he65 := rangeL_at (lo := (0 : Int)) hx48
        rw [drop_at he65, m_l_gates_c1.eq_2] at hm62
        refine ⟨rfl, (p_yes ?_)⟩
        obtain ⟨p66, v69, v70, v71, v72, ev67, hS68, r73, r74, r75, r76⟩ := R.p4_v r_y_town_here
        obtain rfl := R.int_v r73
        obtain rfl := R.int_v r74
        obtain ⟨p77, ws78, ev79, hS80, hl81, hA82⟩ := R.lst_v r76
        obtain ⟨r83, b84, hb85, hm62⟩ := bnd2 hm62
        refine ⟨(V.ref B), rfl, v_y_town_here, rfl, p66, _, _, v72, ev67, rfl, (SqT_mono g055.fh (SqT_mono (Same.trans g6.ff (Same.trans g22.ff sm56)) hS68)), rfl, p77, ws78, _, (by rw [ev79]), (.inl (Same.seq g055.fh (Same.seq (Same.trans g6.ff (Same.trans g22.ff sm56)) hS80))), (RL.len (hA82.up (Same.trans g6.ff (Same.trans g22.ff sm56)))), F50, B, C, b54, (((y_town_here.e).length : Nat) : Int), r83, b84, rfl, g055.fh, hB61, hb85, fun F86 H87 g88 hB89 => ?_⟩
        have g91 := Gr.trans g055 g88
        have ow92 := ow060.gr g88 nb12
        have ow93 := owD57.gr g88 nb38
        have hA94 : RL K F86 (acc51 ++ [(V.int r83)]) (ds52 ++ [(r83 : Int)]) := RL.snoc (hA58.up g88.ff) (Rp.int r83)
        obtain ⟨rest95, b96, h97, h98⟩ := bnd2 hm62
        obtain ⟨rfl, rfl⟩ := pjoin h98
        refine ⟨acc51, ow93.h, (lt_line hi59 hx48 hk33.2), ?_⟩
        have g99 := g91.put (o := (.lst (acc51 ++ [(V.int r83)]))) ow93
        have ow100 := ow92.other (o := (.lst (acc51 ++ [(V.int r83)]))) ne37
        have hB101 := hB89.other (o := (.lst (acc51 ++ [(V.int r83)]))) nb38
        have ow102 := ow93.put (us := (acc51 ++ [(V.int r83)]))
        exact ⟨F86, (acc51 ++ [(V.int r83)]), (ds52 ++ [r83]), rest95, b84, g99, (Same.trans sm56 g88.ff), ow102, hA94, (by rw [List.length_append]; exact Nat.succ_le_succ hi59), ow100, hB101, h97, (snoc_rest hr63)⟩
      intro H103 hP
      obtain ⟨F104, acc105, ds106, _rest, b107, g0108, sm109, owD110, hA111, hi112, ow0113, hB114, hm115, hr116⟩ := hP
      rw [drop_end (rangeL_len _ _).symm] at hm115
      rw [m_l_gates_c1.eq_1] at hm115
      obtain ⟨rfl, rfl⟩ := pjoin hm115
      rw [List.append_nil] at hr116
      obtain rfl := hr116
      have hl117 : acc105.length ≤ sizeLine := Nat.le_trans hi112 hk33.2
      refine p_name ?_
      refine p_nx ?_
      refine p_ret ?_
      obtain ⟨t118, hb119, hm⟩ := bnd hm
      obtain ⟨hk120, hss_⟩ := ssetO_ok hb119
      subst hss_
      refine ⟨(V.ref D35), rfl, D35, ds106, rfl, (by rw [← RL.ints hA111]; exact owD110.sq), hk120, fun ns121 p125 so122 mm123 ln124 np126 => ?_⟩
      obtain rfl := ssort_uniq so122 mm123
      have hl127 : ((ssort ds106).map V.int).length ≤ sizeLine := by rw [List.length_map, sizeLine_eq]; omega
      have hA128 : RL K F104 ((ssort ds106).map V.int) (ssort ds106) := RL.ofInts _
      have ne129 := ow0113.ne np126
      have ne130 := owD110.ne np126
      have nb131 := hB114.nb np126
      have g132 := g0108.own (o := (.lst ((ssort ds106).map V.int))) np126
      have ow133 := ow0113.own (o := (.lst ((ssort ds106).map V.int))) np126
      have ow134 := owD110.own (o := (.lst ((ssort ds106).map V.int))) np126
      have hB135 := hB114.own (o := (.lst ((ssort ds106).map V.int))) np126
      have ow136 : Ow H0 F104 (upd H103 p125 (.lst ((ssort ds106).map V.int))) p125 ((ssort ds106).map V.int) := Ow.new g0108 np126
      have hA139 := hA128
      refine (.inl ⟨p125, ((ssort ds106).map V.int), rfl, ow136.sq, fun q137 nq138 => ?_⟩)
      have ne140 := ow133.ne nq138
      have ne141 := ow134.ne nq138
      have ne142 := ow136.ne nq138
      have nb143 := hB135.nb nq138
      have sm144 := same_new (o := (.tup ((ssort ds106).map V.int))) (g132.noneF nq138)
      have g145 := g132.frz (o := (.tup ((ssort ds106).map V.int))) nq138
      have ow146 := ow133.frz (o := (.tup ((ssort ds106).map V.int))) nq138
      have ow147 := ow134.frz (o := (.tup ((ssort ds106).map V.int))) nq138
      have ow148 := ow136.frz (o := (.tup ((ssort ds106).map V.int))) nq138
      have hB149 := hB135.frz (o := (.tup ((ssort ds106).map V.int))) nq138
      have r150 : R K (upd F104 q137 (.tup ((ssort ds106).map V.int))) (.ref q137) ((VT.mk (ssort ds106)) : (VT Int)) := R.mkvt fzT hl127 (hA139.up sm144)
      obtain ⟨rfl, rfl⟩ := pjoin hm
      exact (hQ _ _ _ g145 hB149 r150)
end K13
namespace K13
open PySem PySem.Spec PyProof.Rows L2 TL G
theorem ok_l_wish {P : Program} {w : World} {K : PySem.W.Frag} {mg : Str → Option Value} {base : Heap} (T : Txt K mg) : FnOk P w K mg base CX0 4 T.a_l_wish T.d_l_wish ["_law_bag_here", "_law_town_here", "_law_name", "_law_pool"] (sp_l_wish K) := by
  have G_l_draw : FnOk P w K mg base CX0 2 T.a_l_draw T.d_l_draw ["_law_bag_here", "_law_many"] (sp_l_draw K) := ok_l_draw T
  have b_l_draw := T.F_l_draw.bindsN (ps := ["_law_bag_here", "_law_many"]) fun _ _ _ _ _ _ us hl => match us, hl with | [_, _], _ => rfl
  have G_l_pattern : FnOk P w K mg base CX0 3 T.a_l_pattern T.d_l_pattern ["_law_bag_here", "_law_bits"] (sp_l_pattern K) := ok_l_pattern T
  have b_l_pattern := T.F_l_pattern.bindsN (ps := ["_law_bag_here", "_law_bits"]) fun _ _ _ _ _ _ us hl => match us, hl with | [_, _], _ => rfl
  have G_l_gates : FnOk P w K mg base CX0 3 T.a_l_gates T.d_l_gates ["_law_bag_here", "_law_town_here"] (sp_l_gates K) := ok_l_gates T
  have b_l_gates := T.F_l_gates.bindsN (ps := ["_law_bag_here", "_law_town_here"]) fun _ _ _ _ _ _ us hl => match us, hl with | [_, _], _ => rfl
  refine fd_ok T.F_l_wish sc_l_wish (fun vs H Q E h => ?_) (fun cdv A outer s H0 vs Q E hr h => ?_)
  · obtain ⟨_, _, _, _, _, _, _, _, _, _, _, _, rfl, _⟩ := h
    rfl
  · obtain ⟨F0, B, C, b, v_y_town_here, y_town_here, y_name, p_y_pool, ws_y_pool, y_pool, r, b', rfl, hS0, hB, r_y_town_here, gs_y_name, hS_y_pool, hl_y_pool, hA_y_pool, nm_y_pool, hm, hQ⟩ := h
    refine ⟨_, (pss_cons (ps_set (i := 4) sc_l_wish.nd rfl (.inl rfl) (pe_ix (ix_listK (K := K)) (pe_lst (pa_cons (pe_call G_l_draw (hr.mono (by decide)) (by rfl) T.g_l_draw T.F_l_draw.kp b_l_draw .nil pass0 (pa_cons (pv 0) (pa_cons pe_int pa_nil))) (pa_cons (pe_call G_l_draw (hr.mono (by decide)) (by rfl) T.g_l_draw T.F_l_draw.kp b_l_draw .nil pass0 (pa_cons (pv 0) (pa_cons pe_int pa_nil))) pa_nil))) (pe_call G_l_draw (hr.mono (by decide)) (by rfl) T.g_l_draw T.F_l_draw.kp b_l_draw .nil pass0 (pa_cons (pv 0) (pa_cons pe_int pa_nil))) (fun _ _ => rfl))) (pss_cons (ps_setLc (i := 5) (own := [("_law_k", 6)]) rfl sc_l_wish.nd rfl rfl (sw_true rfl rfl rfl (by decide +kernel)) (pi_range1 (by rfl) T.n_range (pa_cons (pe_ix (ix_listK (K := K)) (pe_lst (pa_cons pe_int (pa_cons pe_int (pa_cons pe_int (pa_cons pe_int pa_nil))))) (pe_call G_l_draw (hr.mono (by decide)) (by rfl) T.g_l_draw T.F_l_draw.kp b_l_draw .nil pass0 (pa_cons (pv 0) (pa_cons pe_int pa_nil))) (fun _ _ => rfl)) pa_nil)) (blkOk_by (own := [("_law_k", 6)]) (N := N_l_wish) (sc := defScope s_l_wish) (by decide +kernel)) (fun _ _ _ _ _ => (pg_name (i := 6) sc_l_wish.nd rfl (Or.inl rfl) (.inr rfl))) (fun _ _ _ _ _ => pts_nil) (fun _ _ _ _ _ => (pe_call G_l_pattern (hr.mono (by decide)) (by rfl) T.g_l_pattern T.F_l_pattern.kp b_l_pattern .nil pass0 (pa_cons (pv 0) (pa_cons (pe_ix (ix_tupK (K := K)) (pv 1) pe_int (fun _ _ => rfl)) pa_nil))))) (pss_one (ps_ret (pe_tup (pa_cons (pv 2) (pa_cons (pv 4) (pa_cons (pe_tupleOfK (K := K) (by rfl) T.n_tuple (pv 5)) (pa_cons (pe_call G_l_gates (hr.mono (by decide)) (by rfl) T.g_l_gates T.F_l_gates.kp b_l_gates .nil pass0 (pa_cons (pv 0) (pa_cons (pv 1) pa_nil))) (pa_cons (pe_ix (ix_listK (K := K)) (pv 3) (pe_call G_l_draw (hr.mono (by decide)) (by rfl) T.g_l_draw T.F_l_draw.kp b_l_draw .nil pass0 (pa_cons (pv 0) (pa_cons pe_int pa_nil))) (fun _ _ => rfl)) pa_nil)))))))))), ?_⟩
    have g0 : Gr (Bc B C) F0 H0 F0 H0 := Gr.refl hS0
    unfold m_l_wish at hm
    refine p_seq ?_
    refine p_asg ?_
    obtain ⟨r1, b2, hb3, hm⟩ := bnd2 hm
    refine ⟨(V.ref B), rfl, F0, B, C, b, (2 : Int), r1, b2, rfl, g0.fh, hB, hb3, fun F4 H5 g6 hB7 => ?_⟩
    have g9 := Gr.trans g0 g6
    obtain ⟨r10, b11, hb12, hm⟩ := bnd2 hm
    refine ⟨(V.ref B), rfl, F4, B, C, b2, (10 : Int), r10, b11, rfl, g9.fh, hB7, hb12, fun F13 H14 g15 hB16 => ?_⟩
    have g18 := Gr.trans g9 g15
    refine ⟨(by show 2 ≤ sizeLine; decide), fun p19 np20 => ?_⟩
    have nb21 := hB16.nb np20
    have g22 := g18.own (o := (.lst [(V.int r1), (V.int r10)])) np20
    have hB23 := hB16.own (o := (.lst [(V.int r1), (V.int r10)])) np20
    have ow24 : Ow H0 F13 (upd H14 p19 (.lst [(V.int r1), (V.int r10)])) p19 [(V.int r1), (V.int r10)] := Ow.new g18 np20
    have hA25 : RL K F13 [(V.int r1), (V.int r10)] ([r1, r10] : List Int) := (RpA.cons (Rp.int r1) (RpA.cons (Rp.int r10) RpA.nil))
    obtain ⟨r26, b27, hb28, hm⟩ := bnd2 hm
    refine ⟨(V.ref B), rfl, F13, B, C, b11, (2 : Int), r26, b27, rfl, g22.fh, hB23, hb28, fun F29 H30 g31 hB32 => ?_⟩
    have g34 := Gr.trans g22 g31
    have ow35 := ow24.gr g31 nb21
    obtain ⟨t36, hb37, hm⟩ := bnd hm
    obtain ⟨v38, ha39, r40⟩ := RL.at (hA25.up g31.ff) hb37
    obtain rfl := R.int_v r40
    refine ⟨p19, [(V.int r1), (V.int r10)], _, (V.int t36), rfl, rfl, ow35.sq, ha39, ?_⟩
    refine p_name ?_
    refine p_nx ?_
    refine p_seq ?_
    refine p_asg ?_
    refine ⟨(by show 4 ≤ sizeLine; decide), fun p41 np42 => ?_⟩
    have ne43 := ow35.ne np42
    have nb44 := hB32.nb np42
    have g45 := g34.own (o := (.lst [(V.int (1 : Int)), (V.int (1 : Int)), (V.int (2 : Int)), (V.int (4 : Int))])) np42
    have ow46 := ow35.own (o := (.lst [(V.int (1 : Int)), (V.int (1 : Int)), (V.int (2 : Int)), (V.int (4 : Int))])) np42
    have hB47 := hB32.own (o := (.lst [(V.int (1 : Int)), (V.int (1 : Int)), (V.int (2 : Int)), (V.int (4 : Int))])) np42
    have ow48 : Ow H0 F29 (upd H30 p41 (.lst [(V.int (1 : Int)), (V.int (1 : Int)), (V.int (2 : Int)), (V.int (4 : Int))])) p41 [(V.int (1 : Int)), (V.int (1 : Int)), (V.int (2 : Int)), (V.int (4 : Int))] := Ow.new g34 np42
    have hA49 : RL K F29 [(V.int (1 : Int)), (V.int (1 : Int)), (V.int (2 : Int)), (V.int (4 : Int))] ([(1 : Int), (1 : Int), (2 : Int), (4 : Int)] : List Int) := (RpA.cons (Rp.int (1 : Int)) (RpA.cons (Rp.int (1 : Int)) (RpA.cons (Rp.int (2 : Int)) (RpA.cons (Rp.int (4 : Int)) RpA.nil))))
    obtain ⟨r50, b51, hb52, hm⟩ := bnd2 hm
    refine ⟨(V.ref B), rfl, F29, B, C, b27, (4 : Int), r50, b51, rfl, g45.fh, hB47, hb52, fun F53 H54 g55 hB56 => ?_⟩
    have g58 := Gr.trans g45 g55
    have ow59 := ow46.gr g55 nb21
    have ow60 := ow48.gr g55 nb44
    obtain ⟨t61, hb62, hm⟩ := bnd hm
    obtain ⟨v63, ha64, r65⟩ := RL.at (hA49.up g55.ff) hb62
    obtain rfl := R.int_v r65
    obtain ⟨l66, hb68, hm⟩ := bnd hm
    obtain ⟨hk67, rfl⟩ := rangeO1_ok hb68
    refine ⟨p41, [(V.int (1 : Int)), (V.int (1 : Int)), (V.int (2 : Int)), (V.int (4 : Int))], _, (V.int t61), rfl, rfl, ow60.sq, ha64, _, rfl, hk67.1.1, hk67.1.2, fun D69 nD70 => ?_⟩
    have ne71 := ow59.ne nD70
    have ne72 := ow60.ne nD70
    have nb73 := hB56.nb nD70
    have g74 := g58.own (o := (.lst [])) nD70
    have ow75 := ow59.own (o := (.lst [])) nD70
    have ow76 := ow60.own (o := (.lst [])) nD70
    have hB77 := hB56.own (o := (.lst [])) nD70
    have ow78 : Ow H0 F53 (upd H54 D69 (.lst [])) D69 [] := Ow.new g58 nD70
    obtain ⟨l79, b80, hb81, hm⟩ := bnd2 hm
    refine lc_range (lo := (0 : Int)) (n := (t61).toNat) (fun i H' => ∃ (F' : Hp) (acc : List V) (ds : List Str) (rest : List Str) (b : Bag), Gr (Bc B C) F0 H0 F' H' ∧ Same F53 F' ∧ Ow H0 F' H' D69 acc ∧ RL K F' acc ds ∧ acc.length ≤ i ∧ Ow H0 F' H' p19 [(V.int r1), (V.int r10)] ∧ Ow H0 F' H' p41 [(V.int (1 : Int)), (V.int (1 : Int)), (V.int (2 : Int)), (V.int (4 : Int))] ∧ BagAt F' H' B C b ∧ m_l_wish_c1 y_town_here ((rangeL (0 : Int) (t61).toNat).drop i) b = some (rest, b80) ∧ ds ++ rest = l79) ?_ ?_ ?_
    · exact ⟨F53, [], [], l79, b51, g74, Same.refl _, ow78, RpA.nil, Nat.le_refl _, ow75, ow76, hB77, hb81, rfl⟩
    · intro i83 H85 hx84 hP
      obtain ⟨F86, acc87, ds88, rest89, b90, g091, sm92, owD93, hA94, hi95, ow096, ow197, hB98, hm99, hr100⟩ := hP
      have he102 := rangeL_at (lo := (0 : Int)) hx84
      rw [drop_at he102, m_l_wish_c1.eq_2] at hm99
      refine ⟨rfl, (p_yes ?_)⟩
      obtain ⟨p103, v106, v107, v108, v109, ev104, hS105, r110, r111, r112, r113⟩ := R.p4_v r_y_town_here
      obtain rfl := R.int_v r110
      obtain rfl := R.int_v r111
      obtain ⟨r114, b115, hb116, hm99⟩ := bnd2 hm99
      refine ⟨(V.ref B), rfl, v_y_town_here, rfl, p103, _, _, (V.int y_town_here.a), ev104, rfl, (SqT_mono g091.fh (SqT_mono (Same.trans g6.ff (Same.trans g15.ff (Same.trans g31.ff (Same.trans g55.ff sm92)))) hS105)), rfl, F86, B, C, b90, y_town_here.a, r114, b115, rfl, g091.fh, hB98, hb116, fun F117 H118 g119 hB120 gs121 => ?_⟩
      have g122 := Gr.trans g091 g119
      have ow123 := ow096.gr g119 nb21
      have ow124 := ow197.gr g119 nb44
      have ow125 := owD93.gr g119 nb73
      have hA126 : RL K F117 (acc87 ++ [(V.str r114)]) (ds88 ++ [(r114 : Str)]) := RL.snoc (hA94.up g119.ff) (Rp.str r114 gs121)
      obtain ⟨rest127, b128, h129, h130⟩ := bnd2 hm99
      obtain ⟨rfl, rfl⟩ := pjoin h130
      refine ⟨acc87, ow125.h, (lt_line hi95 hx84 hk67.2), ?_⟩
      have g131 := g122.put (o := (.lst (acc87 ++ [(V.str r114)]))) ow125
      have ow132 := ow123.other (o := (.lst (acc87 ++ [(V.str r114)]))) ne71
      have ow133 := ow124.other (o := (.lst (acc87 ++ [(V.str r114)]))) ne72
      have hB134 := hB120.other (o := (.lst (acc87 ++ [(V.str r114)]))) nb73
      have ow135 := ow125.put (us := (acc87 ++ [(V.str r114)]))
      exact ⟨F117, (acc87 ++ [(V.str r114)]), (ds88 ++ [r114]), rest127, b115, g131, (Same.trans sm92 g119.ff), ow135, hA126, (by rw [List.length_append]; exact Nat.succ_le_succ hi95), ow132, ow133, hB134, h129, (snoc_rest hr100)⟩
    intro H136 hP
    obtain ⟨F137, acc138, ds139, _rest, b140, g0141, sm142, owD143, hA144, hi145, ow0146, ow1147, hB148, hm149, hr150⟩ := hP
    rw [drop_end (rangeL_len _ _).symm] at hm149
    rw [m_l_wish_c1.eq_1] at hm149
    obtain ⟨rfl, rfl⟩ := pjoin hm149
    rw [List.append_nil] at hr150
    obtain rfl := hr150
    have hl151 : acc138.length ≤ sizeLine := Nat.le_trans hi145 hk67.2
    refine p_name ?_
    refine p_nx ?_
    refine p_ret ?_
    have hA154 := hA144
    refine ⟨(V.str y_name), rfl, (V.int t36), rfl, (V.ref D69), rfl, (.inl ⟨D69, acc138, rfl, owD143.sq, fun q152 nq153 => ?_⟩)⟩
    have ne155 := ow0146.ne nq153
    have ne156 := ow1147.ne nq153
    have ne157 := owD143.ne nq153
    have nb158 := hB148.nb nq153
    have sm159 := same_new (o := (.tup acc138)) (g0141.noneF nq153)
    have g160 := g0141.frz (o := (.tup acc138)) nq153
    have ow161 := ow0146.frz (o := (.tup acc138)) nq153
    have ow162 := ow1147.frz (o := (.tup acc138)) nq153
    have ow163 := owD143.frz (o := (.tup acc138)) nq153
    have hB164 := hB148.frz (o := (.tup acc138)) nq153
    have r165 : R K (upd F137 q152 (.tup acc138)) (.ref q152) ((VT.mk ds139) : (VT Str)) := R.mkvt fzT hl151 (hA154.up sm159)
    obtain ⟨r166, b167, hb168, hm⟩ := bnd2 hm
    refine ⟨(V.ref B), rfl, v_y_town_here, rfl, (upd F137 q152 (.tup acc138)), B, C, b140, v_y_town_here, y_town_here, r166, b167, rfl, g160.fh, hB164, (r_y_town_here.up (Same.trans g6.ff (Same.trans g15.ff (Same.trans g31.ff (Same.trans g55.ff (Same.trans sm142 sm159)))))), hb168, fun v173 F169 H170 g171 hB172 r174 => ?_⟩
    have g175 := Gr.trans g160 g171
    have ow176 := ow161.gr g171 nb21
    have ow177 := ow162.gr g171 nb44
    have ow178 := ow163.gr g171 nb73
    obtain ⟨r179, b180, hb181, hm⟩ := bnd2 hm
    refine ⟨(V.ref p_y_pool), rfl, (V.ref B), rfl, F169, B, C, b167, (4 : Int), r179, b180, rfl, g175.fh, hB172, hb181, fun F182 H183 g184 hB185 => ?_⟩
    have g187 := Gr.trans g175 g184
    have ow188 := ow176.gr g184 nb21
    have ow189 := ow177.gr g184 nb44
    have ow190 := ow178.gr g184 nb73
    obtain ⟨t191, hb192, hm⟩ := bnd hm
    obtain ⟨v193, ha194, r195⟩ := RL.at (hA_y_pool.up (Same.trans g6.ff (Same.trans g15.ff (Same.trans g31.ff (Same.trans g55.ff (Same.trans sm142 (Same.trans sm159 (Same.trans g171.ff g184.ff)))))))) hb192
    refine ⟨p_y_pool, ws_y_pool, _, v193, rfl, rfl, (nm_y_pool _ _ g187), ha194, (by show 5 ≤ sizeLine; decide), fun p196 np197 => ?_⟩
    have ne198 := ow188.ne np197
    have ne199 := ow189.ne np197
    have ne200 := ow190.ne np197
    have nb201 := hB185.nb np197
    have sm202 := same_new (o := (.tup [(V.str y_name), (V.int t36), (V.ref q152), v173, v193])) (g187.noneF np197)
    have g203 := g187.frz (o := (.tup [(V.str y_name), (V.int t36), (V.ref q152), v173, v193])) np197
    have ow204 := ow188.frz (o := (.tup [(V.str y_name), (V.int t36), (V.ref q152), v173, v193])) np197
    have ow205 := ow189.frz (o := (.tup [(V.str y_name), (V.int t36), (V.ref q152), v173, v193])) np197
    have ow206 := ow190.frz (o := (.tup [(V.str y_name), (V.int t36), (V.ref q152), v173, v193])) np197
    have hB207 := hB185.frz (o := (.tup [(V.str y_name), (V.int t36), (V.ref q152), v173, v193])) np197
    have r208 : R K (upd F182 p196 (.tup [(V.str y_name), (V.int t36), (V.ref q152), v173, v193])) (.ref p196) ((T5.mk y_name t36 (VT.mk ds139) r166 t191) : (T5 Str Int (VT Str) (Option (VT Int)) (Option (T4 Int (VT Int) (VT Int) (Option Int))))) := R.mk5 fzT (Rp.str y_name gs_y_name) (Rp.int t36) (r165.up (Same.trans g171.ff (Same.trans g184.ff sm202))) (r174.up (Same.trans g184.ff sm202)) (r195.up sm202)
    obtain ⟨rfl, rfl⟩ := pjoin hm
    exact (hQ _ _ _ g203 hB207 r208)
end K13
namespace K13
open PySem PySem.Spec PyProof.Rows L2 TL G
theorem ok_l_rows {P : Program} {w : World} {K : PySem.W.Frag} {mg : Str → Option Value} {base : Heap} (T : Txt K mg) : FnOk P w K mg base CX0 5 T.a_l_rows T.d_l_rows ["_law_bag_here", "_law_town_here", "_law_most"] (sp_l_rows K) := by
  have G_l_names : FnOk P w K mg base CX0 3 T.a_l_names T.d_l_names ["_law_bag_here"] (sp_l_names K) := ok_l_names T
  have b_l_names := T.F_l_names.bindsN (ps := ["_law_bag_here"]) fun _ _ _ _ _ _ us hl => match us, hl with | [_], _ => rfl
  have G_l_order : FnOk P w K mg base CX0 3 T.a_l_order T.d_l_order ["_law_bag_here", "_law_town_here"] (sp_l_order K) := ok_l_order T
  have b_l_order := T.F_l_order.bindsN (ps := ["_law_bag_here", "_law_town_here"]) fun _ _ _ _ _ _ us hl => match us, hl with | [_, _], _ => rfl
  have G_l_near : FnOk P w K mg base CX0 3 T.a_l_near T.d_l_near ["_law_bag_here", "_law_town_here", "_law_order_here"] (sp_l_near K) := ok_l_near T
  have b_l_near := T.F_l_near.bindsN (ps := ["_law_bag_here", "_law_town_here", "_law_order_here"]) fun _ _ _ _ _ _ us hl => match us, hl with | [_, _, _], _ => rfl
  have G_l_draw : FnOk P w K mg base CX0 2 T.a_l_draw T.d_l_draw ["_law_bag_here", "_law_many"] (sp_l_draw K) := ok_l_draw T
  have b_l_draw := T.F_l_draw.bindsN (ps := ["_law_bag_here", "_law_many"]) fun _ _ _ _ _ _ us hl => match us, hl with | [_, _], _ => rfl
  have G_l_wish : FnOk P w K mg base CX0 4 T.a_l_wish T.d_l_wish ["_law_bag_here", "_law_town_here", "_law_name", "_law_pool"] (sp_l_wish K) := ok_l_wish T
  have b_l_wish := T.F_l_wish.bindsN (ps := ["_law_bag_here", "_law_town_here", "_law_name", "_law_pool"]) fun _ _ _ _ _ _ us hl => match us, hl with | [_, _, _, _], _ => rfl
  refine fd_ok T.F_l_rows sc_l_rows (fun vs H Q E h => ?_) (fun cdv A outer s H0 vs Q E hr h => ?_)
  · obtain ⟨_, _, _, _, _, _, _, _, _, rfl, _⟩ := h
    rfl
  · obtain ⟨F0, B, C, b, v_y_town_here, y_town_here, y_most, r, b', rfl, hS0, hB, r_y_town_here, hm, hQ⟩ := h
    refine ⟨_, (pss_cons (ps_set (i := 3) sc_l_rows.nd rfl (.inr rfl) (pe_call G_l_names (hr.mono (by decide)) (by rfl) T.g_l_names T.F_l_names.kp b_l_names .nil pass0 (pa_cons (pv 0) pa_nil))) (pss_cons (ps_set (i := 4) sc_l_rows.nd rfl (.inl rfl) (pe_call G_l_order (hr.mono (by decide)) (by rfl) T.g_l_order T.F_l_order.kp b_l_order .nil pass0 (pa_cons (pv 0) (pa_cons (pv 1) pa_nil)))) (pss_cons (ps_set (i := 5) sc_l_rows.nd rfl (.inr rfl) (pe_lst (pa_cons (pv 4) (pa_cons (pe_call G_l_near (hr.mono (by decide)) (by rfl) T.g_l_near T.F_l_near.kp b_l_near .nil pass0 (pa_cons (pv 0) (pa_cons (pv 1) (pa_cons (pv 4) pa_nil)))) (pa_cons (pe_call G_l_order (hr.mono (by decide)) (by rfl) T.g_l_order T.F_l_order.kp b_l_order .nil pass0 (pa_cons (pv 0) (pa_cons (pv 1) pa_nil))) (pa_cons pe_non pa_nil)))))) (pss_cons (ps_set (i := 6) sc_l_rows.nd rfl (.inl rfl) (pe_ix (ix_listK (K := K)) (pe_lst (pa_cons (pe_op op_add pe_int (pe_call G_l_draw (hr.mono (by decide)) (by rfl) T.g_l_draw T.F_l_draw.kp b_l_draw .nil pass0 (pa_cons (pv 0) (pa_cons pe_int pa_nil)))) (pa_cons (pe_call G_l_draw (hr.mono (by decide)) (by rfl) T.g_l_draw T.F_l_draw.kp b_l_draw .nil pass0 (pa_cons (pv 0) (pa_cons (pe_op op_add (pv 2) pe_int) pa_nil))) (pa_cons (pe_op op_add pe_int (pe_call G_l_draw (hr.mono (by decide)) (by rfl) T.g_l_draw T.F_l_draw.kp b_l_draw .nil pass0 (pa_cons (pv 0) (pa_cons pe_int pa_nil)))) pa_nil)))) (pe_call G_l_draw (hr.mono (by decide)) (by rfl) T.g_l_draw T.F_l_draw.kp b_l_draw .nil pass0 (pa_cons (pv 0) (pa_cons pe_int pa_nil))) (fun _ _ => rfl))) (pss_one (ps_ret (pe_lc (own := [("_law_k", 7)]) rfl sc_l_rows.nd (pi_range1 (by rfl) T.n_range (pa_cons (pe_callB (call_min2 rfl) (by rfl) T.n_min (by decide +kernel) (pa_cons (pv 2) (pa_cons (pv 6) pa_nil))) pa_nil)) (blkOk_by (own := [("_law_k", 7)]) (N := N_l_rows) (sc := defScope s_l_rows) (by decide +kernel)) (fun _ _ _ _ _ => (pg_name (i := 7) sc_l_rows.nd rfl (Or.inl rfl) (.inr rfl))) (fun _ _ _ _ _ => pts_nil) (fun _ _ _ _ _ => (pe_call G_l_wish (hr.mono (by decide)) (by rfl) T.g_l_wish T.F_l_wish.kp b_l_wish .nil pass0 (pa_cons (pv 0) (pa_cons (pv 1) (pa_cons (pe_ix (ix_listK (K := K)) (pv 3) (pv 7) (fun _ _ => rfl)) (pa_cons (pv 5) pa_nil))))))))))))), ?_⟩
    have g0 : Gr (Bc B C) F0 H0 F0 H0 := Gr.refl hS0
    unfold m_l_rows at hm
    refine p_seq ?_
    refine p_asg ?_
    obtain ⟨r1, b2, hb3, hm⟩ := bnd2 hm
    refine ⟨(V.ref B), rfl, F0, B, C, b, r1, b2, rfl, g0.fh, hB, hb3, fun p8 ws9 F4 H5 g6 hB7 np10 h11 nF12 hl13 hA14 => ?_⟩
    have nb15 := hB.nb np10
    have n016 := g0.none0 np10
    have g17 := Gr.trans g0 g6
    have ow18 : Ow H0 F4 H5 p8 ws9 := ⟨h11, nF12, n016⟩
    refine p_name ?_
    refine p_nx ?_
    refine p_seq ?_
    refine p_asg ?_
    obtain ⟨r19, b20, hb21, hm⟩ := bnd2 hm
    refine ⟨(V.ref B), rfl, v_y_town_here, rfl, F4, B, C, b2, v_y_town_here, y_town_here, r19, b20, rfl, g17.fh, hB7, (r_y_town_here.up g6.ff), hb21, fun v26 F22 H23 g24 hB25 r27 => ?_⟩
    have g28 := Gr.trans g17 g24
    have ow29 := ow18.gr g24 nb15
    refine p_name ?_
    refine p_nx ?_
    refine p_seq ?_
    refine p_asg ?_
    obtain ⟨r30, b31, hb32, hm⟩ := bnd2 hm
    refine ⟨v26, rfl, (V.ref B), rfl, v_y_town_here, rfl, v26, rfl, F22, B, C, b20, v_y_town_here, y_town_here, v26, r19, r30, b31, rfl, g28.fh, hB25, (r_y_town_here.up (Same.trans g6.ff g24.ff)), r27, hb32, fun v37 F33 H34 g35 hB36 r38 => ?_⟩
    have g39 := Gr.trans g28 g35
    have ow40 := ow29.gr g35 nb15
    obtain ⟨r41, b42, hb43, hm⟩ := bnd2 hm
    refine ⟨(V.ref B), rfl, v_y_town_here, rfl, F33, B, C, b31, v_y_town_here, y_town_here, r41, b42, rfl, g39.fh, hB36, (r_y_town_here.up (Same.trans g6.ff (Same.trans g24.ff g35.ff))), hb43, fun v48 F44 H45 g46 hB47 r49 => ?_⟩
    have g50 := Gr.trans g39 g46
    have ow51 := ow40.gr g46 nb15
    refine ⟨(by show 4 ≤ sizeLine; decide), fun p52 np53 => ?_⟩
    have ne54 := ow51.ne np53
    have nb55 := hB47.nb np53
    have g56 := g50.own (o := (.lst [v26, v37, v48, V.non])) np53
    have ow57 := ow51.own (o := (.lst [v26, v37, v48, V.non])) np53
    have hB58 := hB47.own (o := (.lst [v26, v37, v48, V.non])) np53
    have ow59 : Ow H0 F44 (upd H45 p52 (.lst [v26, v37, v48, V.non])) p52 [v26, v37, v48, V.non] := Ow.new g50 np53
    have hA60 : RL K F44 [v26, v37, v48, V.non] ([(some r19), (some r30), (some r41), (none : (Option (T4 Int (VT Int) (VT Int) (Option Int))))] : List (Option (T4 Int (VT Int) (VT Int) (Option Int)))) := (RpA.cons (r27.up (Same.trans g35.ff g46.ff)) (RpA.cons (r38.up g46.ff) (RpA.cons r49 (RpA.cons Rp.non RpA.nil))))
    obtain ⟨y_pool61, hb62, hm⟩ := bnd hm
    have hx63 : ([(some r19), (some r30), (some r41), (none : (Option (T4 Int (VT Int) (VT Int) (Option Int))))] : List (Option (T4 Int (VT Int) (VT Int) (Option Int)))) = y_pool61 := sjoin hb62
    have hA64 : RL K F44 [v26, v37, v48, V.non] y_pool61 := RL.re hx63 hA60
    refine p_name ?_
    refine p_nx ?_
    refine p_seq ?_
    refine p_asg ?_
    obtain ⟨r65, b66, hb67, hm⟩ := bnd2 hm
    refine ⟨(V.ref B), rfl, F44, B, C, b42, (4 : Int), r65, b66, rfl, g56.fh, hB58, hb67, fun F68 H69 g70 hB71 => ?_⟩
    have g73 := Gr.trans g56 g70
    have ow74 := ow57.gr g70 nb15
    have ow75 := ow59.gr g70 nb55
    obtain ⟨r76, b77, hb78, hm⟩ := bnd2 hm
    refine ⟨_, _, rfl, rfl, (V.ref B), rfl, (V.int y_most), rfl, _, _, rfl, rfl, F68, B, C, b66, (y_most + (1 : Int)), r76, b77, rfl, g73.fh, hB71, hb78, fun F79 H80 g81 hB82 => ?_⟩
    have g84 := Gr.trans g73 g81
    have ow85 := ow74.gr g81 nb15
    have ow86 := ow75.gr g81 nb55
    obtain ⟨r87, b88, hb89, hm⟩ := bnd2 hm
    refine ⟨(V.ref B), rfl, F79, B, C, b77, (2 : Int), r87, b88, rfl, g84.fh, hB82, hb89, fun F90 H91 g92 hB93 => ?_⟩
    have g95 := Gr.trans g84 g92
    have ow96 := ow85.gr g92 nb15
    have ow97 := ow86.gr g92 nb55
    refine ⟨_, _, rfl, rfl, (by show 3 ≤ sizeLine; decide), fun p98 np99 => ?_⟩
    have ne100 := ow96.ne np99
    have ne101 := ow97.ne np99
    have nb102 := hB93.nb np99
    have g103 := g95.own (o := (.lst [(V.int ((1 : Int) + r65)), (V.int r76), (V.int ((2 : Int) + r87))])) np99
    have ow104 := ow96.own (o := (.lst [(V.int ((1 : Int) + r65)), (V.int r76), (V.int ((2 : Int) + r87))])) np99
    have ow105 := ow97.own (o := (.lst [(V.int ((1 : Int) + r65)), (V.int r76), (V.int ((2 : Int) + r87))])) np99
    have hB106 := hB93.own (o := (.lst [(V.int ((1 : Int) + r65)), (V.int r76), (V.int ((2 : Int) + r87))])) np99
    have ow107 : Ow H0 F90 (upd H91 p98 (.lst [(V.int ((1 : Int) + r65)), (V.int r76), (V.int ((2 : Int) + r87))])) p98 [(V.int ((1 : Int) + r65)), (V.int r76), (V.int ((2 : Int) + r87))] := Ow.new g95 np99
    have hA108 : RL K F90 [(V.int ((1 : Int) + r65)), (V.int r76), (V.int ((2 : Int) + r87))] ([((1 : Int) + r65), r76, ((2 : Int) + r87)] : List Int) := (RpA.cons (Rp.int ((1 : Int) + r65)) (RpA.cons (Rp.int r76) (RpA.cons (Rp.int ((2 : Int) + r87)) RpA.nil)))
    obtain ⟨r109, b110, hb111, hm⟩ := bnd2 hm
    refine ⟨(V.ref B), rfl, F90, B, C, b88, (3 : Int), r109, b110, rfl, g103.fh, hB106, hb111, fun F112 H113 g114 hB115 => ?_⟩
    have g117 := Gr.trans g103 g114
    have ow118 := ow104.gr g114 nb15
    have ow119 := ow105.gr g114 nb55
    have ow120 := ow107.gr g114 nb102
    obtain ⟨t121, hb122, hm⟩ := bnd hm
    obtain ⟨v123, ha124, r125⟩ := RL.at (hA108.up g114.ff) hb122
    obtain rfl := R.int_v r125
    refine ⟨p98, [(V.int ((1 : Int) + r65)), (V.int r76), (V.int ((2 : Int) + r87))], _, (V.int t121), rfl, rfl, ow120.sq, ha124, ?_⟩
    refine p_name ?_
    refine p_nx ?_
    refine p_ret ?_
    obtain ⟨l126, hb128, hm⟩ := bnd hm
    obtain ⟨hk127, rfl⟩ := rangeO1_ok hb128
    refine ⟨(V.int y_most), rfl, (V.int t121), rfl, _, _, rfl, _, rfl, hk127.1.1, hk127.1.2, fun D129 nD130 => ?_⟩
    have ne131 := ow118.ne nD130
    have ne132 := ow119.ne nD130
    have ne133 := ow120.ne nD130
    have nb134 := hB115.nb nD130
    have g135 := g117.own (o := (.lst [])) nD130
    have ow136 := ow118.own (o := (.lst [])) nD130
    have ow137 := ow119.own (o := (.lst [])) nD130
    have ow138 := ow120.own (o := (.lst [])) nD130
    have hB139 := hB115.own (o := (.lst [])) nD130
    have ow140 : Ow H0 F112 (upd H113 D129 (.lst [])) D129 [] := Ow.new g117 nD130
    obtain ⟨l141, b142, hb143, hm⟩ := bnd2 hm
    refine lc_range (lo := (0 : Int)) (n := ((if t121 < y_most then t121 else y_most)).toNat) (fun i H' => ∃ (F' : Hp) (acc : List V) (ds : List (T5 Str Int (VT Str) (Option (VT Int)) (Option (T4 Int (VT Int) (VT Int) (Option Int))))) (rest : List (T5 Str Int (VT Str) (Option (VT Int)) (Option (T4 Int (VT Int) (VT Int) (Option Int))))) (b : Bag), Gr (Bc B C) F0 H0 F' H' ∧ Same F112 F' ∧ Ow H0 F' H' D129 acc ∧ RL K F' acc ds ∧ acc.length ≤ i ∧ Ow H0 F' H' p8 ws9 ∧ Ow H0 F' H' p52 [v26, v37, v48, V.non] ∧ Ow H0 F' H' p98 [(V.int ((1 : Int) + r65)), (V.int r76), (V.int ((2 : Int) + r87))] ∧ BagAt F' H' B C b ∧ m_l_rows_c1 y_town_here r1 y_pool61 ((rangeL (0 : Int) ((if t121 < y_most then t121 else y_most)).toNat).drop i) b = some (rest, b142) ∧ ds ++ rest = l141) ?_ ?_ ?_
    · exact ⟨F112, [], [], l141, b110, g135, Same.refl _, ow140, RpA.nil, Nat.le_refl _, ow136, ow137, ow138, hB139, hb143, rfl⟩
    · intro i145 H147 hx146 hP
      obtain ⟨F148, acc149, ds150, rest151, b152, g0153, sm154, owD155, hA156, hi157, ow0158, ow1159, ow2160, hB161, hm162, hr163⟩ := hP
      have he165 := rangeL_at (lo := (0 : Int)) hx146
      rw [drop_at he165, m_l_rows_c1.eq_2] at hm162
      refine ⟨rfl, (p_yes ?_)⟩
      obtain ⟨t166, hb167, hm162⟩ := bnd hm162
      obtain ⟨v168, ha169, r170⟩ := RL.at (hA14.up (Same.trans g24.ff (Same.trans g35.ff (Same.trans g46.ff (Same.trans g70.ff (Same.trans g81.ff (Same.trans g92.ff (Same.trans g114.ff sm154)))))))) hb167
      obtain ⟨rfl, gs171⟩ := R.str_v r170
      obtain ⟨r172, b173, hb174, hm162⟩ := bnd2 hm162
      refine ⟨(V.ref B), rfl, v_y_town_here, rfl, (V.ref p8), rfl, (V.int ((0 : Int) + ((i145 : Nat) : Int))), rfl, p8, ws9, _, (V.str t166), rfl, rfl, ow0158.sq, ha169, (V.ref p52), rfl, F148, B, C, b152, v_y_town_here, y_town_here, t166, p52, [v26, v37, v48, V.non], y_pool61, r172, b173, rfl, g0153.fh, hB161, (r_y_town_here.up (Same.trans g6.ff (Same.trans g24.ff (Same.trans g35.ff (Same.trans g46.ff (Same.trans g70.ff (Same.trans g81.ff (Same.trans g92.ff (Same.trans g114.ff sm154))))))))), gs171, ow1159.sq, (by show 4 ≤ sizeLine; decide), (hA64.up (Same.trans g70.ff (Same.trans g81.ff (Same.trans g92.ff (Same.trans g114.ff sm154))))), (fun _ _ g_ => g_.seq nb55 ow1159.sq), hb174, fun v179 F175 H176 g177 hB178 r180 => ?_⟩
      have g181 := Gr.trans g0153 g177
      have ow182 := ow0158.gr g177 nb15
      have ow183 := ow1159.gr g177 nb55
      have ow184 := ow2160.gr g177 nb102
      have ow185 := owD155.gr g177 nb134
      have hA186 : RL K F175 (acc149 ++ [v179]) (ds150 ++ [(r172 : (T5 Str Int (VT Str) (Option (VT Int)) (Option (T4 Int (VT Int) (VT Int) (Option Int)))))]) := RL.snoc (hA156.up g177.ff) r180
      obtain ⟨rest187, b188, h189, h190⟩ := bnd2 hm162
      obtain ⟨rfl, rfl⟩ := pjoin h190
      refine ⟨acc149, ow185.h, (lt_line hi157 hx146 hk127.2), ?_⟩
      have g191 := g181.put (o := (.lst (acc149 ++ [v179]))) ow185
      have ow192 := ow182.other (o := (.lst (acc149 ++ [v179]))) ne131
      have ow193 := ow183.other (o := (.lst (acc149 ++ [v179]))) ne132
      have ow194 := ow184.other (o := (.lst (acc149 ++ [v179]))) ne133
      have hB195 := hB178.other (o := (.lst (acc149 ++ [v179]))) nb134
      have ow196 := ow185.put (us := (acc149 ++ [v179]))
      exact ⟨F175, (acc149 ++ [v179]), (ds150 ++ [r172]), rest187, b173, g191, (Same.trans sm154 g177.ff), ow196, hA186, (by rw [List.length_append]; exact Nat.succ_le_succ hi157), ow192, ow193, ow194, hB195, h189, (snoc_rest hr163)⟩
    intro H197 hP
    obtain ⟨F198, acc199, ds200, _rest, b201, g0202, sm203, owD204, hA205, hi206, ow0207, ow1208, ow2209, hB210, hm211, hr212⟩ := hP
    rw [drop_end (rangeL_len _ _).symm] at hm211
    rw [m_l_rows_c1.eq_1] at hm211
    obtain ⟨rfl, rfl⟩ := pjoin hm211
    rw [List.append_nil] at hr212
    obtain rfl := hr212
    have hl213 : acc199.length ≤ sizeLine := Nat.le_trans hi206 hk127.2
    obtain ⟨rfl, rfl⟩ := pjoin hm
    exact (hQ _ _ _ _ g0202 hB210 owD204.n0 owD204.h owD204.nF hl213 hA205)
end K13
namespace K13
open PySem PySem.Spec PyProof.Rows L2 TL G
theorem ok_l_span {P : Program} {w : World} {K : PySem.W.Frag} {mg : Str → Option Value} {base : Heap} (T : Txt K mg) : FnOk P w K mg base CX0 1 T.a_l_span T.d_l_span ["_law_pattern_here", "_law_bits"] (sp_l_span K) := by
  refine fd_okT T.F_l_span sc_l_span (fun vs H Q E h => ?_) (by decide) (by decide) (fun cdv A outer s H0 vs Q E hr h => ?_)
  · obtain ⟨_, _, _, _, rfl, _⟩ := h
    rfl
  · obtain ⟨F0, y_pattern_here, y_bits, r, rfl, hS0, gs_y_pattern_here, hm, hQ⟩ := h
    refine ⟨_, (psst_cons (pst_set (i := 2) sc_l_span.nd rfl (.inl rfl) (CwR.pet_replC (pv 0))) (PSsT.of (pss_cons (ps_set (i := 3) sc_l_span.nd rfl (.inl rfl) pe_int) (pss_cons (ps_for PassesOwn.never rfl (pi_str (pv 2)) (pg_name (i := 4) sc_l_span.nd rfl (Or.inl rfl)) (pss_one (ps_set (i := 3) sc_l_span.nd rfl (.inl rfl) (pe_op op_add (pe_op op_mul pe_int (pv 3)) (pe_callTy call_toI (by rfl) T.n_int (by decide +kernel) (pa_cons (pe_cmpR op_eq (pv 4) pe_str (nomark _)) pa_nil)))))) (pss_cons (ps_set (i := 5) sc_l_span.nd rfl (.inl rfl) (pe_op op_shl pe_int (pe_op op_sub (pv 1) (pe_callB call_len_str (by rfl) T.n_len (by decide +kernel) (pa_cons (pv 2) pa_nil))))) (pss_one (ps_ret (pe_tup (pa_cons (pe_op op_mulW (pv 3) (pv 5)) (pa_cons (pe_op op_add (pe_op op_mulW (pv 3) (pv 5)) (pv 5)) pa_nil)))))))))), ?_⟩
    have g0 : Gr M0 F0 H0 F0 H0 := Gr.refl hS0
    unfold m_l_span at hm
    refine p_seq ?_
    refine p_asg ?_
    refine ⟨(V.str y_pattern_here), rfl, _, rfl, (GS.strike_len (gs_y_pattern_here : GS y_pattern_here) 42), ?_⟩
    obtain ⟨y_signs1, hb2, hm⟩ := bnd hm
    have hx3 : (strike y_pattern_here 42) = y_signs1 := sjoin hb2
    have gs4 : GS y_signs1 := hx3 ▸ ((GS.strike (gs_y_pattern_here : GS y_pattern_here) 42) : GS (strike y_pattern_here 42))
    refine p_nm (v' := (V.str y_signs1)) (congrArg V.str hx3) ?_
    refine p_nx ?_
    refine p_seq ?_
    refine p_asg ?_
    refine p_name ?_
    refine p_nx ?_
    refine p_seq ?_
    refine p_for ?_
    refine ⟨(V.str y_signs1), rfl, y_signs1, rfl, ?_⟩
    obtain ⟨y_first5, ht6, hm⟩ := bnd hm
    refine for_str (z := y_signs1) (fun i σ' H' => ∃ (F' : Hp) (y_first : Int) (o_y_sign : Option V), σ' = [(some (V.str y_pattern_here)), (some (V.int y_bits)), (some (V.str y_signs1)), (some (V.int y_first)), o_y_sign, none] ∧ Gr M0 F0 H0 F' H' ∧ Same F0 F' ∧ m_l_span_l1  ((y_signs1).cps.toList.drop i) y_first = some y_first5) ?_ ?_ ?_
    · exact ⟨F0, (0 : Int), none, rfl, g0, (Same.refl _), ht6⟩
    · intro i7 xv10 σ' H9 hx8 hP
      obtain ⟨F11, y_first12, o_y_sign13, rfl, g14, sm15, hm16⟩ := hP
      have he18 := str_at hx8
      rw [drop_at he18, m_l_span_l1.eq_2] at hm16
      refine p_name ?_
      refine p_asg ?_
      refine ⟨(V.int y_first12), rfl, _, _, rfl, rfl, (.inl ⟨by decide, by decide⟩), (V.str (sgn xv10)), rfl, rfl, _, rfl, _, _, rfl, rfl, ?_⟩
      obtain ⟨y_first19, hb20, hm16⟩ := bnd hm16
      have hx21 : (((2 : Int) * y_first12) + (toI (eqS (sgn xv10) ("1" : Str)))) = y_first19 := sjoin hb20
      refine p_nm (v' := (V.int y_first19)) (congrArg V.int hx21) ?_
      exact ⟨F11, y_first19, (some (V.str (sgn xv10))), rfl, g14, sm15, hm16⟩
    intro σ22 H23 hP
    obtain ⟨F24, y_first25, o_y_sign26, rfl, g27, sm28, hm29⟩ := hP
    rw [drop_end str_size, m_l_span_l1.eq_1] at hm29
    obtain rfl := sjoin hm29
    refine p_nx ?_
    refine p_seq ?_
    refine p_asg ?_
    obtain ⟨t30, hb31, hm⟩ := bnd hm
    obtain ⟨hk32, rfl⟩ := shlI_ok hb31
    refine ⟨(V.int y_bits), rfl, (V.str y_signs1), rfl, _, rfl, (gs4 : GS y_signs1).len, _, _, rfl, rfl, _, _, rfl, rfl, hk32, ?_⟩
    obtain ⟨y_size33, hx34⟩ : ∃ z_, ((1 : Int) * 2 ^ ((y_bits - ((y_signs1.length : Nat) : Int))).toNat) = z_ := ⟨_, rfl⟩
    try rw [hx34] at hm
    refine p_nm (v' := (V.int y_size33)) (congrArg V.int hx34) ?_
    refine p_nx ?_
    refine p_ret ?_
    obtain ⟨t35, hb36, hm⟩ := bnd hm
    obtain ⟨hk37, rfl⟩ := mulI_ok hb36
    obtain ⟨t38, hb39, hm⟩ := bnd hm
    obtain ⟨hk40, rfl⟩ := mulI_ok hb39
    refine ⟨(V.int y_first25), rfl, (V.int y_size33), rfl, _, _, rfl, rfl, hk37, (V.int y_first25), rfl, (V.int y_size33), rfl, _, _, rfl, rfl, hk40, (V.int y_size33), rfl, _, _, rfl, rfl, (by show 2 ≤ sizeLine; decide), fun p41 np42 => ?_⟩
    have sm43 := same_new (o := (.tup [(V.int (y_first25 * y_size33)), (V.int ((y_first25 * y_size33) + y_size33))])) (g27.noneF np42)
    have g44 := g27.frz (o := (.tup [(V.int (y_first25 * y_size33)), (V.int ((y_first25 * y_size33) + y_size33))])) np42
    have r45 : R K (upd F24 p41 (.tup [(V.int (y_first25 * y_size33)), (V.int ((y_first25 * y_size33) + y_size33))])) (.ref p41) (((y_first25 * y_size33), ((y_first25 * y_size33) + y_size33)) : (Int × Int)) := R.mk2 fzT (Rp.int (y_first25 * y_size33)) (Rp.int ((y_first25 * y_size33) + y_size33))
    obtain rfl := sjoin hm
    exact (hQ _ _ _ g44 r45)
end K13
namespace K13
open PySem PySem.Spec PyProof.Rows L2 TL G
theorem ok_l_plain {P : Program} {w : World} {K : PySem.W.Frag} {mg : Str → Option Value} {base : Heap} (T : Txt K mg) : FnOk P w K mg base CX0 2 T.a_l_plain T.d_l_plain ["_law_rows_here", "_law_bits"] (sp_l_plain K) := by
  have G_l_span : FnOk P w K mg base CX0 1 T.a_l_span T.d_l_span ["_law_pattern_here", "_law_bits"] (sp_l_span K) := ok_l_span T
  have b_l_span := T.F_l_span.bindsN (ps := ["_law_pattern_here", "_law_bits"]) fun _ _ _ _ _ _ us hl => match us, hl with | [_, _], _ => rfl
  refine fd_ok T.F_l_plain sc_l_plain (fun vs H Q E h => ?_) (fun cdv A outer s H0 vs Q E hr h => ?_)
  · obtain ⟨_, _, _, _, _, _, rfl, _⟩ := h
    rfl
  · obtain ⟨F0, p_y_rows_here, ws_y_rows_here, y_rows_here, y_bits, r, rfl, hS0, hS_y_rows_here, hl_y_rows_here, hA_y_rows_here, nm_y_rows_here, hm, hQ⟩ := h
    refine ⟨_, (pss_one (ps_ret (pe_lc (own := [("_law_row", 2)]) rfl sc_l_plain.nd (pi_listK (K := K) (pv 0)) (blkOk_by (own := [("_law_row", 2)]) (N := N_l_plain) (sc := defScope s_l_plain) (by decide +kernel)) (fun _ _ _ _ _ => (pg_name (i := 2) sc_l_plain.nd rfl (Or.inl rfl) (.inr rfl))) (fun _ _ _ _ _ => pts_nil) (fun _ _ _ _ _ => (pe_tup (pa_cons (pe_ix (ix_tupK (K := K)) (pv 2) pe_int (fun _ _ => rfl)) (pa_cons (pe_ix (ix_tupK (K := K)) (pv 2) pe_int (fun _ _ => rfl)) (pa_cons (pe_lc (own := [("_law_one", 3)]) rfl sc_l_plain.nd (pi_tupK (K := K) (pe_ix (ix_tupK (K := K)) (pv 2) pe_int (fun _ _ => rfl))) (blkOk_in (own := [("_law_one", 3)]) (N := N_l_plain) rfl (by decide +kernel)) (fun _ _ _ _ _ => (pg_name (i := 3) sc_l_plain.nd rfl (Or.inl rfl) (.inr rfl))) (fun _ _ _ _ _ => pts_nil) (fun _ _ _ _ _ => (pe_call G_l_span (hr.mono (by decide)) (by rfl) T.g_l_span T.F_l_span.kp b_l_span .nil pass0 (pa_cons (pv 3) (pa_cons (pv 1) pa_nil))))) (pa_cons (pe_ix (ix_tupK (K := K)) (pv 2) pe_int (fun _ _ => rfl)) (pa_cons (pe_ix (ix_tupK (K := K)) (pv 2) pe_int (fun _ _ => rfl)) pa_nil)))))))))), ?_⟩
    have g0 : Gr M0 F0 H0 F0 H0 := Gr.refl hS0
    unfold m_l_plain at hm
    refine p_ret ?_
    refine ⟨(V.ref p_y_rows_here), rfl, p_y_rows_here, rfl, ⟨_, (g0.seq nm_y_rows_here hS_y_rows_here)⟩, fun D1 nD2 => ?_⟩
    have g3 := g0.own (o := (.lst [])) nD2
    have ow4 : Ow H0 F0 (upd H0 D1 (.lst [])) D1 [] := Ow.new g0 nD2
    obtain ⟨l5, hb6, hm⟩ := bnd hm
    refine lc_list (K := K) (a := p_y_rows_here) (xs := ws_y_rows_here) (fun i H' => ∃ (F' : Hp) (acc : List V) (ds : List (T5 Str Int (List (Int × Int)) (Option (VT Int)) (Option (T4 Int (VT Int) (VT Int) (Option Int))))) (rest : List (T5 Str Int (List (Int × Int)) (Option (VT Int)) (Option (T4 Int (VT Int) (VT Int) (Option Int))))), Gr M0 F0 H0 F' H' ∧ Same F0 F' ∧ Ow H0 F' H' D1 acc ∧ RL K F' acc ds ∧ acc.length ≤ i ∧ m_l_plain_c1 y_bits (y_rows_here.drop i) = some rest ∧ ds ++ rest = l5) ?_ ?_ ?_ ?_
    · exact ⟨F0, [], [], l5, g3, Same.refl _, ow4, RpA.nil, Nat.le_refl _, hb6, rfl⟩
    · intro i H' _ hP
      obtain ⟨F7, acc8, ds9, rest10, g011, sm12, owD13, hA14, hi15, hm16, hr17⟩ := hP
      exact (g011.seq nm_y_rows_here hS_y_rows_here)
    · intro i19 xv18 H21 hx20 hP
      obtain ⟨F22, acc23, ds24, rest25, g026, sm27, owD28, hA29, hi30, hm31, hr32⟩ := hP
      obtain ⟨e33, he34, r35⟩ := RL.get (hA_y_rows_here.up sm27) hx20
      rw [drop_at he34, m_l_plain_c1.eq_2] at hm31
      refine ⟨rfl, (p_yes ?_)⟩
      obtain ⟨p36, v39, v40, v41, v42, v43, ev37, hS38, r44, r45, r46, r47, r48⟩ := R.p5_v r35
      obtain ⟨rfl, gs49⟩ := R.str_v r44
      obtain rfl := R.int_v r45
      obtain ⟨p50, ws51, ev52, hs56, hl54, hA55⟩ := R.vt_s r46
      have hS53 : SqT K _ p50 ws51 := .inl (.inl hs56)
      refine ⟨xv18, rfl, p36, _, _, (V.str e33.a), ev37, rfl, (SqT_mono g026.fh hS38), rfl, xv18, rfl, p36, _, _, (V.int e33.b), ev37, rfl, (SqT_mono g026.fh hS38), rfl, xv18, rfl, p36, _, _, v41, ev37, rfl, (SqT_mono g026.fh hS38), rfl, p50, ev52, ⟨_, (SqT_mono g026.fh hS53)⟩, fun D57 nD58 => ?_⟩
      have ne59 := owD28.ne nD58
      have g60 := g026.own (o := (.lst [])) nD58
      have ow61 := owD28.own (o := (.lst [])) nD58
      have ow62 : Ow H0 F22 (upd H21 D57 (.lst [])) D57 [] := Ow.new g026 nD58
      obtain ⟨l63, hb64, hm31⟩ := bnd hm31
      refine lc_tup (K := K) (a := p50) (xs := ws51) (fun i H' => ∃ (F' : Hp) (acc : List V) (ds : List (Int × Int)) (rest : List (Int × Int)), Gr M0 F0 H0 F' H' ∧ Same F22 F' ∧ Ow H0 F' H' D57 acc ∧ RL K F' acc ds ∧ acc.length ≤ i ∧ Ow H0 F' H' D1 acc23 ∧ m_l_plain_c2 y_bits ((e33.c).l.drop i) = some rest ∧ ds ++ rest = l63) ?_ ?_ ?_ ?_
      · exact ⟨F22, [], [], l63, g60, Same.refl _, ow62, RpA.nil, Nat.le_refl _, ow61, hb64, rfl⟩
      · intro i H' _ hP
        obtain ⟨F65, acc66, ds67, rest68, g069, sm70, owD71, hA72, hi73, ow074, hm75, hr76⟩ := hP
        exact (SqT_mono g069.fh (SqT_mono sm70 hS53))
      · intro i78 xv77 H80 hx79 hP
        obtain ⟨F81, acc82, ds83, rest84, g085, sm86, owD87, hA88, hi89, ow090, hm91, hr92⟩ := hP
        obtain ⟨e93, he94, r95⟩ := RL.get (hA55.up sm86) hx79
        obtain ⟨rfl, gs96⟩ := R.str_v r95
        rw [drop_at he94, m_l_plain_c2.eq_2] at hm91
        refine ⟨rfl, (p_yes ?_)⟩
        obtain ⟨r97, hb98, hm91⟩ := bnd hm91
        refine ⟨(V.str e93), rfl, (V.int y_bits), rfl, F81, e93, y_bits, r97, rfl, g085.fh, gs96, hb98, fun v102 F99 H100 g101 r103 => ?_⟩
        have g104 := Gr.trans g085 g101
        have ow105 := ow090.gr0 g101
        have ow106 := owD87.gr0 g101
        have hA107 : RL K F99 (acc82 ++ [v102]) (ds83 ++ [(r97 : (Int × Int))]) := RL.snoc (hA88.up g101.ff) r103
        obtain ⟨rest108, h109, h110⟩ := bnd hm91
        obtain rfl := sjoin h110
        refine ⟨acc82, ow106.h, (lt_line hi89 (List.getElem?_eq_some_iff.mp hx79).1 hl54), ?_⟩
        have g111 := g104.put (o := (.lst (acc82 ++ [v102]))) ow106
        have ow112 := ow105.other (o := (.lst (acc82 ++ [v102]))) ne59
        have ow113 := ow106.put (us := (acc82 ++ [v102]))
        exact ⟨F99, (acc82 ++ [v102]), (ds83 ++ [r97]), rest108, g111, (Same.trans sm86 g101.ff), ow113, hA107, (by rw [List.length_append]; exact Nat.succ_le_succ hi89), ow112, h109, (snoc_rest hr92)⟩
      intro H114 hP
      obtain ⟨F115, acc116, ds117, _rest, g0119, sm120, owD121, hA122, hi123, ow0124, hm125, hr126⟩ := hP
      rw [drop_end (RL.len hA55)] at hm125
      rw [m_l_plain_c2.eq_1] at hm125
      obtain rfl := sjoin hm125
      rw [List.append_nil] at hr126
      obtain rfl := hr126
      have hl127 : acc116.length ≤ sizeLine := Nat.le_trans hi123 hl54
      have sm128 := owD121.sf
      have g129 := g0119.fz owD121
      have ow130 : Ow H0 (upd F115 D57 (.lst acc116)) H114 D1 acc23 := ow0124.fz ne59
      have r131 : R K (upd F115 D57 (.lst acc116)) (.ref D57) ds117 := R.mkl fzS hl127 (RpA.up hA122 sm128)
      refine ⟨xv18, rfl, p36, _, _, v42, ev37, rfl, (SqT_mono g0119.fh (SqT_mono sm120 hS38)), rfl, xv18, rfl, p36, _, _, v43, ev37, rfl, (SqT_mono g0119.fh (SqT_mono sm120 hS38)), rfl, (by show 5 ≤ sizeLine; decide), fun p132 np133 => ?_⟩
      have ne134 := ow130.ne np133
      have sm135 := same_new (o := (.tup [(V.str e33.a), (V.int e33.b), (V.ref D57), v42, v43])) (g129.noneF np133)
      have g136 := g129.frz (o := (.tup [(V.str e33.a), (V.int e33.b), (V.ref D57), v42, v43])) np133
      have ow137 := ow130.frz (o := (.tup [(V.str e33.a), (V.int e33.b), (V.ref D57), v42, v43])) np133
      have r138 : R K (upd (upd F115 D57 (.lst acc116)) p132 (.tup [(V.str e33.a), (V.int e33.b), (V.ref D57), v42, v43])) (.ref p132) ((T5.mk e33.a e33.b ds117 e33.e e33.f) : (T5 Str Int (List (Int × Int)) (Option (VT Int)) (Option (T4 Int (VT Int) (VT Int) (Option Int))))) := R.mk5 fzT (Rp.str e33.a gs49) (Rp.int e33.b) (r131.up sm135) (r47.up (Same.trans sm120 (Same.trans sm128 sm135))) (r48.up (Same.trans sm120 (Same.trans sm128 sm135)))
      have hA139 : RL K (upd (upd F115 D57 (.lst acc116)) p132 (.tup [(V.str e33.a), (V.int e33.b), (V.ref D57), v42, v43])) (acc23 ++ [(V.ref p132)]) (ds24 ++ [((T5.mk e33.a e33.b ds117 e33.e e33.f) : (T5 Str Int (List (Int × Int)) (Option (VT Int)) (Option (T4 Int (VT Int) (VT Int) (Option Int)))))]) := RL.snoc (hA29.up (Same.trans sm120 (Same.trans sm128 sm135))) r138
      obtain ⟨rest140, h141, h142⟩ := bnd hm31
      obtain rfl := sjoin h142
      refine ⟨acc23, ow137.h, (lt_line hi30 (List.getElem?_eq_some_iff.mp hx20).1 hl_y_rows_here), ?_⟩
      have g143 := g136.put (o := (.lst (acc23 ++ [(V.ref p132)]))) ow137
      have ow144 := ow137.put (us := (acc23 ++ [(V.ref p132)]))
      exact ⟨(upd (upd F115 D57 (.lst acc116)) p132 (.tup [(V.str e33.a), (V.int e33.b), (V.ref D57), v42, v43])), (acc23 ++ [(V.ref p132)]), (ds24 ++ [(T5.mk e33.a e33.b ds117 e33.e e33.f)]), rest140, g143, (Same.trans sm27 (Same.trans sm120 (Same.trans sm128 sm135))), ow144, hA139, (by rw [List.length_append]; exact Nat.succ_le_succ hi30), h141, (snoc_rest hr32)⟩
    intro H145 hP
    obtain ⟨F146, acc147, ds148, _rest, g0150, sm151, owD152, hA153, hi154, hm155, hr156⟩ := hP
    rw [drop_end (RL.len hA_y_rows_here)] at hm155
    rw [m_l_plain_c1.eq_1] at hm155
    obtain rfl := sjoin hm155
    rw [List.append_nil] at hr156
    obtain rfl := hr156
    have hl157 : acc147.length ≤ sizeLine := Nat.le_trans hi154 hl_y_rows_here
    obtain rfl := sjoin hm
    exact (hQ _ _ _ _ g0150 owD152.n0 owD152.h owD152.nF hl157 hA153)
end K13
namespace K13
open PySem PySem.Spec PyProof.Rows L2 TL G
theorem ok_l_is_of {P : Program} {w : World} {K : PySem.W.Frag} {mg : Str → Option Value} {base : Heap} (T : Txt K mg) : FnOk P w K mg base CX0 1 T.a_l_is_of T.d_l_is_of ["_law_row", "_law_gate", "_law_mark_here"] (sp_l_is_of K) := by
  refine fd_ok T.F_l_is_of sc_l_is_of (fun vs H Q E h => ?_) (fun cdv A outer s H0 vs Q E hr h => ?_)
  · obtain ⟨_, _, _, _, _, rfl, _⟩ := h
    rfl
  · obtain ⟨v_y_row, y_row, y_gate, y_mark_here, r, rfl, r_y_row, hm, hQ⟩ := h
    refine ⟨_, (pss_cons (ps_if (PW.pt (pw_and (pt_cmpR op_notO (pe_ix (ix_tupK (K := K)) (pv 0) pe_int (fun _ _ => rfl)) pe_non (nomark _)) (pw_and1 (pt_cmpR (op_notInI (K := K)) (pv 1) (pe_ix (ix_tupK (K := K)) (pv 0) pe_int (fun _ _ => rfl)) rfl)))) (pss_one (ps_ret pe_bl)) pss_nil) (pss_cons (ps_if (PW.pt (pw_and (pt_cmpR op_isO (pe_ix (ix_tupK (K := K)) (pv 0) pe_int (fun _ _ => rfl)) pe_non (nomark _)) (pw_and (pt_cmpR op_notO (pe_ix (ix_tupK (K := K)) (pv 0) pe_int (fun _ _ => rfl)) pe_non (nomark _)) (pw_and1 (pt_cmpR op_eq (pe_ix (ix_tupK (K := K)) (pe_ix (ix_tupK (K := K)) (pv 0) pe_int (fun _ _ => rfl)) pe_int (fun _ _ => rfl)) (pv 1) (nomark _)))))) (pss_one (ps_ret pe_bl)) pss_nil) (pss_one (ps_ret (pe_cmpR (op_neDK (K := K) hr.units) (pe_lc (own := [("_law_span_here", 3)]) rfl sc_l_is_of.nd (pi_listK (K := K) (pe_ix (ix_tupK (K := K)) (pv 0) pe_int (fun _ _ => rfl))) (blkOk_by (own := [("_law_span_here", 3)]) (N := N_l_is_of) (sc := defScope s_l_is_of) (by decide +kernel)) (fun _ _ _ _ _ => (pg_name (i := 3) sc_l_is_of.nd rfl (Or.inl rfl) (.inr rfl))) (fun _ _ _ _ _ => (pts_one (pt_valT (pt_chain op_le op_lt (pe_ix (ix_tupK (K := K)) (pv 3) pe_int (fun _ _ => rfl)) (pv 2) (pe_ix (ix_tupK (K := K)) (pv 3) pe_int (fun _ _ => rfl)))))) (fun _ _ _ _ _ => (pv 3))) (pe_lst pa_nil) (nomark _)))))), ?_⟩
    have g0 : Gr M0 H0 H0 H0 H0 := Gr.refl (Same.refl _)
    unfold m_l_is_of at hm
    refine p_seq ?_
    refine p_if ?_
    obtain ⟨p1, v4, v5, v6, v7, v8, ev2, hS3, r9, r10, r11, r12, r13⟩ := R.p5_v r_y_row
    obtain ⟨rfl, gs14⟩ := R.str_v r9
    obtain rfl := R.int_v r10
    refine ⟨v_y_row, rfl, p1, _, _, v7, ev2, rfl, (SqT_mono g0.fh hS3), rfl, _, rfl, (isN_eq r12), _, rfl, ?_⟩
    obtain ⟨c15, hc16, hm⟩ := bnd hm
    refine andJT (M := M0) (F := H0) (c := c15) (P := fun _ _ => True) (fun ha => ?_) (fun ha => ⟨(sjoin (ifF ha hc16)).symm, trivial⟩) g0.fh ?_
    · intro Q18 q19
      have hc16 := ifT ha hc16
      obtain ⟨t20, hb21, hc16⟩ := bnd hc16
      have r22 := getO_ok (x := t20) hb21 r12
      obtain ⟨p23, ws24, ev25, hs29, hl27, hA28⟩ := R.vt_s r22
      have hS26 : SqT K _ p23 ws24 := .inl (.inl hs29)
      obtain rfl := sjoin hc16
      refine ⟨(V.int y_gate), rfl, v_y_row, rfl, p1, _, _, v7, ev2, rfl, (SqT_mono g0.fh hS3), rfl, _, p23, _, rfl, (by rw [ev25]), (.inr (by rw [← RL.ints hA28]; exact (SqT_mono g0.fh hS26))), _, rfl, (q19 _ _ (Gr.refl (M := M0) g0.fh) trivial)⟩
    intro F30 H31 g32 hB33
    have g34 := Gr.trans g0 g32
    refine (iteB (fun hc => ?_) (fun hc => ?_))
    · have hm := ifT hc hm
      refine p_ret ?_
      obtain rfl := sjoin hm
      exact (hQ _ _ g34)
    · have hm := ifF hc hm
      refine p_next ?_
      refine p_nx ?_
      refine p_seq ?_
      refine p_if ?_
      refine ⟨v_y_row, rfl, p1, _, _, v7, ev2, rfl, (SqT_mono g34.fh (SqT_mono g32.ff hS3)), rfl, _, rfl, (isN_eq (r12.up g32.ff)), _, rfl, ?_⟩
      obtain ⟨c35, hc36, hm⟩ := bnd hm
      refine andJT (M := M0) (F := F30) (c := c35) (P := fun _ _ => True) (fun ha => ?_) (fun ha => ⟨(sjoin (ifF ha hc36)).symm, trivial⟩) g34.fh ?_
      · intro Q38 q39
        have hc36 := ifT ha hc36
        refine ⟨v_y_row, rfl, p1, _, _, v8, ev2, rfl, (SqT_mono g34.fh (SqT_mono g32.ff hS3)), rfl, _, rfl, (isN_eq (r13.up g32.ff)), _, rfl, ?_⟩
        obtain ⟨c40, hc41, hc36⟩ := bnd hc36
        refine andJT (M := M0) (F := F30) (c := c40) (P := fun _ _ => True) (fun ha => ?_) (fun ha => ⟨(sjoin (ifF ha hc41)).symm, trivial⟩) g34.fh ?_
        · intro Q43 q44
          have hc41 := ifT ha hc41
          obtain ⟨t45, hb46, hc41⟩ := bnd hc41
          have r47 := getO_ok (x := t45) hb46 (r13.up g32.ff)
          obtain ⟨p48, v51, v52, v53, v54, ev49, hS50, r55, r56, r57, r58⟩ := R.p4_v r47
          obtain rfl := R.int_v r55
          obtain rfl := sjoin hc41
          refine ⟨v_y_row, rfl, p1, _, _, v8, ev2, rfl, (SqT_mono g34.fh (SqT_mono g32.ff hS3)), rfl, p48, _, _, (V.int t45.a), ev49, rfl, (SqT_mono g34.fh hS50), rfl, (V.int y_gate), rfl, rfl, _, rfl, (q44 _ _ (Gr.refl (M := M0) g34.fh) trivial)⟩
        intro F59 H60 g61 hB62
        have g63 := Gr.trans g34 g61
        have g64 := Gr.trans (Gr.refl (M := M0) g34.fh) g61
        obtain rfl := sjoin hc36
        exact (q39 _ _ g64 trivial)
      intro F65 H66 g67 hB68
      have g69 := Gr.trans g34 g67
      refine (iteB (fun hc => ?_) (fun hc => ?_))
      · have hm := ifT hc hm
        refine p_ret ?_
        obtain rfl := sjoin hm
        exact (hQ _ _ g69)
      · have hm := ifF hc hm
        refine p_next ?_
        refine p_nx ?_
        refine p_ret ?_
        obtain ⟨p70, ws71, ev72, hS73, hl74, hA75⟩ := R.lst_v r11
        refine ⟨v_y_row, rfl, p1, _, _, v6, ev2, rfl, (SqT_mono g69.fh (SqT_mono (Same.trans g32.ff g67.ff) hS3)), rfl, p70, ev72, ⟨_, (Same.seq g69.fh (Same.seq (Same.trans g32.ff g67.ff) hS73))⟩, fun D76 nD77 => ?_⟩
        have g78 := g69.own (o := (.lst [])) nD77
        have ow79 : Ow H0 F65 (upd H66 D76 (.lst [])) D76 [] := Ow.new g69 nD77
        refine lc_list (K := K) (a := p70) (xs := ws71) (fun i H' => ∃ (F' : Hp) (acc : List V) (ds : List (Int × Int)), Gr M0 H0 H0 F' H' ∧ Same F65 F' ∧ Ow H0 F' H' D76 acc ∧ RL K F' acc ds ∧ acc.length ≤ i ∧ ds ++ m_l_is_of_c1 y_mark_here (y_row.c.drop i) = (m_l_is_of_c1 y_mark_here y_row.c)) ?_ ?_ ?_ ?_
        · exact ⟨F65, [], [], g78, Same.refl _, ow79, RpA.nil, Nat.le_refl _, rfl⟩
        · intro i H' _ hP
          obtain ⟨F81, acc82, ds83, g084, sm85, owD86, hA87, hi88, hr89⟩ := hP
          exact (Same.seq g084.fh (Same.seq (Same.trans g32.ff (Same.trans g67.ff sm85)) hS73))
        · intro i91 xv90 H93 hx92 hP
          obtain ⟨F94, acc95, ds96, g097, sm98, owD99, hA100, hi101, hr102⟩ := hP
          obtain ⟨e103, he104, r105⟩ := RL.get (hA75.up (Same.trans g32.ff (Same.trans g67.ff sm98))) hx92
          rw [drop_at he104, m_l_is_of_c1.eq_2] at hr102
          obtain ⟨p106, v109, v110, ev107, hS108, r111, r112⟩ := R.p2_v r105
          obtain rfl := R.int_v r111
          obtain rfl := R.int_v r112
          refine ⟨rfl, ((decide (e103.1 ≤ y_mark_here)) && (decide (y_mark_here < e103.2))), (fun Q q => ⟨xv90, rfl, p106, _, _, (V.int e103.1), ev107, rfl, (SqT_mono g097.fh hS108), rfl, (V.int y_mark_here), rfl, _, _, rfl, rfl, _, rfl, iteB (fun hc => ⟨xv90, rfl, p106, _, _, (V.int e103.2), ev107, rfl, (SqT_mono g097.fh hS108), rfl, _, _, rfl, rfl, _, rfl, qTb hc q⟩) (fun hc => ⟨_, rfl, qFb hc q⟩)⟩), (iteB (fun hc => ?_) (fun hc => ?_))⟩
          · have hc : ((decide (e103.1 ≤ y_mark_here)) && (decide (y_mark_here < e103.2))) = true := hc
            rw [if_pos hc] at hr102
            have hA113 : RL K F94 (acc95 ++ [xv90]) (ds96 ++ [(e103 : (Int × Int))]) := RL.snoc hA100 r105
            refine ⟨xv90, rfl, acc95, owD99.h, (lt_line hi101 (List.getElem?_eq_some_iff.mp hx92).1 hl74), ?_⟩
            have g114 := g097.put (o := (.lst (acc95 ++ [xv90]))) owD99
            have ow115 := owD99.put (us := (acc95 ++ [xv90]))
            exact ⟨F94, (acc95 ++ [xv90]), (ds96 ++ [e103]), g114, sm98, ow115, hA113, (by rw [List.length_append]; exact Nat.succ_le_succ hi101), (snoc_rest hr102)⟩
          · have hc : ((decide (e103.1 ≤ y_mark_here)) && (decide (y_mark_here < e103.2))) = false := hc
            rw [if_neg (ne_true_of_eq_false hc)] at hr102
            exact ⟨F94, acc95, ds96, g097, sm98, owD99, hA100, (Nat.le_succ_of_le hi101), hr102⟩
        intro H116 hP
        obtain ⟨F117, acc118, ds119, g0121, sm122, owD123, hA124, hi125, hr126⟩ := hP
        rw [drop_end (RL.len (hA75.up (Same.trans g32.ff g67.ff)))] at hr126
        rw [m_l_is_of_c1.eq_1, List.append_nil] at hr126
        obtain rfl := hr126
        have hl127 : acc118.length ≤ sizeLine := Nat.le_trans hi125 hl74
        refine ⟨(by show 0 ≤ sizeLine; decide), fun p128 np129 => ?_⟩
        have ne130 := owD123.ne np129
        have g131 := g0121.own (o := (.lst [])) np129
        have ow132 := owD123.own (o := (.lst [])) np129
        have ow133 : Ow H0 F117 (upd H116 p128 (.lst [])) p128 [] := Ow.new g0121 np129
        have rH135 : R K (upd H116 p128 (.lst [])) (V.ref D76) (m_l_is_of_c1 y_mark_here y_row.c) := (R.mkl ow132.sq hl127 (RpA.up hA124 g131.fh))
        have rH136 : R K (upd H116 p128 (.lst [])) (V.ref p128) ([] : (List (Int × Int))) := (R.mkl ow133.sq (by show 0 ≤ sizeLine; decide) (RpA.up RpA.nil g131.fh))
        obtain rfl := sjoin hm
        refine ⟨_, _, (Rp.dp _ _ rH135), (Rp.dp _ _ rH136), (R.shaped rH135), (R.shaped rH136), (hQ _ _ g131)⟩
end K13
namespace K13
open PySem PySem.Spec PyProof.Rows L2 TL G
theorem ok_l_top {P : Program} {w : World} {K : PySem.W.Frag} {mg : Str → Option Value} {base : Heap} (T : Txt K mg) : FnOk P w K mg base CX0 2 T.a_l_top T.d_l_top ["_law_plain_here", "_law_gate", "_law_mark_here"] (sp_l_top K) := by
  have G_l_is_of : FnOk P w K mg base CX0 1 T.a_l_is_of T.d_l_is_of ["_law_row", "_law_gate", "_law_mark_here"] (sp_l_is_of K) := ok_l_is_of T
  have b_l_is_of := T.F_l_is_of.bindsN (ps := ["_law_row", "_law_gate", "_law_mark_here"]) fun _ _ _ _ _ _ us hl => match us, hl with | [_, _, _], _ => rfl
  refine fd_ok T.F_l_top sc_l_top (fun vs H Q E h => ?_) (fun cdv A outer s H0 vs Q E hr h => ?_)
  · obtain ⟨_, _, _, _, _, _, _, rfl, _⟩ := h
    rfl
  · obtain ⟨F0, p_y_plain_here, ws_y_plain_here, y_plain_here, y_gate, y_mark_here, r, rfl, hS0, hS_y_plain_here, hl_y_plain_here, hA_y_plain_here, nm_y_plain_here, hm, hQ⟩ := h
    refine ⟨_, (pss_cons (ps_setLc (i := 3) (own := [("_law_row", 5)]) rfl sc_l_top.nd rfl rfl (sw_true rfl rfl rfl (by decide +kernel)) (pi_listK (K := K) (pv 0)) (blkOk_by (own := [("_law_row", 5)]) (N := N_l_top) (sc := defScope s_l_top) (by decide +kernel)) (fun _ _ _ _ _ => (pg_name (i := 5) sc_l_top.nd rfl (Or.inl rfl) (.inr rfl))) (fun _ _ _ _ _ => (pts_one (pt_val (pe_call G_l_is_of (hr.mono (by decide)) (by rfl) T.g_l_is_of T.F_l_is_of.kp b_l_is_of .nil pass0 (pa_cons (pv 5) (pa_cons (pv 1) (pa_cons (pv 2) pa_nil))))))) (fun _ _ _ _ _ => (pv 5))) (pss_cons (ps_set (i := 4) sc_l_top.nd rfl (.inr rfl) (pe_callB (cr_maxK (K := K) rfl) (by rfl) T.n_max (by decide +kernel) (pa_cons (pe_op (op_catLK (K := K)) (pe_lst (pa_cons pe_int pa_nil)) (pe_lc (own := [("_law_row", 5)]) rfl sc_l_top.nd (pi_listK (K := K) (pv 3)) (blkOk_by (own := [("_law_row", 5)]) (N := N_l_top) (sc := defScope s_l_top) (by decide +kernel)) (fun _ _ _ _ _ => (pg_name (i := 5) sc_l_top.nd rfl (Or.inl rfl) (.inr rfl))) (fun _ _ _ _ _ => pts_nil) (fun _ _ _ _ _ => (pe_ix (ix_tupK (K := K)) (pv 5) pe_int (fun _ _ => rfl))))) pa_nil))) (pss_one (ps_ret (pe_lc (own := [("_law_row", 5)]) rfl sc_l_top.nd (pi_listK (K := K) (pv 3)) (blkOk_by (own := [("_law_row", 5)]) (N := N_l_top) (sc := defScope s_l_top) (by decide +kernel)) (fun _ _ _ _ _ => (pg_name (i := 5) sc_l_top.nd rfl (Or.inl rfl) (.inr rfl))) (fun _ _ _ _ _ => (pts_one (pt_cmpR op_eq (pe_ix (ix_tupK (K := K)) (pv 5) pe_int (fun _ _ => rfl)) (pv 4) (nomark _)))) (fun _ _ _ _ _ => (pv 5))))))), ?_⟩
    have g0 : Gr M0 F0 H0 F0 H0 := Gr.refl hS0
    unfold m_l_top at hm
    refine p_seq ?_
    refine p_asg ?_
    refine ⟨(V.ref p_y_plain_here), rfl, p_y_plain_here, rfl, ⟨_, (g0.seq nm_y_plain_here hS_y_plain_here)⟩, fun D1 nD2 => ?_⟩
    have g3 := g0.own (o := (.lst [])) nD2
    have ow4 : Ow H0 F0 (upd H0 D1 (.lst [])) D1 [] := Ow.new g0 nD2
    obtain ⟨l5, hb6, hm⟩ := bnd hm
    refine lc_list (K := K) (a := p_y_plain_here) (xs := ws_y_plain_here) (fun i H' => ∃ (F' : Hp) (acc : List V) (ds : List (T5 Str Int (List (Int × Int)) (Option (VT Int)) (Option (T4 Int (VT Int) (VT Int) (Option Int))))) (rest : List (T5 Str Int (List (Int × Int)) (Option (VT Int)) (Option (T4 Int (VT Int) (VT Int) (Option Int))))), Gr M0 F0 H0 F' H' ∧ Same F0 F' ∧ Ow H0 F' H' D1 acc ∧ RL K F' acc ds ∧ acc.length ≤ i ∧ m_l_top_c1 y_gate y_mark_here (y_plain_here.drop i) = some rest ∧ ds ++ rest = l5) ?_ ?_ ?_ ?_
    · exact ⟨F0, [], [], l5, g3, Same.refl _, ow4, RpA.nil, Nat.le_refl _, hb6, rfl⟩
    · intro i H' _ hP
      obtain ⟨F7, acc8, ds9, rest10, g011, sm12, owD13, hA14, hi15, hm16, hr17⟩ := hP
      exact (g011.seq nm_y_plain_here hS_y_plain_here)
    · intro i19 xv18 H21 hx20 hP
      obtain ⟨F22, acc23, ds24, rest25, g026, sm27, owD28, hA29, hi30, hm31, hr32⟩ := hP
      obtain ⟨e33, he34, r35⟩ := RL.get (hA_y_plain_here.up sm27) hx20
      rw [drop_at he34, m_l_top_c1.eq_2] at hm31
      obtain ⟨r36, hb37, hm31⟩ := bnd hm31
      refine ⟨rfl, xv18, rfl, (V.int y_gate), rfl, (V.int y_mark_here), rfl, xv18, e33, y_gate, y_mark_here, r36, rfl, (Rp.up r35 g026.fh), hb37, fun F38 H39 g40 => ?_⟩
      have g42 := Gr.apart g026 g40
      have ow43 := owD28.apart g40
      refine ⟨_, rfl, (iteB (fun hc => ?_) (fun hc => ?_))⟩
      · have hc : r36 = true := hc
        have hm31 := ifT hc hm31
        have hA44 : RL K F22 (acc23 ++ [xv18]) (ds24 ++ [(e33 : (T5 Str Int (List (Int × Int)) (Option (VT Int)) (Option (T4 Int (VT Int) (VT Int) (Option Int)))))]) := RL.snoc hA29 r35
        obtain ⟨rest45, h46, h47⟩ := bnd hm31
        obtain rfl := sjoin h47
        refine ⟨xv18, rfl, acc23, ow43.h, (lt_line hi30 (List.getElem?_eq_some_iff.mp hx20).1 hl_y_plain_here), ?_⟩
        have g48 := g42.put (o := (.lst (acc23 ++ [xv18]))) ow43
        have ow49 := ow43.put (us := (acc23 ++ [xv18]))
        exact ⟨F22, (acc23 ++ [xv18]), (ds24 ++ [e33]), rest45, g48, sm27, ow49, hA44, (by rw [List.length_append]; exact Nat.succ_le_succ hi30), h46, (snoc_rest hr32)⟩
      · have hc : r36 = false := hc
        have hm31 := ifF hc hm31
        exact ⟨F22, acc23, ds24, rest25, g42, sm27, ow43, hA29, (Nat.le_succ_of_le hi30), hm31, hr32⟩
    intro H50 hP
    obtain ⟨F51, acc52, ds53, _rest, g055, sm56, owD57, hA58, hi59, hm60, hr61⟩ := hP
    rw [drop_end (RL.len hA_y_plain_here)] at hm60
    rw [m_l_top_c1.eq_1] at hm60
    obtain rfl := sjoin hm60
    rw [List.append_nil] at hr61
    obtain rfl := hr61
    have hl62 : acc52.length ≤ sizeLine := Nat.le_trans hi59 hl_y_plain_here
    refine p_name ?_
    refine p_nx ?_
    refine p_seq ?_
    refine p_asg ?_
    refine ⟨(by show 1 ≤ sizeLine; decide), fun p63 np64 => ?_⟩
    have ne65 := owD57.ne np64
    have g66 := g055.own (o := (.lst [(V.int (0 : Int))])) np64
    have ow67 := owD57.own (o := (.lst [(V.int (0 : Int))])) np64
    have ow68 : Ow H0 F51 (upd H50 p63 (.lst [(V.int (0 : Int))])) p63 [(V.int (0 : Int))] := Ow.new g055 np64
    have hA69 : RL K F51 [(V.int (0 : Int))] ([(0 : Int)] : List Int) := (RpA.cons (Rp.int (0 : Int)) RpA.nil)
    refine ⟨(V.ref D1), rfl, D1, rfl, ⟨_, ow67.sq⟩, fun D70 nD71 => ?_⟩
    have ne72 := ow67.ne nD71
    have ne73 := ow68.ne nD71
    have g74 := g66.own (o := (.lst [])) nD71
    have ow75 := ow67.own (o := (.lst [])) nD71
    have ow76 := ow68.own (o := (.lst [])) nD71
    have ow77 : Ow H0 F51 (upd (upd H50 p63 (.lst [(V.int (0 : Int))])) D70 (.lst [])) D70 [] := Ow.new g66 nD71
    refine lc_list (K := K) (a := D1) (xs := acc52) (fun i H' => ∃ (F' : Hp) (acc : List V) (ds : List Int), Gr M0 F0 H0 F' H' ∧ Same F51 F' ∧ Ow H0 F' H' D70 acc ∧ RL K F' acc ds ∧ acc.length ≤ i ∧ Ow H0 F' H' D1 acc52 ∧ Ow H0 F' H' p63 [(V.int (0 : Int))] ∧ ds ++ m_l_top_c2  (ds53.drop i) = (m_l_top_c2  ds53)) ?_ ?_ ?_ ?_
    · exact ⟨F51, [], [], g74, Same.refl _, ow77, RpA.nil, Nat.le_refl _, ow75, ow76, rfl⟩
    · intro i H' _ hP
      obtain ⟨F79, acc80, ds81, g082, sm83, owD84, hA85, hi86, ow087, ow188, hr89⟩ := hP
      exact ow087.sq
    · intro i91 xv90 H93 hx92 hP
      obtain ⟨F94, acc95, ds96, g097, sm98, owD99, hA100, hi101, ow0102, ow1103, hr104⟩ := hP
      obtain ⟨e105, he106, r107⟩ := RL.get (hA58.up sm98) hx92
      rw [drop_at he106, m_l_top_c2.eq_2] at hr104
      refine ⟨rfl, (p_yes ?_)⟩
      obtain ⟨p108, v111, v112, v113, v114, v115, ev109, hS110, r116, r117, r118, r119, r120⟩ := R.p5_v r107
      obtain ⟨rfl, gs121⟩ := R.str_v r116
      obtain rfl := R.int_v r117
      have hA122 : RL K F94 (acc95 ++ [(V.int e105.b)]) (ds96 ++ [(e105.b : Int)]) := RL.snoc hA100 (Rp.int e105.b)
      refine ⟨xv90, rfl, p108, _, _, (V.int e105.b), ev109, rfl, (SqT_mono g097.fh hS110), rfl, acc95, owD99.h, (lt_line hi101 (List.getElem?_eq_some_iff.mp hx92).1 hl62), ?_⟩
      have g123 := g097.put (o := (.lst (acc95 ++ [(V.int e105.b)]))) owD99
      have ow124 := ow0102.other (o := (.lst (acc95 ++ [(V.int e105.b)]))) ne72
      have ow125 := ow1103.other (o := (.lst (acc95 ++ [(V.int e105.b)]))) ne73
      have ow126 := owD99.put (us := (acc95 ++ [(V.int e105.b)]))
      exact ⟨F94, (acc95 ++ [(V.int e105.b)]), (ds96 ++ [e105.b]), g123, sm98, ow126, hA122, (by rw [List.length_append]; exact Nat.succ_le_succ hi101), ow124, ow125, (snoc_rest hr104)⟩
    intro H127 hP
    obtain ⟨F128, acc129, ds130, g0132, sm133, owD134, hA135, hi136, ow0137, ow1138, hr139⟩ := hP
    rw [drop_end (RL.len hA58)] at hr139
    rw [m_l_top_c2.eq_1, List.append_nil] at hr139
    obtain rfl := hr139
    have hl140 : acc129.length ≤ sizeLine := Nat.le_trans hi136 hl62
    obtain ⟨t141, hb142, hm⟩ := bnd hm
    obtain ⟨hk143, rfl⟩ := conL_ok hb142
    have hz146 : ([(V.int (0 : Int))] ++ acc129).length ≤ sizeLine := by rw [List.length_append, RL.len (hA69.up sm133), RL.len hA135]; exact hk143
    refine ⟨p63, D70, [(V.int (0 : Int))], acc129, rfl, rfl, ow1138.sq, owD134.sq, (by rw [RL.len (hA69.up sm133), RL.len hA135]; exact hk143), fun p144 np145 => ?_⟩
    have hA147 := RL.app (hA69.up sm133) hA135
    have ne149 := ow0137.ne np145
    have ne150 := ow1138.ne np145
    have ne151 := owD134.ne np145
    have g152 := g0132.own (o := (.lst ([(V.int (0 : Int))] ++ acc129))) np145
    have ow153 := ow0137.own (o := (.lst ([(V.int (0 : Int))] ++ acc129))) np145
    have ow154 := ow1138.own (o := (.lst ([(V.int (0 : Int))] ++ acc129))) np145
    have ow155 := owD134.own (o := (.lst ([(V.int (0 : Int))] ++ acc129))) np145
    have ow156 : Ow H0 F128 (upd H127 p144 (.lst ([(V.int (0 : Int))] ++ acc129))) p144 ([(V.int (0 : Int))] ++ acc129) := Ow.new g0132 np145
    obtain ⟨t157, hb158, hm⟩ := bnd hm
    refine ⟨p144, (([(0 : Int)] : List Int) ++ (m_l_top_c2  ds53)), rfl, (by rw [← RL.ints hA147]; exact ow156.sq), (maxO_ok hb158).1, fun m159 hm160 hl161 => ?_⟩
    obtain rfl := max_uniq hb158 hm160 hl161
    refine p_name ?_
    refine p_nx ?_
    refine p_ret ?_
    refine ⟨(V.ref D1), rfl, D1, rfl, ⟨_, ow153.sq⟩, fun D162 nD163 => ?_⟩
    have ne164 := ow153.ne nD163
    have ne165 := ow154.ne nD163
    have ne166 := ow155.ne nD163
    have ne167 := ow156.ne nD163
    have g168 := g152.own (o := (.lst [])) nD163
    have ow169 := ow153.own (o := (.lst [])) nD163
    have ow170 := ow154.own (o := (.lst [])) nD163
    have ow171 := ow155.own (o := (.lst [])) nD163
    have ow172 := ow156.own (o := (.lst [])) nD163
    have ow173 : Ow H0 F128 (upd (upd H127 p144 (.lst ([(V.int (0 : Int))] ++ acc129))) D162 (.lst [])) D162 [] := Ow.new g152 nD163
    refine lc_list (K := K) (a := D1) (xs := acc52) (fun i H' => ∃ (F' : Hp) (acc : List V) (ds : List (T5 Str Int (List (Int × Int)) (Option (VT Int)) (Option (T4 Int (VT Int) (VT Int) (Option Int))))), Gr M0 F0 H0 F' H' ∧ Same F128 F' ∧ Ow H0 F' H' D162 acc ∧ RL K F' acc ds ∧ acc.length ≤ i ∧ Ow H0 F' H' D1 acc52 ∧ Ow H0 F' H' p63 [(V.int (0 : Int))] ∧ Ow H0 F' H' D70 acc129 ∧ Ow H0 F' H' p144 ([(V.int (0 : Int))] ++ acc129) ∧ ds ++ m_l_top_c3 m159 (ds53.drop i) = (m_l_top_c3 m159 ds53)) ?_ ?_ ?_ ?_
    · exact ⟨F128, [], [], g168, Same.refl _, ow173, RpA.nil, Nat.le_refl _, ow169, ow170, ow171, ow172, rfl⟩
    · intro i H' _ hP
      obtain ⟨F175, acc176, ds177, g0178, sm179, owD180, hA181, hi182, ow0183, ow1184, ow2185, ow3186, hr187⟩ := hP
      exact ow0183.sq
    · intro i189 xv188 H191 hx190 hP
      obtain ⟨F192, acc193, ds194, g0195, sm196, owD197, hA198, hi199, ow0200, ow1201, ow2202, ow3203, hr204⟩ := hP
      obtain ⟨e205, he206, r207⟩ := RL.get (hA58.up (Same.trans sm133 sm196)) hx190
      rw [drop_at he206, m_l_top_c3.eq_2] at hr204
      obtain ⟨p208, v211, v212, v213, v214, v215, ev209, hS210, r216, r217, r218, r219, r220⟩ := R.p5_v r207
      obtain ⟨rfl, gs221⟩ := R.str_v r216
      obtain rfl := R.int_v r217
      refine ⟨rfl, xv188, rfl, p208, _, _, (V.int e205.b), ev209, rfl, (SqT_mono g0195.fh hS210), rfl, (V.int m159), rfl, rfl, _, rfl, (iteB (fun hc => ?_) (fun hc => ?_))⟩
      · have hc : (eqI e205.b m159) = true := hc
        rw [if_pos hc] at hr204
        have hA222 : RL K F192 (acc193 ++ [xv188]) (ds194 ++ [(e205 : (T5 Str Int (List (Int × Int)) (Option (VT Int)) (Option (T4 Int (VT Int) (VT Int) (Option Int)))))]) := RL.snoc hA198 r207
        refine ⟨xv188, rfl, acc193, owD197.h, (lt_line hi199 (List.getElem?_eq_some_iff.mp hx190).1 hl62), ?_⟩
        have g223 := g0195.put (o := (.lst (acc193 ++ [xv188]))) owD197
        have ow224 := ow0200.other (o := (.lst (acc193 ++ [xv188]))) ne164
        have ow225 := ow1201.other (o := (.lst (acc193 ++ [xv188]))) ne165
        have ow226 := ow2202.other (o := (.lst (acc193 ++ [xv188]))) ne166
        have ow227 := ow3203.other (o := (.lst (acc193 ++ [xv188]))) ne167
        have ow228 := owD197.put (us := (acc193 ++ [xv188]))
        exact ⟨F192, (acc193 ++ [xv188]), (ds194 ++ [e205]), g223, sm196, ow228, hA222, (by rw [List.length_append]; exact Nat.succ_le_succ hi199), ow224, ow225, ow226, ow227, (snoc_rest hr204)⟩
      · have hc : (eqI e205.b m159) = false := hc
        rw [if_neg (ne_true_of_eq_false hc)] at hr204
        exact ⟨F192, acc193, ds194, g0195, sm196, owD197, hA198, (Nat.le_succ_of_le hi199), ow0200, ow1201, ow2202, ow3203, hr204⟩
    intro H229 hP
    obtain ⟨F230, acc231, ds232, g0234, sm235, owD236, hA237, hi238, ow0239, ow1240, ow2241, ow3242, hr243⟩ := hP
    rw [drop_end (RL.len (hA58.up sm133))] at hr243
    rw [m_l_top_c3.eq_1, List.append_nil] at hr243
    obtain rfl := hr243
    have hl244 : acc231.length ≤ sizeLine := Nat.le_trans hi238 hl62
    obtain rfl := sjoin hm
    exact (hQ _ _ _ _ g0234 owD236.n0 owD236.h owD236.nF hl244 hA237)
end K13
namespace K13
open PySem PySem.Spec PyProof.Rows L2 TL G
theorem ok_l_cuts {P : Program} {w : World} {K : PySem.W.Frag} {mg : Str → Option Value} {base : Heap} (T : Txt K mg) : FnOk P w K mg base CX0 1 T.a_l_cuts T.d_l_cuts ["_law_plain_here", "_law_bits"] (sp_l_cuts K) := by
  refine fd_ok T.F_l_cuts sc_l_cuts (fun vs H Q E h => ?_) (fun cdv A outer s H0 vs Q E hr h => ?_)
  · obtain ⟨_, _, _, _, _, _, rfl, _⟩ := h
    rfl
  · obtain ⟨F0, p_y_plain_here, ws_y_plain_here, y_plain_here, y_bits, r, rfl, hS0, hS_y_plain_here, hl_y_plain_here, hA_y_plain_here, nm_y_plain_here, hm, hQ⟩ := h
    refine ⟨_, (pss_cons (ps_set (i := 2) sc_l_cuts.nd rfl (.inl rfl) (pe_lst (pa_cons pe_int (pa_cons (pe_op op_shl pe_int (pv 1)) pa_nil)))) (pss_cons (ps_for PassesOwn.never rfl (pi_listK (K := K) (pv 0)) (pg_name (i := 3) sc_l_cuts.nd rfl (Or.inl rfl)) (pss_one (ps_for PassesOwn.never rfl (pi_listK (K := K) (pe_ix (ix_tupK (K := K)) (pv 3) pe_int (fun _ _ => rfl))) (pg_tupK (K := K) 2 rfl (pgs_cons (pg_name (i := 4) sc_l_cuts.nd rfl (Or.inl rfl)) (pgs_cons (pg_name (i := 5) sc_l_cuts.nd rfl (Or.inl rfl)) pgs_nil))) (pss_one (ps_expr (pe_bmK (K := K) PySem.F.plainAttrs_list PySem.F.slot_list_extend PySem.F.type_list_extend mt_extend (pv 2) (pa_cons (pe_lst (pa_cons (pv 4) (pa_cons (pv 5) pa_nil))) pa_nil))))))) (pss_one (ps_ret (pe_ssetK (K := K) rfl (by rfl) T.n_sorted (by rfl) T.n_set (pv 2)))))), ?_⟩
    have g0 : Gr M0 F0 H0 F0 H0 := Gr.refl hS0
    unfold m_l_cuts at hm
    refine p_seq ?_
    refine p_asg ?_
    obtain ⟨t1, hb2, hm⟩ := bnd hm
    obtain ⟨hk3, rfl⟩ := shlI_ok hb2
    refine ⟨(V.int y_bits), rfl, _, _, rfl, rfl, hk3, (by show 2 ≤ sizeLine; decide), fun p4 np5 => ?_⟩
    have g6 := g0.own (o := (.lst [(V.int (0 : Int)), (V.int ((1 : Int) * 2 ^ (y_bits).toNat))])) np5
    have ow7 : Ow H0 F0 (upd H0 p4 (.lst [(V.int (0 : Int)), (V.int ((1 : Int) * 2 ^ (y_bits).toNat))])) p4 [(V.int (0 : Int)), (V.int ((1 : Int) * 2 ^ (y_bits).toNat))] := Ow.new g0 np5
    have hA8 : RL K F0 [(V.int (0 : Int)), (V.int ((1 : Int) * 2 ^ (y_bits).toNat))] ([(0 : Int), ((1 : Int) * 2 ^ (y_bits).toNat)] : List Int) := (RpA.cons (Rp.int (0 : Int)) (RpA.cons (Rp.int ((1 : Int) * 2 ^ (y_bits).toNat)) RpA.nil))
    obtain ⟨y_found9, hb10, hm⟩ := bnd hm
    have hx11 : ([(0 : Int), ((1 : Int) * 2 ^ (y_bits).toNat)] : List Int) = y_found9 := sjoin hb10
    have hA12 : RL K F0 [(V.int (0 : Int)), (V.int ((1 : Int) * 2 ^ (y_bits).toNat))] y_found9 := RL.re hx11 hA8
    refine p_name ?_
    refine p_nx ?_
    refine p_seq ?_
    refine p_for ?_
    refine ⟨(V.ref p_y_plain_here), rfl, p_y_plain_here, rfl, ⟨_, (g6.seq nm_y_plain_here hS_y_plain_here)⟩, ?_⟩
    obtain ⟨y_found13, ht14, hm⟩ := bnd hm
    refine for_list (K := K) (a := p_y_plain_here) (xs := ws_y_plain_here) (fun i σ' H' => ∃ (F' : Hp) (o_y_row : Option V) (o_y_first : Option V) (o_y_behind : Option V) (y_found : (List Int)) (ws_y_found : List V), σ' = [(some (V.ref p_y_plain_here)), (some (V.int y_bits)), (some (V.ref p4)), o_y_row, o_y_first, o_y_behind] ∧ Gr M0 F0 H0 F' H' ∧ Same F0 F' ∧ Ow H0 F' H' p4 ws_y_found ∧ ws_y_found.length ≤ sizeLine ∧ RL K F' ws_y_found y_found ∧ m_l_cuts_l1  (y_plain_here.drop i) y_found = some y_found13) ?_ ?_ ?_ ?_
    · exact ⟨F0, none, none, none, y_found9, [(V.int (0 : Int)), (V.int ((1 : Int) * 2 ^ (y_bits).toNat))], rfl, g6, (Same.refl _), ow7, (by show 2 ≤ sizeLine; decide), hA12, ht14⟩
    · intro i σ' H' _ hP
      obtain ⟨F', o_y_row, o_y_first, o_y_behind, y_found, ws_y_found, rfl, g_, sm_, ow_y_found, hl_y_found, hA_y_found, hm_⟩ := hP
      exact (g_.seq nm_y_plain_here hS_y_plain_here)
    · intro i15 xv18 σ' H17 hx16 hP
      obtain ⟨F19, o_y_row20, o_y_first21, o_y_behind22, y_found23, ws_y_found24, rfl, g25, sm26, ow_y_found27, hl_y_found28, hA_y_found29, hm30⟩ := hP
      obtain ⟨e31, he32, r33⟩ := RL.get (hA_y_plain_here.up sm26) hx16
      rw [drop_at he32, m_l_cuts_l1.eq_2] at hm30
      refine p_name ?_
      refine p_for ?_
      obtain ⟨p34, v37, v38, v39, v40, v41, ev35, hS36, r42, r43, r44, r45, r46⟩ := R.p5_v r33
      obtain ⟨rfl, gs47⟩ := R.str_v r42
      obtain rfl := R.int_v r43
      obtain ⟨p48, ws49, ev50, hS51, hl52, hA53⟩ := R.lst_v r44
      refine ⟨xv18, rfl, p34, _, _, v39, ev35, rfl, (SqT_mono g25.fh hS36), rfl, p48, ev50, ⟨_, (Same.seq g25.fh hS51)⟩, ?_⟩
      obtain ⟨y_found54, ht55, hm30⟩ := bnd hm30
      refine for_list (K := K) (a := p48) (xs := ws49) (fun i σ' H' => ∃ (F' : Hp) (o_y_first : Option V) (o_y_behind : Option V) (y_found : (List Int)) (ws_y_found : List V), σ' = [(some (V.ref p_y_plain_here)), (some (V.int y_bits)), (some (V.ref p4)), (some xv18), o_y_first, o_y_behind] ∧ Gr M0 F0 H0 F' H' ∧ Same F19 F' ∧ Ow H0 F' H' p4 ws_y_found ∧ ws_y_found.length ≤ sizeLine ∧ RL K F' ws_y_found y_found ∧ m_l_cuts_l2  (e31.c.drop i) y_found = some y_found54) ?_ ?_ ?_ ?_
      · exact ⟨F19, o_y_first21, o_y_behind22, y_found23, ws_y_found24, rfl, g25, (Same.refl _), ow_y_found27, hl_y_found28, hA_y_found29, ht55⟩
      · intro i σ' H' _ hP
        obtain ⟨F', o_y_first, o_y_behind, y_found, ws_y_found, rfl, g_, sm_, ow_y_found, hl_y_found, hA_y_found, hm_⟩ := hP
        exact (Same.seq g_.fh (Same.seq sm_ hS51))
      · intro i56 xv59 σ' H58 hx57 hP
        obtain ⟨F60, o_y_first61, o_y_behind62, y_found63, ws_y_found64, rfl, g65, sm66, ow_y_found67, hl_y_found68, hA_y_found69, hm70⟩ := hP
        obtain ⟨e71, he72, r73⟩ := RL.get (hA53.up sm66) hx57
        rw [drop_at he72, m_l_cuts_l2.eq_2] at hm70
        obtain ⟨p74, v77, v78, ev75, hS76, r79, r80⟩ := R.p2_v r73
        obtain rfl := R.int_v r79
        obtain rfl := R.int_v r80
        refine ⟨p74, [(V.int e71.1), (V.int e71.2)], ev75, (SqT_mono g65.fh hS76), rfl, (V.int e71.1), [(V.int e71.2)], rfl, (V.int e71.2), [], rfl, rfl, ?_⟩
        refine p_drop ?_
        refine ⟨(V.ref p4), rfl, (.inl ⟨rfl, _, ow_y_found67.sq⟩), (V.int e71.1), rfl, (V.int e71.2), rfl, (by show 2 ≤ sizeLine; decide), fun p81 np82 => ?_⟩
        have ne83 := ow_y_found67.ne np82
        have g84 := g65.own (o := (.lst [(V.int e71.1), (V.int e71.2)])) np82
        have ow85 := ow_y_found67.own (o := (.lst [(V.int e71.1), (V.int e71.2)])) np82
        have ow86 : Ow H0 F60 (upd H58 p81 (.lst [(V.int e71.1), (V.int e71.2)])) p81 [(V.int e71.1), (V.int e71.2)] := Ow.new g65 np82
        have hA87 : RL K F60 [(V.int e71.1), (V.int e71.2)] ([e71.1, e71.2] : List Int) := (RpA.cons (Rp.int e71.1) (RpA.cons (Rp.int e71.2) RpA.nil))
        obtain ⟨t88, hb89, hm70⟩ := bnd hm70
        obtain ⟨hk90, rfl⟩ := conL_ok hb89
        refine ⟨p4, p81, ws_y_found64, [(V.int e71.1), (V.int e71.2)], rfl, rfl, ow85.h, ow86.h, (by rw [RL.len hA_y_found69, RL.len hA87]; exact hk90), ?_⟩
        have hA91 := RL.app hA_y_found69 hA87
        have hl92 : (ws_y_found64 ++ [(V.int e71.1), (V.int e71.2)]).length ≤ sizeLine := by rw [List.length_append, RL.len hA_y_found69, RL.len hA87]; exact hk90
        have g93 := g84.put (o := (.lst (ws_y_found64 ++ [(V.int e71.1), (V.int e71.2)]))) ow85
        have ow94 := ow86.other (o := (.lst (ws_y_found64 ++ [(V.int e71.1), (V.int e71.2)]))) (Ne.symm ne83)
        have ow95 := ow85.put (us := (ws_y_found64 ++ [(V.int e71.1), (V.int e71.2)]))
        exact ⟨F60, (some (V.int e71.1)), (some (V.int e71.2)), (y_found63 ++ ([e71.1, e71.2] : List Int)), (ws_y_found64 ++ [(V.int e71.1), (V.int e71.2)]), rfl, g93, sm66, ow95, hl92, hA91, hm70⟩
      intro σ96 H97 hP
      obtain ⟨F98, o_y_first99, o_y_behind100, y_found101, ws_y_found102, rfl, g103, sm104, ow_y_found105, hl_y_found106, hA_y_found107, hm108⟩ := hP
      rw [drop_end (RL.len (hA53.up sm104)), m_l_cuts_l2.eq_1] at hm108
      obtain rfl := sjoin hm108
      exact ⟨F98, (some xv18), o_y_first99, o_y_behind100, y_found101, ws_y_found102, rfl, g103, (Same.trans sm26 sm104), ow_y_found105, hl_y_found106, hA_y_found107, hm30⟩
    intro σ109 H110 hP
    obtain ⟨F111, o_y_row112, o_y_first113, o_y_behind114, y_found115, ws_y_found116, rfl, g117, sm118, ow_y_found119, hl_y_found120, hA_y_found121, hm122⟩ := hP
    rw [drop_end (RL.len (hA_y_plain_here.up sm118)), m_l_cuts_l1.eq_1] at hm122
    obtain rfl := sjoin hm122
    refine p_nx ?_
    refine p_ret ?_
    obtain ⟨t123, hb124, hm⟩ := bnd hm
    obtain ⟨hk125, hss_⟩ := ssetO_ok hb124
    subst hss_
    refine ⟨(V.ref p4), rfl, p4, y_found115, rfl, (by rw [← RL.ints hA_y_found121]; exact ow_y_found119.sq), hk125, fun ns126 p130 so127 mm128 ln129 np131 => ?_⟩
    obtain rfl := ssort_uniq so127 mm128
    have hl132 : ((ssort y_found115).map V.int).length ≤ sizeLine := by rw [List.length_map, sizeLine_eq]; omega
    have hA133 : RL K F111 ((ssort y_found115).map V.int) (ssort y_found115) := RL.ofInts _
    have ne134 := ow_y_found119.ne np131
    have g135 := g117.own (o := (.lst ((ssort y_found115).map V.int))) np131
    have ow136 := ow_y_found119.own (o := (.lst ((ssort y_found115).map V.int))) np131
    have ow137 : Ow H0 F111 (upd H110 p130 (.lst ((ssort y_found115).map V.int))) p130 ((ssort y_found115).map V.int) := Ow.new g117 np131
    obtain rfl := sjoin hm
    exact (hQ _ _ _ _ g135 ow137.n0 ow137.h ow137.nF hl132 hA133)
end K13
namespace K13
open PySem PySem.Spec PyProof.Rows L2 TL G
theorem ok_l_clash {P : Program} {w : World} {K : PySem.W.Frag} {mg : Str → Option Value} {base : Heap} (T : Txt K mg) : FnOk P w K mg base CX0 3 T.a_l_clash T.d_l_clash ["_law_plain_here", "_law_town_here"] (sp_l_clash K) := by
  have G_l_cuts : FnOk P w K mg base CX0 1 T.a_l_cuts T.d_l_cuts ["_law_plain_here", "_law_bits"] (sp_l_cuts K) := ok_l_cuts T
  have b_l_cuts := T.F_l_cuts.bindsN (ps := ["_law_plain_here", "_law_bits"]) fun _ _ _ _ _ _ us hl => match us, hl with | [_, _], _ => rfl
  have G_l_top : FnOk P w K mg base CX0 2 T.a_l_top T.d_l_top ["_law_plain_here", "_law_gate", "_law_mark_here"] (sp_l_top K) := ok_l_top T
  have b_l_top := T.F_l_top.bindsN (ps := ["_law_plain_here", "_law_gate", "_law_mark_here"]) fun _ _ _ _ _ _ us hl => match us, hl with | [_, _, _], _ => rfl
  refine fd_ok T.F_l_clash sc_l_clash (fun vs H Q E h => ?_) (fun cdv A outer s H0 vs Q E hr h => ?_)
  · obtain ⟨_, _, _, _, _, _, _, rfl, _⟩ := h
    rfl
  · obtain ⟨F0, p_y_plain_here, ws_y_plain_here, y_plain_here, v_y_town_here, y_town_here, r, rfl, hS0, hS_y_plain_here, hl_y_plain_here, hA_y_plain_here, nm_y_plain_here, r_y_town_here, hm, hQ⟩ := h
    refine ⟨_, (pss_cons (ps_for PassesOwn.never rfl (pi_range1 (by rfl) T.n_range (pa_cons (pe_callB (call_lenLK (K := K)) (by rfl) T.n_len (by decide +kernel) (pa_cons (pe_ix (ix_tupK (K := K)) (pv 1) pe_int (fun _ _ => rfl)) pa_nil)) pa_nil)) (pg_name (i := 2) sc_l_clash.nd rfl (Or.inl rfl)) (pss_one (ps_for PassesOwn.never rfl (pi_listK (K := K) (pe_slice (sl_listK (K := K)) (pe_call G_l_cuts (hr.mono (by decide)) (by rfl) T.g_l_cuts T.F_l_cuts.kp b_l_cuts .nil pass0 (pa_cons (pv 0) (pa_cons (pe_ix (ix_tupK (K := K)) (pv 1) pe_int (fun _ _ => rfl)) pa_nil))) po_none (po_some (pe_un un_neg pe_int)))) (pg_name (i := 3) sc_l_clash.nd rfl (Or.inl rfl)) (pss_cons (ps_set (i := 4) sc_l_clash.nd rfl (.inr rfl) (pe_call G_l_top (hr.mono (by decide)) (by rfl) T.g_l_top T.F_l_top.kp b_l_top .nil pass0 (pa_cons (pv 0) (pa_cons (pv 2) (pa_cons (pv 3) pa_nil))))) (pss_one (ps_for PassesOwn.never rfl (pi_range1 (by rfl) T.n_range (pa_cons (pe_callB (call_lenLK (K := K)) (by rfl) T.n_len (by decide +kernel) (pa_cons (pv 4) pa_nil)) pa_nil)) (pg_name (i := 5) sc_l_clash.nd rfl (Or.inr rfl)) (pss_cons (ps_setLc (i := 6) (own := [("_law_row", 7)]) rfl sc_l_clash.nd rfl rfl (sw_true rfl rfl rfl (by decide +kernel)) (pi_listK (K := K) (pe_slice (sl_listK (K := K)) (pv 4) (po_some (pe_op op_add (pv 5) pe_int)) po_none)) (blkOk_by (own := [("_law_row", 7)]) (N := N_l_clash) (sc := defScope s_l_clash) (by decide +kernel)) (fun _ _ _ _ _ => (pg_name (i := 7) sc_l_clash.nd rfl (Or.inl rfl) (.inr rfl))) (fun _ _ _ _ _ => (pts_one (pt_cmpR (op_neDK (K := K) hr.units) (pe_ix (ix_tupK (K := K)) (pv 7) pe_int (fun _ _ => rfl)) (pe_ix (ix_tupK (K := K)) (pe_ix (ix_listK (K := K)) (pv 4) (pv 5) (fun _ _ => rfl)) pe_int (fun _ _ => rfl)) (nomark _)))) (fun _ _ _ _ _ => (pv 7))) (pss_one (ps_if (pt_cmpR (op_neDK (K := K) hr.units) (pv 6) (pe_lst pa_nil) (nomark _)) (pss_one (ps_ret (pe_tup (pa_cons (pe_ix (ix_tupK (K := K)) (pe_ix (ix_listK (K := K)) (pv 4) (pv 5) (fun _ _ => rfl)) pe_int (fun _ _ => rfl)) (pa_cons (pe_ix (ix_tupK (K := K)) (pe_ix (ix_listK (K := K)) (pv 6) pe_int (fun _ _ => rfl)) pe_int (fun _ _ => rfl)) (pa_cons (pv 2) (pa_cons (pv 3) pa_nil))))))) pss_nil))))))))) (pss_one (ps_ret pe_non))), ?_⟩
    have g0 : Gr M0 F0 H0 F0 H0 := Gr.refl hS0
    unfold m_l_clash at hm
    refine p_seq ?_
    refine p_for ?_
    obtain ⟨p1, v4, v5, v6, v7, ev2, hS3, r8, r9, r10, r11⟩ := R.p4_v r_y_town_here
    obtain rfl := R.int_v r8
    obtain rfl := R.int_v r9
    obtain ⟨p12, ws13, ev14, hS15, hl16, hA17⟩ := R.lst_v r11
    obtain ⟨l18, hb20, hm⟩ := bnd hm
    obtain ⟨hk19, rfl⟩ := rangeO1_ok hb20
    refine ⟨v_y_town_here, rfl, p1, _, _, v7, ev2, rfl, (SqT_mono g0.fh hS3), rfl, p12, ws13, _, (by rw [ev14]), (.inl (Same.seq g0.fh hS15)), (RL.len hA17), _, rfl, hk19.1.1, hk19.1.2, ?_⟩
    obtain ⟨l21, ht22, hm⟩ := bndL0 hm
    refine for_range (lo := (0 : Int)) (n := ((((y_town_here.e).length : Nat) : Int)).toNat) (fun i σ' H' => ∃ (F' : Hp) (o_y_gate : Option V) (o_y_mark_here : Option V) (o_y_some : Option V) (o_y_k : Option V) (o_y_unlike : Option V), σ' = [(some (V.ref p_y_plain_here)), (some v_y_town_here), o_y_gate, o_y_mark_here, o_y_some, o_y_k, o_y_unlike, none] ∧ Gr M0 F0 H0 F' H' ∧ Same F0 F' ∧ m_l_clash_l1 y_plain_here y_town_here ((rangeL (0 : Int) ((((y_town_here.e).length : Nat) : Int)).toNat).drop i)  = some l21) ?_ ?_ ?_
    · exact ⟨F0, none, none, none, none, none, rfl, g0, (Same.refl _), ht22⟩
    · intro i23 σ' H25 hx24 hP
      obtain ⟨F27, o_y_gate28, o_y_mark_here29, o_y_some30, o_y_k31, o_y_unlike32, rfl, g33, sm34, hm35⟩ := hP
      have he37 := rangeL_at (lo := (0 : Int)) hx24
      rw [drop_at he37, m_l_clash_l1.eq_2] at hm35
      refine p_name ?_
      refine p_for ?_
      obtain ⟨r38, hb39, hm35⟩ := bnd hm35
      refine ⟨(V.ref p_y_plain_here), rfl, v_y_town_here, rfl, p1, _, _, (V.int y_town_here.a), ev2, rfl, (SqT_mono g33.fh (SqT_mono sm34 hS3)), rfl, F27, p_y_plain_here, ws_y_plain_here, y_plain_here, y_town_here.a, r38, rfl, g33.fh, (g33.seq nm_y_plain_here hS_y_plain_here), hl_y_plain_here, (hA_y_plain_here.up sm34), id, hb39, fun p43 ws44 F40 H41 g42 np45 h46 nF47 hl48 hA49 => ?_⟩
      have n050 := g33.none0 np45
      have g51 := Gr.trans g33 g42
      have ow52 : Ow H0 F40 H41 p43 ws44 := ⟨h46, nF47, n050⟩
      refine ⟨_, rfl, _, rfl, p43, ws44, rfl, ow52.sq, fun p53 np54 => ?_⟩
      have hA55 : RL K F40 (cutV ws44 none (some (-(1 : Int)))) (cutL r38 none (some (-(1 : Int)))) := RL.cut none (some (-(1 : Int))) hA49
      have ne56 := ow52.ne np54
      have g57 := g51.own (o := (.lst (cutV ws44 none (some (-(1 : Int)))))) np54
      have ow58 := ow52.own (o := (.lst (cutV ws44 none (some (-(1 : Int)))))) np54
      have ow59 : Ow H0 F40 (upd H41 p53 (.lst (cutV ws44 none (some (-(1 : Int)))))) p53 (cutV ws44 none (some (-(1 : Int)))) := Ow.new g51 np54
      refine ⟨p53, rfl, ⟨_, ow59.sq⟩, ?_⟩
      obtain ⟨l60, ht61, hm35⟩ := bndL0 hm35
      refine for_list (K := K) (a := p53) (xs := (cutV ws44 none (some (-(1 : Int))))) (fun i σ' H' => ∃ (F' : Hp) (o_y_mark_here : Option V) (o_y_some : Option V) (o_y_k : Option V) (o_y_unlike : Option V), σ' = [(some (V.ref p_y_plain_here)), (some v_y_town_here), (some (V.int ((0 : Int) + ((i23 : Nat) : Int)))), o_y_mark_here, o_y_some, o_y_k, o_y_unlike, none] ∧ Gr M0 F0 H0 F' H' ∧ Same F40 F' ∧ Ow H0 F' H' p53 (cutV ws44 none (some (-(1 : Int)))) ∧ m_l_clash_l2 y_plain_here ((0 : Int) + ((i23 : Nat) : Int)) ((cutL r38 none (some (-(1 : Int)))).drop i)  = some l60) ?_ ?_ ?_ ?_
      · exact ⟨F40, o_y_mark_here29, o_y_some30, o_y_k31, o_y_unlike32, rfl, g57, (Same.refl _), ow59, ht61⟩
      · intro i σ' H' _ hP
        obtain ⟨F', o_y_mark_here, o_y_some, o_y_k, o_y_unlike, rfl, g_, sm_, owk0_, hm_⟩ := hP
        exact owk0_.sq
      · intro i62 xv65 σ' H64 hx63 hP
        obtain ⟨F66, o_y_mark_here67, o_y_some68, o_y_k69, o_y_unlike70, rfl, g71, sm72, owk073, hm74⟩ := hP
        obtain ⟨e75, he76, r77⟩ := RL.get (hA55.up sm72) hx63
        obtain rfl := R.int_v r77
        rw [drop_at he76, m_l_clash_l2.eq_2] at hm74
        refine p_name ?_
        refine p_seq ?_
        refine p_asg ?_
        obtain ⟨r78, hb79, hm74⟩ := bnd hm74
        refine ⟨(V.ref p_y_plain_here), rfl, (V.int ((0 : Int) + ((i23 : Nat) : Int))), rfl, (V.int e75), rfl, F66, p_y_plain_here, ws_y_plain_here, y_plain_here, ((0 : Int) + ((i23 : Nat) : Int)), e75, r78, rfl, g71.fh, (g71.seq nm_y_plain_here hS_y_plain_here), hl_y_plain_here, (hA_y_plain_here.up (Same.trans sm34 (Same.trans g42.ff sm72))), id, hb79, fun p83 ws84 F80 H81 g82 np85 h86 nF87 hl88 hA89 => ?_⟩
        have ne90 := owk073.ne np85
        have n091 := g71.none0 np85
        have g92 := Gr.trans g71 g82
        have ow93 := owk073.gr0 g82
        have ow94 : Ow H0 F80 H81 p83 ws84 := ⟨h86, nF87, n091⟩
        refine p_name ?_
        refine p_nx ?_
        refine p_for ?_
        obtain ⟨l95, hb97, hm74⟩ := bnd hm74
        obtain ⟨hk96, rfl⟩ := rangeO1_ok hb97
        refine ⟨(V.ref p83), rfl, p83, ws84, _, rfl, (.inl ow94.sq), (RL.len hA89), _, rfl, hk96.1.1, hk96.1.2, ?_⟩
        obtain ⟨l98, ht99, hm74⟩ := bndL0 hm74
        refine for_range (lo := (0 : Int)) (n := ((((r78).length : Nat) : Int)).toNat) (fun i σ' H' => ∃ (F' : Hp) (o_y_k : Option V) (o_y_unlike : Option V), σ' = [(some (V.ref p_y_plain_here)), (some v_y_town_here), (some (V.int ((0 : Int) + ((i23 : Nat) : Int)))), (some (V.int e75)), (some (V.ref p83)), o_y_k, o_y_unlike, none] ∧ Gr M0 F0 H0 F' H' ∧ Same F80 F' ∧ Ow H0 F' H' p53 (cutV ws44 none (some (-(1 : Int)))) ∧ Ow H0 F' H' p83 ws84 ∧ m_l_clash_l3 ((0 : Int) + ((i23 : Nat) : Int)) e75 r78 ((rangeL (0 : Int) ((((r78).length : Nat) : Int)).toNat).drop i)  = some l98) ?_ ?_ ?_
        · exact ⟨F80, o_y_k69, o_y_unlike70, rfl, g92, (Same.refl _), ow93, ow94, ht99⟩
        · intro i100 σ' H102 hx101 hP
          obtain ⟨F104, o_y_k105, o_y_unlike106, rfl, g107, sm108, owk0109, owk1110, hm111⟩ := hP
          have he113 := rangeL_at (lo := (0 : Int)) hx101
          rw [drop_at he113, m_l_clash_l3.eq_2] at hm111
          refine p_name ?_
          refine p_seq ?_
          refine p_asg ?_
          refine ⟨(V.ref p83), rfl, (V.int ((0 : Int) + ((i100 : Nat) : Int))), rfl, _, _, rfl, rfl, _, rfl, p83, ws84, rfl, owk1110.sq, fun p114 np115 => ?_⟩
          have hA116 : RL K F104 (cutV ws84 (some (((0 : Int) + ((i100 : Nat) : Int)) + (1 : Int))) none) (cutL r78 (some (((0 : Int) + ((i100 : Nat) : Int)) + (1 : Int))) none) := RL.cut (some (((0 : Int) + ((i100 : Nat) : Int)) + (1 : Int))) none (hA89.up sm108)
          have ne117 := owk0109.ne np115
          have ne118 := owk1110.ne np115
          have g119 := g107.own (o := (.lst (cutV ws84 (some (((0 : Int) + ((i100 : Nat) : Int)) + (1 : Int))) none))) np115
          have ow120 := owk0109.own (o := (.lst (cutV ws84 (some (((0 : Int) + ((i100 : Nat) : Int)) + (1 : Int))) none))) np115
          have ow121 := owk1110.own (o := (.lst (cutV ws84 (some (((0 : Int) + ((i100 : Nat) : Int)) + (1 : Int))) none))) np115
          have ow122 : Ow H0 F104 (upd H102 p114 (.lst (cutV ws84 (some (((0 : Int) + ((i100 : Nat) : Int)) + (1 : Int))) none))) p114 (cutV ws84 (some (((0 : Int) + ((i100 : Nat) : Int)) + (1 : Int))) none) := Ow.new g107 np115
          refine ⟨p114, rfl, ⟨_, ow122.sq⟩, fun D123 nD124 => ?_⟩
          have ne125 := ow120.ne nD124
          have ne126 := ow121.ne nD124
          have ne127 := ow122.ne nD124
          have g128 := g119.own (o := (.lst [])) nD124
          have ow129 := ow120.own (o := (.lst [])) nD124
          have ow130 := ow121.own (o := (.lst [])) nD124
          have ow131 := ow122.own (o := (.lst [])) nD124
          have ow132 : Ow H0 F104 (upd (upd H102 p114 (.lst (cutV ws84 (some (((0 : Int) + ((i100 : Nat) : Int)) + (1 : Int))) none))) D123 (.lst [])) D123 [] := Ow.new g119 nD124
          obtain ⟨l133, hb134, hm111⟩ := bnd hm111
          refine lc_list (K := K) (a := p114) (xs := (cutV ws84 (some (((0 : Int) + ((i100 : Nat) : Int)) + (1 : Int))) none)) (fun i H' => ∃ (F' : Hp) (acc : List V) (ds : List (T5 Str Int (List (Int × Int)) (Option (VT Int)) (Option (T4 Int (VT Int) (VT Int) (Option Int))))) (rest : List (T5 Str Int (List (Int × Int)) (Option (VT Int)) (Option (T4 Int (VT Int) (VT Int) (Option Int))))), Gr M0 F0 H0 F' H' ∧ Same F104 F' ∧ Ow H0 F' H' D123 acc ∧ RL K F' acc ds ∧ acc.length ≤ i ∧ Ow H0 F' H' p53 (cutV ws44 none (some (-(1 : Int)))) ∧ Ow H0 F' H' p83 ws84 ∧ Ow H0 F' H' p114 (cutV ws84 (some (((0 : Int) + ((i100 : Nat) : Int)) + (1 : Int))) none) ∧ m_l_clash_c4 r78 ((0 : Int) + ((i100 : Nat) : Int)) ((cutL r78 (some (((0 : Int) + ((i100 : Nat) : Int)) + (1 : Int))) none).drop i) = some rest ∧ ds ++ rest = l133) ?_ ?_ ?_ ?_
          · exact ⟨F104, [], [], l133, g128, Same.refl _, ow132, RpA.nil, Nat.le_refl _, ow129, ow130, ow131, hb134, rfl⟩
          · intro i H' _ hP
            obtain ⟨F135, acc136, ds137, rest138, g0139, sm140, owD141, hA142, hi143, ow0144, ow1145, ow2146, hm147, hr148⟩ := hP
            exact ow2146.sq
          · intro i150 xv149 H152 hx151 hP
            obtain ⟨F153, acc154, ds155, rest156, g0157, sm158, owD159, hA160, hi161, ow0162, ow1163, ow2164, hm165, hr166⟩ := hP
            obtain ⟨e167, he168, r169⟩ := RL.get (hA116.up sm158) hx151
            rw [drop_at he168, m_l_clash_c4.eq_2] at hm165
            obtain ⟨p170, v173, v174, v175, v176, v177, ev171, hS172, r178, r179, r180, r181, r182⟩ := R.p5_v r169
            obtain ⟨rfl, gs183⟩ := R.str_v r178
            obtain rfl := R.int_v r179
            obtain ⟨t184, hb185, hm165⟩ := bnd hm165
            obtain ⟨v186, ha187, r188⟩ := RL.at (hA89.up (Same.trans sm108 sm158)) hb185
            obtain ⟨p189, v192, v193, v194, v195, v196, ev190, hS191, r197, r198, r199, r200, r201⟩ := R.p5_v r188
            obtain ⟨rfl, gs202⟩ := R.str_v r197
            obtain rfl := R.int_v r198
            have rH203 : R K H152 v177 e167.f := (Rp.up r182 g0157.fh)
            have rH204 : R K H152 v196 t184.f := (Rp.up r201 g0157.fh)
            refine ⟨rfl, xv149, rfl, p170, _, _, v177, ev171, rfl, (SqT_mono g0157.fh hS172), rfl, (V.ref p83), rfl, (V.int ((0 : Int) + ((i100 : Nat) : Int))), rfl, p83, ws84, _, v186, rfl, rfl, ow1163.sq, ha187, p189, _, _, v196, ev190, rfl, (SqT_mono g0157.fh hS191), rfl, _, _, (Rp.dp _ _ rH203), (Rp.dp _ _ rH204), (R.shaped rH203), (R.shaped rH204), _, rfl, (iteB (fun hc => ?_) (fun hc => ?_))⟩
            · have hc : (!eqD e167.f t184.f) = true := hc
              have hm165 := ifT hc hm165
              have hA205 : RL K F153 (acc154 ++ [xv149]) (ds155 ++ [(e167 : (T5 Str Int (List (Int × Int)) (Option (VT Int)) (Option (T4 Int (VT Int) (VT Int) (Option Int)))))]) := RL.snoc hA160 r169
              obtain ⟨rest206, h207, h208⟩ := bnd hm165
              obtain rfl := sjoin h208
              refine ⟨xv149, rfl, acc154, owD159.h, (lt_line hi161 (List.getElem?_eq_some_iff.mp hx151).1 (Nat.le_trans (cutV_length _ _ _) hl88)), ?_⟩
              have g209 := g0157.put (o := (.lst (acc154 ++ [xv149]))) owD159
              have ow210 := ow0162.other (o := (.lst (acc154 ++ [xv149]))) ne125
              have ow211 := ow1163.other (o := (.lst (acc154 ++ [xv149]))) ne126
              have ow212 := ow2164.other (o := (.lst (acc154 ++ [xv149]))) ne127
              have ow213 := owD159.put (us := (acc154 ++ [xv149]))
              exact ⟨F153, (acc154 ++ [xv149]), (ds155 ++ [e167]), rest206, g209, sm158, ow213, hA205, (by rw [List.length_append]; exact Nat.succ_le_succ hi161), ow210, ow211, ow212, h207, (snoc_rest hr166)⟩
            · have hc : (!eqD e167.f t184.f) = false := hc
              have hm165 := ifF hc hm165
              exact ⟨F153, acc154, ds155, rest156, g0157, sm158, owD159, hA160, (Nat.le_succ_of_le hi161), ow0162, ow1163, ow2164, hm165, hr166⟩
          intro H214 hP
          obtain ⟨F215, acc216, ds217, _rest, g0219, sm220, owD221, hA222, hi223, ow0224, ow1225, ow2226, hm227, hr228⟩ := hP
          rw [drop_end (RL.len hA116)] at hm227
          rw [m_l_clash_c4.eq_1] at hm227
          obtain rfl := sjoin hm227
          rw [List.append_nil] at hr228
          obtain rfl := hr228
          have hl229 : acc216.length ≤ sizeLine := Nat.le_trans hi223 (Nat.le_trans (cutV_length _ _ _) hl88)
          refine p_name ?_
          refine p_nx ?_
          refine p_if ?_
          refine ⟨(V.ref D123), rfl, (by show 0 ≤ sizeLine; decide), fun p230 np231 => ?_⟩
          have ne232 := ow0224.ne np231
          have ne233 := ow1225.ne np231
          have ne234 := ow2226.ne np231
          have ne235 := owD221.ne np231
          have g236 := g0219.own (o := (.lst [])) np231
          have ow237 := ow0224.own (o := (.lst [])) np231
          have ow238 := ow1225.own (o := (.lst [])) np231
          have ow239 := ow2226.own (o := (.lst [])) np231
          have ow240 := owD221.own (o := (.lst [])) np231
          have ow241 : Ow H0 F215 (upd H214 p230 (.lst [])) p230 [] := Ow.new g0219 np231
          have rH243 : R K (upd H214 p230 (.lst [])) (V.ref D123) ds217 := (R.mkl ow240.sq hl229 (RpA.up hA222 g236.fh))
          have rH244 : R K (upd H214 p230 (.lst [])) (V.ref p230) ([] : (List (T5 Str Int (List (Int × Int)) (Option (VT Int)) (Option (T4 Int (VT Int) (VT Int) (Option Int)))))) := (R.mkl ow241.sq (by show 0 ≤ sizeLine; decide) (RpA.up RpA.nil g236.fh))
          refine ⟨_, _, (Rp.dp _ _ rH243), (Rp.dp _ _ rH244), (R.shaped rH243), (R.shaped rH244), _, rfl, (iteB (fun hc => ?_) (fun hc => ?_))⟩
          · have hm111 := ifT hc hm111
            refine p_ret ?_
            obtain ⟨t245, hb246, hm111⟩ := bnd hm111
            obtain ⟨v247, ha248, r249⟩ := RL.at (hA89.up (Same.trans sm108 sm220)) hb246
            obtain ⟨p250, v253, v254, v255, v256, v257, ev251, hS252, r258, r259, r260, r261, r262⟩ := R.p5_v r249
            obtain ⟨rfl, gs263⟩ := R.str_v r258
            obtain rfl := R.int_v r259
            obtain ⟨t264, hb265, hm111⟩ := bnd hm111
            obtain ⟨v266, ha267, r268⟩ := RL.at hA222 hb265
            obtain ⟨p269, v272, v273, v274, v275, v276, ev270, hS271, r277, r278, r279, r280, r281⟩ := R.p5_v r268
            obtain ⟨rfl, gs282⟩ := R.str_v r277
            obtain rfl := R.int_v r278
            refine ⟨(V.ref p83), rfl, (V.int ((0 : Int) + ((i100 : Nat) : Int))), rfl, p83, ws84, _, v247, rfl, rfl, ow238.sq, ha248, p250, _, _, (V.str t245.a), ev251, rfl, (SqT_mono g236.fh hS252), rfl, (V.ref D123), rfl, D123, acc216, _, v266, rfl, rfl, ow240.sq, ha267, p269, _, _, (V.str t264.a), ev270, rfl, (SqT_mono g236.fh hS271), rfl, (V.int ((0 : Int) + ((i23 : Nat) : Int))), rfl, (V.int e75), rfl, (by show 4 ≤ sizeLine; decide), fun p283 np284 => ?_⟩
            have ne285 := ow237.ne np284
            have ne286 := ow238.ne np284
            have ne287 := ow239.ne np284
            have ne288 := ow240.ne np284
            have ne289 := ow241.ne np284
            have sm290 := same_new (o := (.tup [(V.str t245.a), (V.str t264.a), (V.int ((0 : Int) + ((i23 : Nat) : Int))), (V.int e75)])) (g236.noneF np284)
            have g291 := g236.frz (o := (.tup [(V.str t245.a), (V.str t264.a), (V.int ((0 : Int) + ((i23 : Nat) : Int))), (V.int e75)])) np284
            have ow292 := ow237.frz (o := (.tup [(V.str t245.a), (V.str t264.a), (V.int ((0 : Int) + ((i23 : Nat) : Int))), (V.int e75)])) np284
            have ow293 := ow238.frz (o := (.tup [(V.str t245.a), (V.str t264.a), (V.int ((0 : Int) + ((i23 : Nat) : Int))), (V.int e75)])) np284
            have ow294 := ow239.frz (o := (.tup [(V.str t245.a), (V.str t264.a), (V.int ((0 : Int) + ((i23 : Nat) : Int))), (V.int e75)])) np284
            have ow295 := ow240.frz (o := (.tup [(V.str t245.a), (V.str t264.a), (V.int ((0 : Int) + ((i23 : Nat) : Int))), (V.int e75)])) np284
            have ow296 := ow241.frz (o := (.tup [(V.str t245.a), (V.str t264.a), (V.int ((0 : Int) + ((i23 : Nat) : Int))), (V.int e75)])) np284
            have r297 : R K (upd F215 p283 (.tup [(V.str t245.a), (V.str t264.a), (V.int ((0 : Int) + ((i23 : Nat) : Int))), (V.int e75)])) (.ref p283) ((T4.mk t245.a t264.a ((0 : Int) + ((i23 : Nat) : Int)) e75) : (T4 Str Str Int Int)) := R.mk4 fzT (Rp.str t245.a gs263) (Rp.str t264.a gs282) (Rp.int ((0 : Int) + ((i23 : Nat) : Int))) (Rp.int e75)
            obtain rfl := sjoin hm111
            have hm74 := bret hm74
            obtain rfl := sjoin hm74
            have hm35 := bret hm35
            obtain rfl := sjoin hm35
            have hm := bret hm
            obtain rfl := sjoin hm
            exact (hQ _ _ _ g291 r297)
          · have hm111 := ifF hc hm111
            refine p_next ?_
            exact ⟨F215, (some (V.int ((0 : Int) + ((i100 : Nat) : Int)))), (some (V.ref D123)), rfl, g236, (Same.trans sm108 sm220), ow237, ow238, hm111⟩
        intro σ298 H299 hP
        obtain ⟨F300, o_y_k301, o_y_unlike302, rfl, g303, sm304, owk0305, owk1306, hm307⟩ := hP
        rw [drop_end (rangeL_len _ _).symm, m_l_clash_l3.eq_1] at hm307
        obtain rfl := sjoin hm307
        have hm74 := bgo0 hm74
        exact ⟨F300, (some (V.int e75)), (some (V.ref p83)), o_y_k301, o_y_unlike302, rfl, g303, (Same.trans sm72 (Same.trans g82.ff sm304)), owk0305, hm74⟩
      intro σ308 H309 hP
      obtain ⟨F310, o_y_mark_here311, o_y_some312, o_y_k313, o_y_unlike314, rfl, g315, sm316, owk0317, hm318⟩ := hP
      rw [drop_end (RL.len (hA55.up sm316)), m_l_clash_l2.eq_1] at hm318
      obtain rfl := sjoin hm318
      have hm35 := bgo0 hm35
      exact ⟨F310, (some (V.int ((0 : Int) + ((i23 : Nat) : Int)))), o_y_mark_here311, o_y_some312, o_y_k313, o_y_unlike314, rfl, g315, (Same.trans sm34 (Same.trans g42.ff sm316)), hm35⟩
    intro σ319 H320 hP
    obtain ⟨F321, o_y_gate322, o_y_mark_here323, o_y_some324, o_y_k325, o_y_unlike326, rfl, g327, sm328, hm329⟩ := hP
    rw [drop_end (rangeL_len _ _).symm, m_l_clash_l1.eq_1] at hm329
    obtain rfl := sjoin hm329
    have hm := bgo0 hm
    refine p_nx ?_
    refine p_ret ?_
    obtain rfl := sjoin hm
    exact (hQ _ _ _ g327 Rp.non)
end K13
namespace K13
open PySem PySem.Spec PyProof.Rows L2 TL G
theorem ok_l_quiet {P : Program} {w : World} {K : PySem.W.Frag} {mg : Str → Option Value} {base : Heap} (T : Txt K mg) : FnOk P w K mg base CX0 4 T.a_l_quiet T.d_l_quiet ["_law_rows_here", "_law_town_here"] (sp_l_quiet K) := by
  have G_l_clash : FnOk P w K mg base CX0 3 T.a_l_clash T.d_l_clash ["_law_plain_here", "_law_town_here"] (sp_l_clash K) := ok_l_clash T
  have b_l_clash := T.F_l_clash.bindsN (ps := ["_law_plain_here", "_law_town_here"]) fun _ _ _ _ _ _ us hl => match us, hl with | [_, _], _ => rfl
  have G_l_plain : FnOk P w K mg base CX0 2 T.a_l_plain T.d_l_plain ["_law_rows_here", "_law_bits"] (sp_l_plain K) := ok_l_plain T
  have b_l_plain := T.F_l_plain.bindsN (ps := ["_law_rows_here", "_law_bits"]) fun _ _ _ _ _ _ us hl => match us, hl with | [_, _], _ => rfl
  refine fd_ok T.F_l_quiet sc_l_quiet (fun vs H Q E h => ?_) (fun cdv A outer s H0 vs Q E hr h => ?_)
  · obtain ⟨_, _, _, _, _, _, _, rfl, _⟩ := h
    rfl
  · obtain ⟨F0, p_y_rows_here, ws_y_rows_here, y_rows_here, v_y_town_here, y_town_here, r, rfl, hS0, hS_y_rows_here, hl_y_rows_here, hA_y_rows_here, nm_y_rows_here, r_y_town_here, hm, hQ⟩ := h
    refine ⟨_, (pss_cons (ps_set (i := 2) sc_l_quiet.nd rfl (.inl rfl) (pe_lst pa_nil)) (pss_cons (ps_for PassesOwn.never rfl (pi_listK (K := K) (pv 0)) (pg_name (i := 3) sc_l_quiet.nd rfl (Or.inl rfl)) (pss_one (ps_if (pt_cmpR op_isO (pe_call G_l_clash (hr.mono (by decide)) (by rfl) T.g_l_clash T.F_l_clash.kp b_l_clash .nil pass0 (pa_cons (pe_call G_l_plain (hr.mono (by decide)) (by rfl) T.g_l_plain T.F_l_plain.kp b_l_plain .nil pass0 (pa_cons (pe_op (op_catLK (K := K)) (pv 2) (pe_lst (pa_cons (pv 3) pa_nil))) (pa_cons (pe_ix (ix_tupK (K := K)) (pv 1) pe_int (fun _ _ => rfl)) pa_nil))) (pa_cons (pv 1) pa_nil))) pe_non (nomark _)) (pss_one (ps_expr (pe_bmK (K := K) PySem.F.plainAttrs_list PySem.F.slot_list_append PySem.F.type_list_append mt_append (pv 2) (pa_cons (pv 3) pa_nil)))) pss_nil))) (pss_one (ps_ret (pv 2))))), ?_⟩
    have g0 : Gr M0 F0 H0 F0 H0 := Gr.refl hS0
    unfold m_l_quiet at hm
    refine p_seq ?_
    refine p_asg ?_
    refine ⟨(by show 0 ≤ sizeLine; decide), fun p1 np2 => ?_⟩
    have g3 := g0.own (o := (.lst [])) np2
    have ow4 : Ow H0 F0 (upd H0 p1 (.lst [])) p1 [] := Ow.new g0 np2
    have hA5 : RL K F0 [] ([] : List (T5 Str Int (VT Str) (Option (VT Int)) (Option (T4 Int (VT Int) (VT Int) (Option Int))))) := RpA.nil
    obtain ⟨y_found6, hb7, hm⟩ := bnd hm
    have hx8 : ([] : List (T5 Str Int (VT Str) (Option (VT Int)) (Option (T4 Int (VT Int) (VT Int) (Option Int))))) = y_found6 := sjoin hb7
    have hA9 : RL K F0 [] y_found6 := RL.re hx8 hA5
    refine p_name ?_
    refine p_nx ?_
    refine p_seq ?_
    refine p_for ?_
    refine ⟨(V.ref p_y_rows_here), rfl, p_y_rows_here, rfl, ⟨_, (g3.seq nm_y_rows_here hS_y_rows_here)⟩, ?_⟩
    obtain ⟨y_found10, ht11, hm⟩ := bnd hm
    refine for_list (K := K) (a := p_y_rows_here) (xs := ws_y_rows_here) (fun i σ' H' => ∃ (F' : Hp) (o_y_row : Option V) (y_found : (List (T5 Str Int (VT Str) (Option (VT Int)) (Option (T4 Int (VT Int) (VT Int) (Option Int)))))) (ws_y_found : List V), σ' = [(some (V.ref p_y_rows_here)), (some v_y_town_here), (some (V.ref p1)), o_y_row] ∧ Gr M0 F0 H0 F' H' ∧ Same F0 F' ∧ Ow H0 F' H' p1 ws_y_found ∧ ws_y_found.length ≤ sizeLine ∧ RL K F' ws_y_found y_found ∧ m_l_quiet_l1 y_town_here (y_rows_here.drop i) y_found = some y_found10) ?_ ?_ ?_ ?_
    · exact ⟨F0, none, y_found6, [], rfl, g3, (Same.refl _), ow4, (by show 0 ≤ sizeLine; decide), hA9, ht11⟩
    · intro i σ' H' _ hP
      obtain ⟨F', o_y_row, y_found, ws_y_found, rfl, g_, sm_, ow_y_found, hl_y_found, hA_y_found, hm_⟩ := hP
      exact (g_.seq nm_y_rows_here hS_y_rows_here)
    · intro i12 xv15 σ' H14 hx13 hP
      obtain ⟨F16, o_y_row17, y_found18, ws_y_found19, rfl, g20, sm21, ow_y_found22, hl_y_found23, hA_y_found24, hm25⟩ := hP
      obtain ⟨e26, he27, r28⟩ := RL.get (hA_y_rows_here.up sm21) hx13
      rw [drop_at he27, m_l_quiet_l1.eq_2] at hm25
      refine p_name ?_
      refine p_if ?_
      refine ⟨(V.ref p1), rfl, xv15, rfl, (by show 1 ≤ sizeLine; decide), fun p29 np30 => ?_⟩
      have ne31 := ow_y_found22.ne np30
      have g32 := g20.own (o := (.lst [xv15])) np30
      have ow33 := ow_y_found22.own (o := (.lst [xv15])) np30
      have ow34 : Ow H0 F16 (upd H14 p29 (.lst [xv15])) p29 [xv15] := Ow.new g20 np30
      have hA35 : RL K F16 [xv15] ([e26] : List (T5 Str Int (VT Str) (Option (VT Int)) (Option (T4 Int (VT Int) (VT Int) (Option Int))))) := (RpA.cons r28 RpA.nil)
      obtain ⟨t36, hb37, hm25⟩ := bnd hm25
      obtain ⟨hk38, rfl⟩ := conL_ok hb37
      have hz41 : (ws_y_found19 ++ [xv15]).length ≤ sizeLine := by rw [List.length_append, RL.len hA_y_found24, RL.len hA35]; exact hk38
      refine ⟨p1, p29, ws_y_found19, [xv15], rfl, rfl, ow33.sq, ow34.sq, (by rw [RL.len hA_y_found24, RL.len hA35]; exact hk38), fun p39 np40 => ?_⟩
      have hA42 := RL.app hA_y_found24 hA35
      have ne44 := ow33.ne np40
      have ne45 := ow34.ne np40
      have g46 := g32.own (o := (.lst (ws_y_found19 ++ [xv15]))) np40
      have ow47 := ow33.own (o := (.lst (ws_y_found19 ++ [xv15]))) np40
      have ow48 := ow34.own (o := (.lst (ws_y_found19 ++ [xv15]))) np40
      have ow49 : Ow H0 F16 (upd (upd H14 p29 (.lst [xv15])) p39 (.lst (ws_y_found19 ++ [xv15]))) p39 (ws_y_found19 ++ [xv15]) := Ow.new g32 np40
      obtain ⟨p50, v53, v54, v55, v56, ev51, hS52, r57, r58, r59, r60⟩ := R.p4_v r_y_town_here
      obtain rfl := R.int_v r57
      obtain rfl := R.int_v r58
      obtain ⟨r61, hb62, hm25⟩ := bnd hm25
      refine ⟨v_y_town_here, rfl, p50, _, _, (V.int y_town_here.a), ev51, rfl, (SqT_mono g46.fh (SqT_mono sm21 hS52)), rfl, F16, p39, (ws_y_found19 ++ [xv15]), (y_found18 ++ ([e26] : List (T5 Str Int (VT Str) (Option (VT Int)) (Option (T4 Int (VT Int) (VT Int) (Option Int)))))), y_town_here.a, r61, rfl, g46.fh, ow49.sq, hz41, hA42, id, hb62, fun p66 ws67 F63 H64 g65 np68 h69 nF70 hl71 hA72 => ?_⟩
      have ne73 := ow47.ne np68
      have ne74 := ow48.ne np68
      have ne75 := ow49.ne np68
      have n076 := g46.none0 np68
      have g77 := Gr.trans g46 g65
      have ow78 := ow47.gr0 g65
      have ow79 := ow48.gr0 g65
      have ow80 := ow49.gr0 g65
      have ow81 : Ow H0 F63 H64 p66 ws67 := ⟨h69, nF70, n076⟩
      obtain ⟨r82, hb83, hm25⟩ := bnd hm25
      refine ⟨v_y_town_here, rfl, F63, p66, ws67, r61, v_y_town_here, y_town_here, r82, rfl, g77.fh, ow81.sq, hl71, hA72, id, (r_y_town_here.up (Same.trans sm21 g65.ff)), hb83, fun v87 F84 H85 g86 r88 => ?_⟩
      have g89 := Gr.trans g77 g86
      have ow90 := ow78.gr0 g86
      have ow91 := ow79.gr0 g86
      have ow92 := ow80.gr0 g86
      have ow93 := ow81.gr0 g86
      refine ⟨_, rfl, (isN_eq r88), _, rfl, (iteB (fun hc => ?_) (fun hc => ?_))⟩
      · have hm25 := ifT hc hm25
        refine p_drop ?_
        obtain ⟨t94, hb95, hm25⟩ := bnd hm25
        obtain ⟨hk96, rfl⟩ := appL_ok hb95
        refine ⟨(V.ref p1), rfl, (.inl ⟨rfl, _, ow90.sq⟩), xv15, rfl, p1, ws_y_found19, xv15, rfl, rfl, ow90.h, (by rw [RL.len (hA_y_found24.up (Same.trans g65.ff g86.ff))]; exact hk96), ?_⟩
        have hA97 : RL K F84 (ws_y_found19 ++ [xv15]) (y_found18 ++ [(e26 : (T5 Str Int (VT Str) (Option (VT Int)) (Option (T4 Int (VT Int) (VT Int) (Option Int)))))]) := RL.snoc (hA_y_found24.up (Same.trans g65.ff g86.ff)) (r28.up (Same.trans g65.ff g86.ff))
        have hl98 : (ws_y_found19 ++ [xv15]).length ≤ sizeLine := by rw [List.length_append, RL.len (hA_y_found24.up (Same.trans g65.ff g86.ff))]; exact hk96
        have g99 := g89.put (o := (.lst (ws_y_found19 ++ [xv15]))) ow90
        have ow100 := ow91.other (o := (.lst (ws_y_found19 ++ [xv15]))) (Ne.symm ne31)
        have ow101 := ow92.other (o := (.lst (ws_y_found19 ++ [xv15]))) (Ne.symm ne44)
        have ow102 := ow93.other (o := (.lst (ws_y_found19 ++ [xv15]))) (Ne.symm ne73)
        have ow103 := ow90.put (us := (ws_y_found19 ++ [xv15]))
        exact ⟨F84, (some xv15), (y_found18 ++ [e26]), (ws_y_found19 ++ [xv15]), rfl, g99, (Same.trans sm21 (Same.trans g65.ff g86.ff)), ow103, hl98, hA97, hm25⟩
      · have hm25 := ifF hc hm25
        refine p_next ?_
        exact ⟨F84, (some xv15), y_found18, ws_y_found19, rfl, g89, (Same.trans sm21 (Same.trans g65.ff g86.ff)), ow90, hl_y_found23, (hA_y_found24.up (Same.trans g65.ff g86.ff)), hm25⟩
    intro σ104 H105 hP
    obtain ⟨F106, o_y_row107, y_found108, ws_y_found109, rfl, g110, sm111, ow_y_found112, hl_y_found113, hA_y_found114, hm115⟩ := hP
    rw [drop_end (RL.len (hA_y_rows_here.up sm111)), m_l_quiet_l1.eq_1] at hm115
    obtain rfl := sjoin hm115
    refine p_nx ?_
    refine p_ret ?_
    obtain rfl := sjoin hm
    refine ⟨(V.ref p1), rfl, (hQ _ _ _ _ g110 ow_y_found112.n0 ow_y_found112.h ow_y_found112.nF hl_y_found113 hA_y_found114)⟩
end K13
namespace K13
open PySem PySem.Spec PyProof.Rows L2 TL G
theorem ok_l_mark {P : Program} {w : World} {K : PySem.W.Frag} {mg : Str → Option Value} {base : Heap} (T : Txt K mg) : FnOk P w K mg base CX0 3 T.a_l_mark T.d_l_mark ["_law_bag_here", "_law_plain_here", "_law_bits"] (sp_l_mark K) := by
  have G_l_cuts : FnOk P w K mg base CX0 1 T.a_l_cuts T.d_l_cuts ["_law_plain_here", "_law_bits"] (sp_l_cuts K) := ok_l_cuts T
  have b_l_cuts := T.F_l_cuts.bindsN (ps := ["_law_plain_here", "_law_bits"]) fun _ _ _ _ _ _ us hl => match us, hl with | [_, _], _ => rfl
  have G_l_draw : FnOk P w K mg base CX0 2 T.a_l_draw T.d_l_draw ["_law_bag_here", "_law_many"] (sp_l_draw K) := ok_l_draw T
  have b_l_draw := T.F_l_draw.bindsN (ps := ["_law_bag_here", "_law_many"]) fun _ _ _ _ _ _ us hl => match us, hl with | [_, _], _ => rfl
  refine fd_ok T.F_l_mark sc_l_mark (fun vs H Q E h => ?_) (fun cdv A outer s H0 vs Q E hr h => ?_)
  · obtain ⟨_, _, _, _, _, _, _, _, _, _, rfl, _⟩ := h
    rfl
  · obtain ⟨F0, B, C, b, p_y_plain_here, ws_y_plain_here, y_plain_here, y_bits, r, b', rfl, hS0, hB, hS_y_plain_here, hl_y_plain_here, hA_y_plain_here, nm_y_plain_here, hm, hQ⟩ := h
    refine ⟨_, (pss_cons (ps_set (i := 3) sc_l_mark.nd rfl (.inl rfl) (pe_call G_l_cuts (hr.mono (by decide)) (by rfl) T.g_l_cuts T.F_l_cuts.kp b_l_cuts .nil pass0 (pa_cons (pv 1) (pa_cons (pv 2) pa_nil)))) (pss_cons (ps_set (i := 4) sc_l_mark.nd rfl (.inl rfl) (pe_lst (pa_cons (pe_ix (ix_listK (K := K)) (pv 3) (pe_call G_l_draw (hr.mono (by decide)) (by rfl) T.g_l_draw T.F_l_draw.kp b_l_draw .nil pass0 (pa_cons (pv 0) (pa_cons (pe_callB (call_lenLK (K := K)) (by rfl) T.n_len (by decide +kernel) (pa_cons (pv 3) pa_nil)) pa_nil))) (fun _ _ => rfl)) (pa_cons (pe_op op_sub (pe_ix (ix_listK (K := K)) (pv 3) (pe_call G_l_draw (hr.mono (by decide)) (by rfl) T.g_l_draw T.F_l_draw.kp b_l_draw .nil pass0 (pa_cons (pv 0) (pa_cons (pe_callB (call_lenLK (K := K)) (by rfl) T.n_len (by decide +kernel) (pa_cons (pv 3) pa_nil)) pa_nil))) (fun _ _ => rfl)) pe_int) (pa_cons (pe_call G_l_draw (hr.mono (by decide)) (by rfl) T.g_l_draw T.F_l_draw.kp b_l_draw .nil pass0 (pa_cons (pv 0) (pa_cons (pe_op op_shl pe_int (pv 2)) pa_nil))) pa_nil))))) (pss_one (ps_ret (pe_callB (call_max2 rfl) (by rfl) T.n_max (by decide +kernel) (pa_cons pe_int (pa_cons (pe_callB (call_min2 rfl) (by rfl) T.n_min (by decide +kernel) (pa_cons (pe_op op_sub (pe_op op_shl pe_int (pv 2)) pe_int) (pa_cons (pe_ix (ix_listK (K := K)) (pv 4) (pe_call G_l_draw (hr.mono (by decide)) (by rfl) T.g_l_draw T.F_l_draw.kp b_l_draw .nil pass0 (pa_cons (pv 0) (pa_cons pe_int pa_nil))) (fun _ _ => rfl)) pa_nil))) pa_nil))))))), ?_⟩
    have g0 : Gr (Bc B C) F0 H0 F0 H0 := Gr.refl hS0
    unfold m_l_mark at hm
    refine p_seq ?_
    refine p_asg ?_
    obtain ⟨r1, hb2, hm⟩ := bnd hm
    refine ⟨(V.ref p_y_plain_here), rfl, (V.int y_bits), rfl, F0, p_y_plain_here, ws_y_plain_here, y_plain_here, y_bits, r1, rfl, g0.fh, (nm_y_plain_here _ _ g0), hl_y_plain_here, hA_y_plain_here, id, hb2, fun p6 ws7 F3 H4 g5 np8 h9 nF10 hl11 hA12 => ?_⟩
    have nb13 := hB.nb np8
    have n014 := g0.none0 np8
    have g15 := Gr.trans g0 (Gr.of0 g5)
    have hB16 := hB.gr0 g5
    have ow17 : Ow H0 F3 H4 p6 ws7 := ⟨h9, nF10, n014⟩
    refine p_name ?_
    refine p_nx ?_
    refine p_seq ?_
    refine p_asg ?_
    obtain ⟨r18, b19, hb20, hm⟩ := bnd2 hm
    refine ⟨(V.ref p6), rfl, (V.ref B), rfl, (V.ref p6), rfl, p6, ws7, _, rfl, (.inl ow17.sq), (RL.len hA12), F3, B, C, b, (((r1).length : Nat) : Int), r18, b19, rfl, g15.fh, hB16, hb20, fun F21 H22 g23 hB24 => ?_⟩
    have g26 := Gr.trans g15 g23
    have ow27 := ow17.gr g23 nb13
    obtain ⟨t28, hb29, hm⟩ := bnd hm
    obtain ⟨v30, ha31, r32⟩ := RL.at (hA12.up g23.ff) hb29
    obtain rfl := R.int_v r32
    obtain ⟨r33, b34, hb35, hm⟩ := bnd2 hm
    refine ⟨p6, ws7, _, (V.int t28), rfl, rfl, ow27.sq, ha31, (V.ref p6), rfl, (V.ref B), rfl, (V.ref p6), rfl, p6, ws7, _, rfl, (.inl ow27.sq), (RL.len (hA12.up g23.ff)), F21, B, C, b19, (((r1).length : Nat) : Int), r33, b34, rfl, g26.fh, hB24, hb35, fun F36 H37 g38 hB39 => ?_⟩
    have g41 := Gr.trans g26 g38
    have ow42 := ow27.gr g38 nb13
    obtain ⟨t43, hb44, hm⟩ := bnd hm
    obtain ⟨v45, ha46, r47⟩ := RL.at (hA12.up (Same.trans g23.ff g38.ff)) hb44
    obtain rfl := R.int_v r47
    obtain ⟨t48, hb49, hm⟩ := bnd hm
    obtain ⟨hk50, rfl⟩ := shlI_ok hb49
    obtain ⟨r51, b52, hb53, hm⟩ := bnd2 hm
    refine ⟨p6, ws7, _, (V.int t43), rfl, rfl, ow42.sq, ha46, _, _, rfl, rfl, (V.ref B), rfl, (V.int y_bits), rfl, _, _, rfl, rfl, hk50, F36, B, C, b34, ((1 : Int) * 2 ^ (y_bits).toNat), r51, b52, rfl, g41.fh, hB39, hb53, fun F54 H55 g56 hB57 => ?_⟩
    have g59 := Gr.trans g41 g56
    have ow60 := ow42.gr g56 nb13
    refine ⟨(by show 3 ≤ sizeLine; decide), fun p61 np62 => ?_⟩
    have ne63 := ow60.ne np62
    have nb64 := hB57.nb np62
    have g65 := g59.own (o := (.lst [(V.int t28), (V.int (t43 - (1 : Int))), (V.int r51)])) np62
    have ow66 := ow60.own (o := (.lst [(V.int t28), (V.int (t43 - (1 : Int))), (V.int r51)])) np62
    have hB67 := hB57.own (o := (.lst [(V.int t28), (V.int (t43 - (1 : Int))), (V.int r51)])) np62
    have ow68 : Ow H0 F54 (upd H55 p61 (.lst [(V.int t28), (V.int (t43 - (1 : Int))), (V.int r51)])) p61 [(V.int t28), (V.int (t43 - (1 : Int))), (V.int r51)] := Ow.new g59 np62
    have hA69 : RL K F54 [(V.int t28), (V.int (t43 - (1 : Int))), (V.int r51)] ([t28, (t43 - (1 : Int)), r51] : List Int) := (RpA.cons (Rp.int t28) (RpA.cons (Rp.int (t43 - (1 : Int))) (RpA.cons (Rp.int r51) RpA.nil)))
    obtain ⟨y_some70, hb71, hm⟩ := bnd hm
    have hx72 : ([t28, (t43 - (1 : Int)), r51] : List Int) = y_some70 := sjoin hb71
    have hA73 : RL K F54 [(V.int t28), (V.int (t43 - (1 : Int))), (V.int r51)] y_some70 := RL.re hx72 hA69
    refine p_name ?_
    refine p_nx ?_
    refine p_ret ?_
    obtain ⟨t74, hb75, hm⟩ := bnd hm
    obtain ⟨hk76, rfl⟩ := shlI_ok hb75
    obtain ⟨r77, b78, hb79, hm⟩ := bnd2 hm
    refine ⟨(V.int y_bits), rfl, _, _, rfl, rfl, hk76, _, _, rfl, rfl, (V.ref p61), rfl, (V.ref B), rfl, F54, B, C, b52, (3 : Int), r77, b78, rfl, g65.fh, hB67, hb79, fun F80 H81 g82 hB83 => ?_⟩
    have g85 := Gr.trans g65 g82
    have ow86 := ow66.gr g82 nb13
    have ow87 := ow68.gr g82 nb64
    obtain ⟨t88, hb89, hm⟩ := bnd hm
    obtain ⟨v90, ha91, r92⟩ := RL.at (hA73.up g82.ff) hb89
    obtain rfl := R.int_v r92
    obtain ⟨rfl, rfl⟩ := pjoin hm
    refine ⟨p61, [(V.int t28), (V.int (t43 - (1 : Int))), (V.int r51)], _, (V.int t88), rfl, rfl, ow87.sq, ha91, _, _, rfl, _, _, rfl, (hQ _ _ g85 hB83)⟩
end K13
namespace K13
open PySem PySem.Spec PyProof.Rows L2 TL G
theorem ok_l_right {P : Program} {w : World} {K : PySem.W.Frag} {mg : Str → Option Value} {base : Heap} (T : Txt K mg) : GnOk P w K mg base CX0 10 T.a_l_right T.d_l_right ["_law_bag_here", "_law_town_here", "_law_rows_here", "_law_calm"] (sp_l_right K) := by
  have G_l_plain : FnOk P w K mg base CX0 2 T.a_l_plain T.d_l_plain ["_law_rows_here", "_law_bits"] (sp_l_plain K) := ok_l_plain T
  have b_l_plain := T.F_l_plain.bindsN (ps := ["_law_rows_here", "_law_bits"]) fun _ _ _ _ _ _ us hl => match us, hl with | [_, _], _ => rfl
  have G_l_draw : FnOk P w K mg base CX0 2 T.a_l_draw T.d_l_draw ["_law_bag_here", "_law_many"] (sp_l_draw K) := ok_l_draw T
  have b_l_draw := T.F_l_draw.bindsN (ps := ["_law_bag_here", "_law_many"]) fun _ _ _ _ _ _ us hl => match us, hl with | [_, _], _ => rfl
  have G_l_mark : FnOk P w K mg base CX0 3 T.a_l_mark T.d_l_mark ["_law_bag_here", "_law_plain_here", "_law_bits"] (sp_l_mark K) := ok_l_mark T
  have b_l_mark := T.F_l_mark.bindsN (ps := ["_law_bag_here", "_law_plain_here", "_law_bits"]) fun _ _ _ _ _ _ us hl => match us, hl with | [_, _, _], _ => rfl
  have G_l_top : FnOk P w K mg base CX0 2 T.a_l_top T.d_l_top ["_law_plain_here", "_law_gate", "_law_mark_here"] (sp_l_top K) := ok_l_top T
  have b_l_top := T.F_l_top.bindsN (ps := ["_law_plain_here", "_law_gate", "_law_mark_here"]) fun _ _ _ _ _ _ us hl => match us, hl with | [_, _, _], _ => rfl
  have G_held_by : FnOk P w K mg base CX0 5 T.a_held_by T.d_held_by ["wishes", "door", "address", "width"] (sp_held_by K) := ok_held_by T
  have G_l_alike : FnOk P w K mg base CX0 9 T.a_l_alike T.d_l_alike ["_law_found", "_law_due"] (sp_alike 8 K) := ok_l_alike T 9
  have b_l_alike := T.F_l_alike.bindsN (ps := ["_law_found", "_law_due"]) fun _ _ _ _ _ _ us hl => match us, hl with | [_, _], _ => rfl
  have G_wished : FnOk P w K mg base CX0 5 T.a_wished T.d_wished ["wishes", "door", "address", "width"] (sp_wished K) := ok_wished T
  refine fd_okG T.F_l_right sc_l_right (fun vs H Q E h => ?_) (fun cdv A outer s H0 vs Q E hr hgd h => ?_)
  · obtain ⟨_, _, _, _, _, _, _, _, _, _, _, _, rfl, _⟩ := h
    rfl
  · obtain ⟨F0, B, C, b, v_y_town_here, y_town_here, p_y_rows_here, ws_y_rows_here, y_rows_here, y_calm, r, b', rfl, hS0, hB, r_y_town_here, hS_y_rows_here, hl_y_rows_here, hA_y_rows_here, nm_y_rows_here, hm, hQ⟩ := h
    refine ⟨_, (pss_cons (ps_set (i := 4) sc_l_right.nd rfl (.inl rfl) (pe_ix (ix_tupK (K := K)) (pv 1) pe_int (fun _ _ => rfl))) (pss_cons (ps_set (i := 5) sc_l_right.nd rfl (.inl rfl) (pe_call G_l_plain (hr.mono (by decide)) (by rfl) T.g_l_plain T.F_l_plain.kp b_l_plain .nil pass0 (pa_cons (pv 2) (pa_cons (pv 4) pa_nil)))) (pss_cons (ps_set (i := 6) sc_l_right.nd rfl (.inl rfl) (pe_callB (call_reprOK (α := (List (T5 Str Int (VT Str) (Option (VT Int)) (Option (T4 Int (VT Int) (VT Int) (Option Int)))))) (K := K) hgd hr) (by rfl) T.n_repr (by decide +kernel) (pa_cons (pv 2) pa_nil))) (pss_cons (ps_for PassesOwn.never rfl (pi_range1 (by rfl) T.n_range (pa_cons pe_int pa_nil)) (pg_name (i := 7) sc_l_right.nd rfl (Or.inl rfl)) (pss_cons (ps_set (i := 8) sc_l_right.nd rfl (.inl rfl) (pe_call G_l_draw (hr.mono (by decide)) (by rfl) T.g_l_draw T.F_l_draw.kp b_l_draw .nil pass0 (pa_cons (pv 0) (pa_cons (pe_callB (call_lenLK (K := K)) (by rfl) T.n_len (by decide +kernel) (pa_cons (pe_ix (ix_tupK (K := K)) (pv 1) pe_int (fun _ _ => rfl)) pa_nil)) pa_nil)))) (pss_cons (ps_set (i := 9) sc_l_right.nd rfl (.inl rfl) (pe_call G_l_mark (hr.mono (by decide)) (by rfl) T.g_l_mark T.F_l_mark.kp b_l_mark .nil pass0 (pa_cons (pv 0) (pa_cons (pv 5) (pa_cons (pv 4) pa_nil))))) (pss_cons (ps_set (i := 10) sc_l_right.nd rfl (.inl rfl) (pe_call G_l_top (hr.mono (by decide)) (by rfl) T.g_l_top T.F_l_top.kp b_l_top .nil pass0 (pa_cons (pv 5) (pa_cons (pv 8) (pa_cons (pv 9) pa_nil))))) (pss_cons (ps_setLc (i := 11) (own := [("_law_row", 15)]) rfl sc_l_right.nd rfl rfl (sw_true rfl rfl rfl (by decide +kernel)) (pi_listK (K := K) (pv 10)) (blkOk_by (own := [("_law_row", 15)]) (N := N_l_right) (sc := defScope s_l_right) (by decide +kernel)) (fun _ _ _ _ _ => (pg_name (i := 15) sc_l_right.nd rfl (Or.inl rfl) (.inr rfl))) (fun _ _ _ _ _ => pts_nil) (fun _ _ _ _ _ => (pe_ix (ix_tupK (K := K)) (pv 15) pe_int (fun _ _ => rfl)))) (pss_cons (ps_set (i := 12) sc_l_right.nd rfl (.inl rfl) (pe_callK G_held_by (hr.mono (by decide)) (by rfl) T.g_held_by T.F_held_by.kp (kb_held_by_0 T.F_held_by) pass0 (pa_cons (pv 2) (pa_cons (pv 8) (pa_cons (pv 9) pa_nil))) (pk_cons (pv 4) pk_nil))) (pss_cons (ps_if (pt_not (pt_val (pe_call G_l_alike (hr.mono (by decide)) (by rfl) T.g_l_alike T.F_l_alike.kp b_l_alike .nil pass0 (pa_cons (pv 12) (pa_cons (pv 11) pa_nil))))) (pss_one (ps_ret pe_bl)) pss_nil) (pss_cons (ps_expr (pe_bmK (K := K) PySem.F.plainAttrs_list PySem.F.slot_list_append PySem.F.type_list_append mt_append (pv 12) (pa_cons pe_str pa_nil))) (pss_cons (ps_if (pt_cmpR (op_neDK (K := K) hr.units) (pe_callK0 G_held_by (hr.mono (by decide)) (by rfl) T.g_held_by T.F_held_by.kp (kb_held_by_1 T.F_held_by) pass0 (pk_cons (pv 4) (pk_cons (pv 9) (pk_cons (pv 8) (pk_cons (pv 2) pk_nil))))) (pv 11) (nomark _)) (pss_one (ps_ret pe_bl)) pss_nil) (pss_cons (ps_set (i := 13) sc_l_right.nd rfl (.inl rfl) (pe_ifExp (pt_cmpR (op_neDK (K := K) hr.units) (pv 10) (pe_lst pa_nil) (nomark _)) (pe_ix (ix_tupK (K := K)) (pe_ix (ix_listK (K := K)) (pv 10) pe_int (fun _ _ => rfl)) pe_int (fun _ _ => rfl)) pe_non)) (pss_cons (ps_set (i := 14) sc_l_right.nd rfl (.inl rfl) (pe_lst (pa_cons (pv 13) (pa_cons (pv 13) pa_nil)))) (pss_cut (ps_if (pt_val (pv 3)) (pss_cons (ps_asg (pe_callK G_wished (hr.mono (by decide)) (by rfl) T.g_wished T.F_wished.kp (kb_wished_2 T.F_wished) pass0 (pa_cons (pv 2) (pa_cons (pv 8) (pa_cons (pv 9) pa_nil))) (pk_cons (pv 4) pk_nil)) (pg_sub (pv 14) pe_int set_list)) (pss_one (ps_asg (pe_callK0 G_wished (hr.mono (by decide)) (by rfl) T.g_wished T.F_wished.kp (kb_wished_3 T.F_wished) pass0 (pk_cons (pv 8) (pk_cons (pv 4) (pk_cons (pv 2) (pk_cons (pv 9) pk_nil))))) (pg_sub (pv 14) pe_int set_list)))) pss_nil) (pss_one (ps_if (pt_not (pt_val (pe_call G_l_alike (hr.mono (by decide)) (by rfl) T.g_l_alike T.F_l_alike.kp b_l_alike .nil pass0 (pa_cons (pv 14) (pa_cons (pe_lst (pa_cons (pv 13) (pa_cons (pv 13) pa_nil))) pa_nil))))) (pss_one (ps_ret pe_bl)) pss_nil)))))))))))))) (pss_one (ps_ret (pe_cmpR op_eq (pe_callB (call_reprOK (α := (List (T5 Str Int (VT Str) (Option (VT Int)) (Option (T4 Int (VT Int) (VT Int) (Option Int)))))) (K := K) hgd hr) (by rfl) T.n_repr (by decide +kernel) (pa_cons (pv 2) pa_nil)) (pv 6) (nomark _)))))))), ?_⟩
    have g0 : Gr (Bc B C) F0 H0 F0 H0 := Gr.refl hS0
    unfold m_l_right at hm
    refine p_seq ?_
    refine p_asg ?_
    obtain ⟨p1, v4, v5, v6, v7, ev2, hS3, r8, r9, r10, r11⟩ := R.p4_v r_y_town_here
    obtain rfl := R.int_v r8
    obtain rfl := R.int_v r9
    refine ⟨v_y_town_here, rfl, p1, _, _, (V.int y_town_here.a), ev2, rfl, (SqT_mono g0.fh hS3), rfl, ?_⟩
    refine p_name ?_
    refine p_nx ?_
    refine p_seq ?_
    refine p_asg ?_
    obtain ⟨r12, hb13, hm⟩ := bnd hm
    refine ⟨(V.ref p_y_rows_here), rfl, (V.int y_town_here.a), rfl, F0, p_y_rows_here, ws_y_rows_here, y_rows_here, y_town_here.a, r12, rfl, g0.fh, (nm_y_rows_here _ _ g0), hl_y_rows_here, hA_y_rows_here, id, hb13, fun p17 ws18 F14 H15 g16 np19 h20 nF21 hl22 hA23 => ?_⟩
    have nb24 := hB.nb np19
    have n025 := g0.none0 np19
    have g26 := Gr.trans g0 (Gr.of0 g16)
    have hB27 := hB.gr0 g16
    have ow28 : Ow H0 F14 H15 p17 ws18 := ⟨h20, nF21, n025⟩
    refine p_name ?_
    refine p_nx ?_
    refine p_seq ?_
    refine p_asg ?_
    obtain ⟨t29, hb30, hm⟩ := bnd hm
    have rr31 : R K H15 (.ref p_y_rows_here) (y_rows_here : (List (T5 Str Int (VT Str) (Option (VT Int)) (Option (T4 Int (VT Int) (VT Int) (Option Int)))))) := (R.mkl (nm_y_rows_here _ _ g26) hl_y_rows_here (RpA.up (hA_y_rows_here.up g16.ff) g26.fh))
    refine ⟨(V.ref p_y_rows_here), rfl, p_y_rows_here, y_rows_here, t29, rfl, rr31, hb30, ?_⟩
    refine p_name ?_
    refine p_nx ?_
    refine p_seq ?_
    refine p_for ?_
    refine ⟨_, rfl, (by decide), (by decide), ?_⟩
    obtain ⟨l33, ht34, hm⟩ := bndL1 hm
    refine for_range (lo := (0 : Int)) (n := (12 : Nat)) (fun i σ' H' => ∃ (F' : Hp) (o_y_k : Option V) (o_y_gate : Option V) (o_y_mark_here : Option V) (o_y_top_here : Option V) (o_y_due : Option V) (o_y_found : Option V) (o_y_order_here : Option V) (o_y_told : Option V) (b : Bag), σ' = [(some (V.ref B)), (some v_y_town_here), (some (V.ref p_y_rows_here)), (some (V.bl y_calm)), (some (V.int y_town_here.a)), (some (V.ref p17)), (some (V.str t29)), o_y_k, o_y_gate, o_y_mark_here, o_y_top_here, o_y_due, o_y_found, o_y_order_here, o_y_told, none] ∧ Gr (Bc B C) F0 H0 F' H' ∧ Same F14 F' ∧ Ow H0 F' H' p17 ws18 ∧ BagAt F' H' B C b ∧ m_l_right_l1 y_town_here y_rows_here y_calm y_town_here.a r12 ((rangeL (0 : Int) 12).drop i) b = some l33) ?_ ?_ ?_
    · exact ⟨F14, none, none, none, none, none, none, none, none, b, rfl, g26, (Same.refl _), ow28, hB27, ht34⟩
    · intro i35 σ' H37 hx36 hP
      obtain ⟨F39, o_y_k40, o_y_gate41, o_y_mark_here42, o_y_top_here43, o_y_due44, o_y_found45, o_y_order_here46, o_y_told47, b48, rfl, g49, sm50, owk051, hB52, hm53⟩ := hP
      have he55 := rangeL_at (lo := (0 : Int)) hx36
      rw [drop_at he55, m_l_right_l1.eq_2] at hm53
      refine p_name ?_
      refine p_seq ?_
      refine p_asg ?_
      obtain ⟨p56, ws57, ev58, hS59, hl60, hA61⟩ := R.lst_v r11
      obtain ⟨r62, b63, hb64, hm53⟩ := bnd2 hm53
      refine ⟨(V.ref B), rfl, v_y_town_here, rfl, p1, _, _, v7, ev2, rfl, (SqT_mono g49.fh (SqT_mono (Same.trans g16.ff sm50) hS3)), rfl, p56, ws57, _, (by rw [ev58]), (.inl (Same.seq g49.fh (Same.seq (Same.trans g16.ff sm50) hS59))), (RL.len (hA61.up (Same.trans g16.ff sm50))), F39, B, C, b48, (((y_town_here.e).length : Nat) : Int), r62, b63, rfl, g49.fh, hB52, hb64, fun F65 H66 g67 hB68 => ?_⟩
      have g70 := Gr.trans g49 g67
      have ow71 := owk051.gr g67 nb24
      refine p_name ?_
      refine p_nx ?_
      refine p_seq ?_
      refine p_asg ?_
      obtain ⟨r72, b73, hb74, hm53⟩ := bnd2 hm53
      refine ⟨(V.ref B), rfl, (V.ref p17), rfl, (V.int y_town_here.a), rfl, F65, B, C, b63, p17, ws18, r12, y_town_here.a, r72, b73, rfl, g70.fh, hB68, ow71.sq, hl22, (hA23.up (Same.trans sm50 g67.ff)), (fun _ _ g_ => g_.seq nb24 ow71.sq), hb74, fun F75 H76 g77 hB78 => ?_⟩
      have g80 := Gr.trans g70 g77
      have ow81 := ow71.gr g77 nb24
      refine p_name ?_
      refine p_nx ?_
      refine p_seq ?_
      refine p_asg ?_
      obtain ⟨r82, hb83, hm53⟩ := bnd hm53
      refine ⟨(V.ref p17), rfl, (V.int r62), rfl, (V.int r72), rfl, F75, p17, ws18, r12, r62, r72, r82, rfl, g80.fh, ow81.sq, hl22, (hA23.up (Same.trans sm50 (Same.trans g67.ff g77.ff))), id, hb83, fun p87 ws88 F84 H85 g86 np89 h90 nF91 hl92 hA93 => ?_⟩
      have ne94 := ow81.ne np89
      have nb95 := hB78.nb np89
      have n096 := g80.none0 np89
      have g97 := Gr.trans g80 (Gr.of0 g86)
      have ow98 := ow81.gr0 g86
      have hB99 := hB78.gr0 g86
      have ow100 : Ow H0 F84 H85 p87 ws88 := ⟨h90, nF91, n096⟩
      refine p_name ?_
      refine p_nx ?_
      refine p_seq ?_
      refine p_asg ?_
      refine ⟨(V.ref p87), rfl, p87, rfl, ⟨_, ow100.sq⟩, fun D101 nD102 => ?_⟩
      have ne103 := ow98.ne nD102
      have ne104 := ow100.ne nD102
      have nb105 := hB99.nb nD102
      have g106 := g97.own (o := (.lst [])) nD102
      have ow107 := ow98.own (o := (.lst [])) nD102
      have ow108 := ow100.own (o := (.lst [])) nD102
      have hB109 := hB99.own (o := (.lst [])) nD102
      have ow110 : Ow H0 F84 (upd H85 D101 (.lst [])) D101 [] := Ow.new g97 nD102
      refine lc_list (K := K) (a := p87) (xs := ws88) (fun i H' => ∃ (F' : Hp) (acc : List V) (ds : List Str), Gr (Bc B C) F0 H0 F' H' ∧ Same F84 F' ∧ Ow H0 F' H' D101 acc ∧ RL K F' acc ds ∧ acc.length ≤ i ∧ Ow H0 F' H' p17 ws18 ∧ Ow H0 F' H' p87 ws88 ∧ BagAt F' H' B C b73 ∧ ds ++ m_l_right_c2  (r82.drop i) = (m_l_right_c2  r82)) ?_ ?_ ?_ ?_
      · exact ⟨F84, [], [], g106, Same.refl _, ow110, RpA.nil, Nat.le_refl _, ow107, ow108, hB109, rfl⟩
      · intro i H' _ hP
        obtain ⟨F112, acc113, ds114, g0115, sm116, owD117, hA118, hi119, ow0120, ow1121, hB122, hr123⟩ := hP
        exact ow1121.sq
      · intro i125 xv124 H127 hx126 hP
        obtain ⟨F128, acc129, ds130, g0131, sm132, owD133, hA134, hi135, ow0136, ow1137, hB138, hr139⟩ := hP
        obtain ⟨e140, he141, r142⟩ := RL.get (hA93.up sm132) hx126
        rw [drop_at he141, m_l_right_c2.eq_2] at hr139
        refine ⟨rfl, (p_yes ?_)⟩
        obtain ⟨p143, v146, v147, v148, v149, v150, ev144, hS145, r151, r152, r153, r154, r155⟩ := R.p5_v r142
        obtain ⟨rfl, gs156⟩ := R.str_v r151
        obtain rfl := R.int_v r152
        have hA157 : RL K F128 (acc129 ++ [(V.str e140.a)]) (ds130 ++ [(e140.a : Str)]) := RL.snoc hA134 (Rp.str e140.a gs156)
        refine ⟨xv124, rfl, p143, _, _, (V.str e140.a), ev144, rfl, (SqT_mono g0131.fh hS145), rfl, acc129, owD133.h, (lt_line hi135 (List.getElem?_eq_some_iff.mp hx126).1 hl92), ?_⟩
        have g158 := g0131.put (o := (.lst (acc129 ++ [(V.str e140.a)]))) owD133
        have ow159 := ow0136.other (o := (.lst (acc129 ++ [(V.str e140.a)]))) ne103
        have ow160 := ow1137.other (o := (.lst (acc129 ++ [(V.str e140.a)]))) ne104
        have hB161 := hB138.other (o := (.lst (acc129 ++ [(V.str e140.a)]))) nb105
        have ow162 := owD133.put (us := (acc129 ++ [(V.str e140.a)]))
        exact ⟨F128, (acc129 ++ [(V.str e140.a)]), (ds130 ++ [e140.a]), g158, sm132, ow162, hA157, (by rw [List.length_append]; exact Nat.succ_le_succ hi135), ow159, ow160, hB161, (snoc_rest hr139)⟩
      intro H163 hP
      obtain ⟨F164, acc165, ds166, g0168, sm169, owD170, hA171, hi172, ow0173, ow1174, hB175, hr176⟩ := hP
      rw [drop_end (RL.len hA93)] at hr176
      rw [m_l_right_c2.eq_1, List.append_nil] at hr176
      obtain rfl := hr176
      have hl177 : acc165.length ≤ sizeLine := Nat.le_trans hi172 hl92
      obtain ⟨y_due178, hb179, hm53⟩ := bnd hm53
      have hx180 : (m_l_right_c2  r82) = y_due178 := sjoin hb179
      have hA181 : RL K F164 acc165 y_due178 := RL.re hx180 hA171
      refine p_name ?_
      refine p_nx ?_
      refine p_seq ?_
      refine p_asg ?_
      obtain ⟨r182, hb183, hm53⟩ := bnd hm53
      refine ⟨(V.ref p_y_rows_here), rfl, (V.int r62), rfl, (V.int r72), rfl, (V.int y_town_here.a), rfl, F164, p_y_rows_here, ws_y_rows_here, y_rows_here, r62, r72, y_town_here.a, r182, rfl, g0168.fh, (nm_y_rows_here _ _ g0168), hl_y_rows_here, (hA_y_rows_here.up (Same.trans g16.ff (Same.trans sm50 (Same.trans g67.ff (Same.trans g77.ff (Same.trans g86.ff sm169)))))), id, hb183, fun p187 ws188 F184 H185 g186 np189 h190 nF191 hl192 hA193 => ?_⟩
      have ne194 := ow0173.ne np189
      have ne195 := ow1174.ne np189
      have ne196 := owD170.ne np189
      have nb197 := hB175.nb np189
      have n0198 := g0168.none0 np189
      have g199 := Gr.trans g0168 (Gr.of0 g186)
      have ow200 := ow0173.gr0 g186
      have ow201 := ow1174.gr0 g186
      have ow202 := owD170.gr0 g186
      have hB203 := hB175.gr0 g186
      have ow204 : Ow H0 F184 H185 p187 ws188 := ⟨h190, nF191, n0198⟩
      refine p_name ?_
      refine p_nx ?_
      refine p_seq ?_
      refine p_if ?_
      have rH205 : R K H185 (V.ref p187) r182 := (R.mkl ow204.sq hl192 (RpA.up hA193 g199.fh))
      have rH206 : R K H185 (V.ref D101) y_due178 := (R.mkl ow202.sq hl177 (RpA.up (hA181.up g186.ff) g199.fh))
      obtain ⟨r207, hb209, hm53⟩ := bnd hm53
      obtain ⟨hxy208, rfl⟩ := alike_ok hb209
      refine ⟨(V.ref p187), rfl, (V.ref D101), rfl, (V.ref p187), (V.ref D101), _, rfl, rH205, (R.of_eq hxy208 rH206), (Nat.le_trans (Dep.le (r182 : (List Str))) (by decide)), fun F210 H211 g212 => ?_⟩
      have g213 := Gr.apart g199 g212
      have ow214 := ow200.apart g212
      have ow215 := ow201.apart g212
      have ow216 := ow202.apart g212
      have ow217 := ow204.apart g212
      have hB218 := hB203.apart g212
      refine ⟨_, rfl, (iteB (fun hc => ?_) (fun hc => ?_))⟩
      · have hm53 := ifT hc hm53
        refine p_ret ?_
        obtain rfl := sjoin hm53
        have hm := bret hm
        obtain ⟨rfl, rfl⟩ := pjoin hm
        exact (hQ _ _ g213 hB218)
      · have hm53 := ifF hc hm53
        refine p_next ?_
        refine p_nx ?_
        refine p_seq ?_
        refine p_drop ?_
        obtain ⟨t219, hb220, hm53⟩ := bnd hm53
        obtain ⟨hk221, rfl⟩ := appL_ok hb220
        refine ⟨(V.ref p187), rfl, (.inl ⟨rfl, _, ow217.sq⟩), p187, ws188, (V.str ("z" : Str)), rfl, rfl, ow217.h, (by rw [RL.len hA193]; exact hk221), ?_⟩
        have hA222 : RL K F184 (ws188 ++ [(V.str ("z" : Str))]) (r182 ++ [(("z" : Str) : Str)]) := RL.snoc hA193 (Rp.str ("z" : Str) ⟨by decide +kernel, by decide +kernel⟩)
        have hl223 : (ws188 ++ [(V.str ("z" : Str))]).length ≤ sizeLine := by rw [List.length_append, RL.len hA193]; exact hk221
        have g224 := g213.put (o := (.lst (ws188 ++ [(V.str ("z" : Str))]))) ow217
        have ow225 := ow214.other (o := (.lst (ws188 ++ [(V.str ("z" : Str))]))) ne194
        have ow226 := ow215.other (o := (.lst (ws188 ++ [(V.str ("z" : Str))]))) ne195
        have ow227 := ow216.other (o := (.lst (ws188 ++ [(V.str ("z" : Str))]))) ne196
        have hB228 := hB218.other (o := (.lst (ws188 ++ [(V.str ("z" : Str))]))) nb197
        have ow229 := ow217.put (us := (ws188 ++ [(V.str ("z" : Str))]))
        refine p_nx ?_
        refine p_seq ?_
        refine p_if ?_
        obtain ⟨r230, hb231, hm53⟩ := bnd hm53
        refine ⟨(V.int y_town_here.a), rfl, (V.int r72), rfl, (V.int r62), rfl, (V.ref p_y_rows_here), rfl, F184, p_y_rows_here, ws_y_rows_here, y_rows_here, r62, r72, y_town_here.a, r230, rfl, g224.fh, (nm_y_rows_here _ _ g224), hl_y_rows_here, (hA_y_rows_here.up (Same.trans g16.ff (Same.trans sm50 (Same.trans g67.ff (Same.trans g77.ff (Same.trans g86.ff (Same.trans sm169 g186.ff))))))), id, hb231, fun p235 ws236 F232 H233 g234 np237 h238 nF239 hl240 hA241 => ?_⟩
        have ne242 := ow225.ne np237
        have ne243 := ow226.ne np237
        have ne244 := ow227.ne np237
        have ne245 := ow229.ne np237
        have nb246 := hB228.nb np237
        have n0247 := g224.none0 np237
        have g248 := Gr.trans g224 (Gr.of0 g234)
        have ow249 := ow225.gr0 g234
        have ow250 := ow226.gr0 g234
        have ow251 := ow227.gr0 g234
        have ow252 := ow229.gr0 g234
        have hB253 := hB228.gr0 g234
        have ow254 : Ow H0 F232 H233 p235 ws236 := ⟨h238, nF239, n0247⟩
        have rH255 : R K H233 (V.ref p235) r230 := (R.mkl ow254.sq hl240 (RpA.up hA241 g248.fh))
        have rH256 : R K H233 (V.ref D101) y_due178 := (R.mkl ow251.sq hl177 (RpA.up (hA181.up (Same.trans g186.ff g234.ff)) g248.fh))
        refine ⟨(V.ref D101), rfl, _, _, (Rp.dp _ _ rH255), (Rp.dp _ _ rH256), (R.shaped rH255), (R.shaped rH256), _, rfl, (iteB (fun hc => ?_) (fun hc => ?_))⟩
        · have hm53 := ifT hc hm53
          refine p_ret ?_
          obtain rfl := sjoin hm53
          have hm := bret hm
          obtain ⟨rfl, rfl⟩ := pjoin hm
          exact (hQ _ _ g248 hB253)
        · have hm53 := ifF hc hm53
          refine p_next ?_
          refine p_nx ?_
          refine p_seq ?_
          refine p_asg ?_
          refine ⟨(V.ref p87), rfl, (by show 0 ≤ sizeLine; decide), fun p257 np258 => ?_⟩
          have ne259 := ow249.ne np258
          have ne260 := ow250.ne np258
          have ne261 := ow251.ne np258
          have ne262 := ow252.ne np258
          have ne263 := ow254.ne np258
          have nb264 := hB253.nb np258
          have g265 := g248.own (o := (.lst [])) np258
          have ow266 := ow249.own (o := (.lst [])) np258
          have ow267 := ow250.own (o := (.lst [])) np258
          have ow268 := ow251.own (o := (.lst [])) np258
          have ow269 := ow252.own (o := (.lst [])) np258
          have ow270 := ow254.own (o := (.lst [])) np258
          have hB271 := hB253.own (o := (.lst [])) np258
          have ow272 : Ow H0 F232 (upd H233 p257 (.lst [])) p257 [] := Ow.new g248 np258
          have rH274 : R K (upd H233 p257 (.lst [])) (V.ref p87) r82 := (R.mkl ow267.sq hl92 (RpA.up (hA93.up (Same.trans sm169 (Same.trans g186.ff g234.ff))) g265.fh))
          have rH275 : R K (upd H233 p257 (.lst [])) (V.ref p257) ([] : (List (T5 Str Int (List (Int × Int)) (Option (VT Int)) (Option (T4 Int (VT Int) (VT Int) (Option Int)))))) := (R.mkl ow272.sq (by show 0 ≤ sizeLine; decide) (RpA.up RpA.nil g265.fh))
          refine ⟨_, _, (Rp.dp _ _ rH274), (Rp.dp _ _ rH275), (R.shaped rH274), (R.shaped rH275), _, rfl, ?_⟩
          obtain ⟨c276, hc278, hm53⟩ := bnd hm53
          refine ifJ (M := M0) (F := F232) (P := fun v' F' H' => R K F' v' (c276 : (Option (T4 Int (VT Int) (VT Int) (Option Int))))) (fun ha => ?_) (fun ha => ?_) ?_
          · intro Q279 q280
            have ha : (!eqD r82 ([] : (List (T5 Str Int (List (Int × Int)) (Option (VT Int)) (Option (T4 Int (VT Int) (VT Int) (Option Int))))))) = true := ha
            have hc278 := ifT ha hc278
            obtain ⟨t281, hb282, hc278⟩ := bnd hc278
            obtain ⟨v283, ha284, r285⟩ := RL.at (hA93.up (Same.trans sm169 (Same.trans g186.ff g234.ff))) hb282
            obtain ⟨p286, v289, v290, v291, v292, v293, ev287, hS288, r294, r295, r296, r297, r298⟩ := R.p5_v r285
            obtain ⟨rfl, gs299⟩ := R.str_v r294
            obtain rfl := R.int_v r295
            obtain rfl := sjoin hc278
            refine ⟨(V.ref p87), rfl, p87, ws88, _, v283, rfl, rfl, ow267.sq, ha284, p286, _, _, v293, ev287, rfl, (SqT_mono g265.fh hS288), rfl, (q280 _ _ _ (Gr.refl (M := M0) g265.fh) r298)⟩
          · intro Q300 q301
            have ha : (!eqD r82 ([] : (List (T5 Str Int (List (Int × Int)) (Option (VT Int)) (Option (T4 Int (VT Int) (VT Int) (Option Int))))))) = false := ha
            have hc278 := ifF ha hc278
            obtain rfl := sjoin hc278
            exact (q301 _ _ _ (Gr.refl (M := M0) g265.fh) Rp.non)
          intro v305 F302 H303 g304 hp306
          have g308 := Gr.trans g265 (Gr.of0 g304)
          have ow309 := ow266.gr0 g304
          have ow310 := ow267.gr0 g304
          have ow311 := ow268.gr0 g304
          have ow312 := ow269.gr0 g304
          have ow313 := ow270.gr0 g304
          have ow314 := ow272.gr0 g304
          have hB315 := hB271.gr0 g304
          refine p_name ?_
          refine p_nx ?_
          refine p_seq ?_
          refine p_asg ?_
          refine ⟨v305, rfl, v305, rfl, (by show 2 ≤ sizeLine; decide), fun p316 np317 => ?_⟩
          have ne318 := ow309.ne np317
          have ne319 := ow310.ne np317
          have ne320 := ow311.ne np317
          have ne321 := ow312.ne np317
          have ne322 := ow313.ne np317
          have ne323 := ow314.ne np317
          have nb324 := hB315.nb np317
          have g325 := g308.own (o := (.lst [v305, v305])) np317
          have ow326 := ow309.own (o := (.lst [v305, v305])) np317
          have ow327 := ow310.own (o := (.lst [v305, v305])) np317
          have ow328 := ow311.own (o := (.lst [v305, v305])) np317
          have ow329 := ow312.own (o := (.lst [v305, v305])) np317
          have ow330 := ow313.own (o := (.lst [v305, v305])) np317
          have ow331 := ow314.own (o := (.lst [v305, v305])) np317
          have hB332 := hB315.own (o := (.lst [v305, v305])) np317
          have ow333 : Ow H0 F302 (upd H303 p316 (.lst [v305, v305])) p316 [v305, v305] := Ow.new g308 np317
          have hA334 : RL K F302 [v305, v305] ([c276, c276] : List (Option (T4 Int (VT Int) (VT Int) (Option Int)))) := (RpA.cons hp306 (RpA.cons hp306 RpA.nil))
          obtain ⟨y_told335, hb336, hm53⟩ := bnd hm53
          have hx337 : ([c276, c276] : List (Option (T4 Int (VT Int) (VT Int) (Option Int)))) = y_told335 := sjoin hb336
          have hA338 : RL K F302 [v305, v305] y_told335 := RL.re hx337 hA334
          refine p_name ?_
          refine p_nx ?_
          obtain ⟨y_told339, hj340, hm53⟩ := bnd hm53
          refine ⟨fun σ' H' => ∃ (F' : Hp) (ws_y_told339 : List V), σ' = [(some (V.ref B)), (some v_y_town_here), (some (V.ref p_y_rows_here)), (some (V.bl y_calm)), (some (V.int y_town_here.a)), (some (V.ref p17)), (some (V.str t29)), (some (V.int ((0 : Int) + ((i35 : Nat) : Int)))), (some (V.int r62)), (some (V.int r72)), (some (V.ref p87)), (some (V.ref D101)), (some (V.ref p187)), (some v305), (some (V.ref p316)), none] ∧ Gr (Bc B C) F0 H0 F' H' ∧ Same F302 F' ∧ Ow H0 F' H' p316 ws_y_told339 ∧ ws_y_told339.length ≤ sizeLine ∧ RL K F' ws_y_told339 y_told339 ∧ Ow H0 F' H' p17 ws18 ∧ Ow H0 F' H' p87 ws88 ∧ Ow H0 F' H' D101 acc165 ∧ Ow H0 F' H' p187 (ws188 ++ [(V.str ("z" : Str))]) ∧ BagAt F' H' B C b73, ?_, ?_⟩
          · refine p_if ?_
            refine ⟨(V.bl y_calm), rfl, _, rfl, (iteB (fun hc => ?_) (fun hc => ?_))⟩
            · have hj340 := ifT hc hj340
              refine p_seq ?_
              refine p_asg ?_
              obtain ⟨r341, hb342, hj340⟩ := bnd hj340
              refine ⟨(V.ref p_y_rows_here), rfl, (V.int r62), rfl, (V.int r72), rfl, (V.int y_town_here.a), rfl, F302, p_y_rows_here, ws_y_rows_here, y_rows_here, r62, r72, y_town_here.a, r341, rfl, g325.fh, (nm_y_rows_here _ _ g325), hl_y_rows_here, (hA_y_rows_here.up (Same.trans g16.ff (Same.trans sm50 (Same.trans g67.ff (Same.trans g77.ff (Same.trans g86.ff (Same.trans sm169 (Same.trans g186.ff (Same.trans g234.ff g304.ff))))))))), id, hb342, fun v346 F343 H344 g345 r347 => ?_⟩
              have g348 := Gr.trans g325 (Gr.of0 g345)
              have ow349 := ow326.gr0 g345
              have ow350 := ow327.gr0 g345
              have ow351 := ow328.gr0 g345
              have ow352 := ow329.gr0 g345
              have ow353 := ow330.gr0 g345
              have ow354 := ow331.gr0 g345
              have ow355 := ow333.gr0 g345
              have hB356 := hB332.gr0 g345
              obtain ⟨t357, hb358, hj340⟩ := bnd hj340
              obtain ⟨j359, hj360, rfl⟩ := setL_ok hb358
              refine ⟨(V.ref p316), rfl, p316, _, _, j359, rfl, rfl, ow355.h, (by rw [RL.len (hA338.up g345.ff)]; exact hj360), ?_⟩
              have hA362 := RL.set (x := (r341 : (Option (T4 Int (VT Int) (VT Int) (Option Int))))) j359 r347 (hA338.up g345.ff)
              have g363 := g348.put (o := (.lst ([v305, v305].set j359 v346))) ow355
              have ow364 := ow349.other (o := (.lst ([v305, v305].set j359 v346))) ne318
              have ow365 := ow350.other (o := (.lst ([v305, v305].set j359 v346))) ne319
              have ow366 := ow351.other (o := (.lst ([v305, v305].set j359 v346))) ne320
              have ow367 := ow352.other (o := (.lst ([v305, v305].set j359 v346))) ne321
              have ow368 := ow353.other (o := (.lst ([v305, v305].set j359 v346))) ne322
              have ow369 := ow354.other (o := (.lst ([v305, v305].set j359 v346))) ne323
              have hB370 := hB356.other (o := (.lst ([v305, v305].set j359 v346))) nb324
              have ow371 := ow355.put (us := ([v305, v305].set j359 v346))
              refine p_nx ?_
              refine p_asg ?_
              obtain ⟨r372, hb373, hj340⟩ := bnd hj340
              refine ⟨(V.int r62), rfl, (V.int y_town_here.a), rfl, (V.ref p_y_rows_here), rfl, (V.int r72), rfl, F343, p_y_rows_here, ws_y_rows_here, y_rows_here, r62, r72, y_town_here.a, r372, rfl, g363.fh, (nm_y_rows_here _ _ g363), hl_y_rows_here, (hA_y_rows_here.up (Same.trans g16.ff (Same.trans sm50 (Same.trans g67.ff (Same.trans g77.ff (Same.trans g86.ff (Same.trans sm169 (Same.trans g186.ff (Same.trans g234.ff (Same.trans g304.ff g345.ff)))))))))), id, hb373, fun v377 F374 H375 g376 r378 => ?_⟩
              have g379 := Gr.trans g363 (Gr.of0 g376)
              have ow380 := ow364.gr0 g376
              have ow381 := ow365.gr0 g376
              have ow382 := ow366.gr0 g376
              have ow383 := ow367.gr0 g376
              have ow384 := ow368.gr0 g376
              have ow385 := ow369.gr0 g376
              have ow386 := ow371.gr0 g376
              have hB387 := hB370.gr0 g376
              obtain ⟨t388, hb389, hj340⟩ := bnd hj340
              obtain ⟨j390, hj391, rfl⟩ := setL_ok hb389
              refine ⟨(V.ref p316), rfl, p316, _, _, j390, rfl, rfl, ow386.h, (by rw [RL.len (hA362.up g376.ff)]; exact hj391), ?_⟩
              have hA393 := RL.set (x := (r372 : (Option (T4 Int (VT Int) (VT Int) (Option Int))))) j390 r378 (hA362.up g376.ff)
              have g394 := g379.put (o := (.lst (([v305, v305].set j359 v346).set j390 v377))) ow386
              have ow395 := ow380.other (o := (.lst (([v305, v305].set j359 v346).set j390 v377))) ne318
              have ow396 := ow381.other (o := (.lst (([v305, v305].set j359 v346).set j390 v377))) ne319
              have ow397 := ow382.other (o := (.lst (([v305, v305].set j359 v346).set j390 v377))) ne320
              have ow398 := ow383.other (o := (.lst (([v305, v305].set j359 v346).set j390 v377))) ne321
              have ow399 := ow384.other (o := (.lst (([v305, v305].set j359 v346).set j390 v377))) ne322
              have ow400 := ow385.other (o := (.lst (([v305, v305].set j359 v346).set j390 v377))) ne323
              have hB401 := hB387.other (o := (.lst (([v305, v305].set j359 v346).set j390 v377))) nb324
              have ow402 := ow386.put (us := (([v305, v305].set j359 v346).set j390 v377))
              obtain rfl := sjoin hj340
              exact ⟨F374, (([v305, v305].set j359 v346).set j390 v377), rfl, g394, (Same.trans g345.ff g376.ff), ow402, (by rw [List.length_set]; exact (by rw [List.length_set]; exact (by show 2 ≤ sizeLine; decide))), hA393, ow395, ow396, ow397, ow398, hB401⟩
            · have hj340 := ifF hc hj340
              refine p_next ?_
              obtain rfl := sjoin hj340
              exact ⟨F302, [v305, v305], rfl, g325, (Same.refl _), ow333, (by show 2 ≤ sizeLine; decide), hA338, ow326, ow327, ow328, ow329, hB332⟩
          intro σ403 H404 hMid
          obtain ⟨F405, ws_y_told339417, rfl, g406, sm407, ow_y_told339408, hl_y_told339409, hA_y_told339410, owk0411, owk1412, owk2413, owk3414, hB415⟩ := hMid
          refine p_if ?_
          refine ⟨(V.ref p316), rfl, v305, rfl, v305, rfl, (by show 2 ≤ sizeLine; decide), fun p418 np419 => ?_⟩
          have ne420 := owk0411.ne np419
          have ne421 := owk1412.ne np419
          have ne422 := owk2413.ne np419
          have ne423 := owk3414.ne np419
          have ne424 := ow_y_told339408.ne np419
          have nb425 := hB415.nb np419
          have g426 := g406.own (o := (.lst [v305, v305])) np419
          have ow427 := owk0411.own (o := (.lst [v305, v305])) np419
          have ow428 := owk1412.own (o := (.lst [v305, v305])) np419
          have ow429 := owk2413.own (o := (.lst [v305, v305])) np419
          have ow430 := owk3414.own (o := (.lst [v305, v305])) np419
          have ow431 := ow_y_told339408.own (o := (.lst [v305, v305])) np419
          have hB432 := hB415.own (o := (.lst [v305, v305])) np419
          have ow433 : Ow H0 F405 (upd H404 p418 (.lst [v305, v305])) p418 [v305, v305] := Ow.new g406 np419
          have hA434 : RL K F405 [v305, v305] ([c276, c276] : List (Option (T4 Int (VT Int) (VT Int) (Option Int)))) := (RpA.cons (hp306.up sm407) (RpA.cons (hp306.up sm407) RpA.nil))
          have rH435 : R K (upd H404 p418 (.lst [v305, v305])) (V.ref p316) y_told339 := (R.mkl ow431.sq hl_y_told339409 (RpA.up hA_y_told339410 g426.fh))
          have rH436 : R K (upd H404 p418 (.lst [v305, v305])) (V.ref p418) ([c276, c276] : List (Option (T4 Int (VT Int) (VT Int) (Option Int)))) := (R.mkl ow433.sq (by show 2 ≤ sizeLine; decide) (RpA.up hA434 g426.fh))
          obtain ⟨r437, hb439, hm53⟩ := bnd hm53
          obtain ⟨hxy438, rfl⟩ := alike_ok hb439
          refine ⟨(V.ref p316), (V.ref p418), _, rfl, rH435, (R.of_eq hxy438 rH436), (Nat.le_trans (Dep.le (y_told339 : (List (Option (T4 Int (VT Int) (VT Int) (Option Int)))))) (by decide)), fun F440 H441 g442 => ?_⟩
          have g443 := Gr.apart g426 g442
          have ow444 := ow427.apart g442
          have ow445 := ow428.apart g442
          have ow446 := ow429.apart g442
          have ow447 := ow430.apart g442
          have ow448 := ow431.apart g442
          have ow449 := ow433.apart g442
          have hB450 := hB432.apart g442
          refine ⟨_, rfl, (iteB (fun hc => ?_) (fun hc => ?_))⟩
          · have hm53 := ifT hc hm53
            refine p_ret ?_
            obtain rfl := sjoin hm53
            have hm := bret hm
            obtain ⟨rfl, rfl⟩ := pjoin hm
            exact (hQ _ _ g443 hB450)
          · have hm53 := ifF hc hm53
            refine p_next ?_
            exact ⟨F405, (some (V.int ((0 : Int) + ((i35 : Nat) : Int)))), (some (V.int r62)), (some (V.int r72)), (some (V.ref p87)), (some (V.ref D101)), (some (V.ref p187)), (some v305), (some (V.ref p316)), b73, rfl, g443, (Same.trans sm50 (Same.trans g67.ff (Same.trans g77.ff (Same.trans g86.ff (Same.trans sm169 (Same.trans g186.ff (Same.trans g234.ff (Same.trans g304.ff sm407)))))))), ow444, hB450, hm53⟩
    intro σ451 H452 hP
    obtain ⟨F453, o_y_k454, o_y_gate455, o_y_mark_here456, o_y_top_here457, o_y_due458, o_y_found459, o_y_order_here460, o_y_told461, b462, rfl, g463, sm464, owk0465, hB466, hm467⟩ := hP
    rw [drop_end (rangeL_len _ _).symm, m_l_right_l1.eq_1] at hm467
    obtain rfl := sjoin hm467
    have hm := bgo1 hm
    refine p_nx ?_
    refine p_ret ?_
    obtain ⟨t468, hb469, hm⟩ := bnd hm
    have rr470 : R K H452 (.ref p_y_rows_here) (y_rows_here : (List (T5 Str Int (VT Str) (Option (VT Int)) (Option (T4 Int (VT Int) (VT Int) (Option Int)))))) := (R.mkl (nm_y_rows_here _ _ g463) hl_y_rows_here (RpA.up (hA_y_rows_here.up (Same.trans g16.ff sm464)) g463.fh))
    obtain ⟨rfl, rfl⟩ := pjoin hm
    refine ⟨(V.ref p_y_rows_here), rfl, p_y_rows_here, y_rows_here, t468, rfl, rr470, hb469, (V.str t29), rfl, rfl, (hQ _ _ g463 hB466)⟩
end K13
namespace K13
open PySem PySem.Spec PyProof.Rows L2 TL G
theorem ok_law {P : Program} {w : World} {K : PySem.W.Frag} {mg : Str → Option Value} {base : Heap} (T : Txt K mg) (hlaw : ∀ b : Bag, BOk b → ∀ n_ : Nat, n_ ≤ 63 → ∃ b', m_law b n_ = some (true, b')) : GnOk P w K mg base CX0 11 T.a_law T.d_law ["_law_script"] (sp_law K) := by
  have G_l_bag : FnOk P w K mg base CX0 1 T.a_l_bag T.d_l_bag ["_law_script"] (sp_l_bag K) := ok_l_bag T
  have b_l_bag := T.F_l_bag.bindsN (ps := ["_law_script"]) fun _ _ _ _ _ _ us hl => match us, hl with | [_], _ => rfl
  have G_l_town : FnOk P w K mg base CX0 3 T.a_l_town T.d_l_town ["_law_bag_here"] (sp_l_town K) := ok_l_town T
  have b_l_town := T.F_l_town.bindsN (ps := ["_law_bag_here"]) fun _ _ _ _ _ _ us hl => match us, hl with | [_], _ => rfl
  have G_l_rows : FnOk P w K mg base CX0 5 T.a_l_rows T.d_l_rows ["_law_bag_here", "_law_town_here", "_law_most"] (sp_l_rows K) := ok_l_rows T
  have b_l_rows := T.F_l_rows.bindsN (ps := ["_law_bag_here", "_law_town_here", "_law_most"]) fun _ _ _ _ _ _ us hl => match us, hl with | [_, _, _], _ => rfl
  have G_l_right : GnOk P w K mg base CX0 10 T.a_l_right T.d_l_right ["_law_bag_here", "_law_town_here", "_law_rows_here", "_law_calm"] (sp_l_right K) := ok_l_right T
  have b_l_right := T.F_l_right.bindsN (ps := ["_law_bag_here", "_law_town_here", "_law_rows_here", "_law_calm"]) fun _ _ _ _ _ _ us hl => match us, hl with | [_, _, _, _], _ => rfl
  have G_l_quiet : FnOk P w K mg base CX0 4 T.a_l_quiet T.d_l_quiet ["_law_rows_here", "_law_town_here"] (sp_l_quiet K) := ok_l_quiet T
  have b_l_quiet := T.F_l_quiet.bindsN (ps := ["_law_rows_here", "_law_town_here"]) fun _ _ _ _ _ _ us hl => match us, hl with | [_, _], _ => rfl
  refine fd_okG T.F_law sc_law (fun vs H Q E h => ?_) (fun cdv A outer s H0 vs Q E hr hgd h => ?_)
  · obtain ⟨_, _, rfl, _⟩ := h
    rfl
  · obtain ⟨a_, ns_, rfl, hS_, hl_, hQ_⟩ := h
    refine ⟨_, (pss_cons (ps_set (i := 1) sc_law.nd rfl (.inl rfl) (pe_call G_l_bag (hr.mono (by decide)) (by rfl) T.g_l_bag T.F_l_bag.kp b_l_bag .nil pass0 (pa_cons (pv 0) pa_nil))) (pss_cons (ps_for PassesOwn.never rfl (pi_range1 (by rfl) T.n_range (pa_cons (pe_op op_add pe_int (pe_callB (call_min2 rfl) (by rfl) T.n_min (by decide +kernel) (pa_cons pe_int (pa_cons (pe_callB (call_lenLK (K := K)) (by rfl) T.n_len (by decide +kernel) (pa_cons (pv 0) pa_nil)) pa_nil)))) pa_nil)) (pg_name (i := 2) sc_law.nd rfl (Or.inl rfl)) (pss_cons (ps_set (i := 3) sc_law.nd rfl (.inl rfl) (pe_call G_l_town (hr.mono (by decide)) (by rfl) T.g_l_town T.F_l_town.kp b_l_town .nil pass0 (pa_cons (pv 1) pa_nil))) (pss_cons (ps_set (i := 4) sc_law.nd rfl (.inl rfl) (pe_call G_l_rows (hr.mono (by decide)) (by rfl) T.g_l_rows T.F_l_rows.kp b_l_rows .nil pass0 (pa_cons (pv 1) (pa_cons (pv 3) (pa_cons (pe_ix (ix_listK (K := K)) (pe_lst (pa_cons pe_int (pa_cons pe_int pa_nil))) (pe_callTy call_toI (by rfl) T.n_int (by decide +kernel) (pa_cons (pe_cmpR op_eq (pv 2) pe_int (nomark _)) pa_nil)) (fun _ _ => rfl)) pa_nil))))) (pss_cons (ps_if (pt_not (pt_val (pe_callG G_l_right hgd (hr.mono (by decide)) (by rfl) T.g_l_right T.F_l_right.kp b_l_right .nil pass0 (pa_cons (pv 1) (pa_cons (pv 3) (pa_cons (pv 4) (pa_cons pe_bl pa_nil))))))) (pss_one (ps_ret pe_bl)) pss_nil) (pss_one (ps_if (pt_not (pt_val (pe_callG G_l_right hgd (hr.mono (by decide)) (by rfl) T.g_l_right T.F_l_right.kp b_l_right .nil pass0 (pa_cons (pv 1) (pa_cons (pv 3) (pa_cons (pe_call G_l_quiet (hr.mono (by decide)) (by rfl) T.g_l_quiet T.F_l_quiet.kp b_l_quiet .nil pass0 (pa_cons (pv 4) (pa_cons (pv 3) pa_nil))) (pa_cons pe_bl pa_nil))))))) (pss_one (ps_ret pe_bl)) pss_nil)))))) (pss_one (ps_ret pe_bl)))), ?_⟩
    refine p_seq ?_
    refine p_asg ?_
    refine ⟨_, rfl, a_, ns_, rfl, hS_, hl_, fun B C b F0 H0 hS0 hB hb_ hScr_ hNm_ => ?_⟩
    refine p_name ?_
    refine p_nx ?_
    obtain ⟨b_, hm⟩ := hlaw b hb_ ns_.length hl_
    have hQ : ∀ F' H', Gr (Bc B C) F0 H0 F' H' → BagAt F' H' B C b_ → Q (.bl true) H' := fun _ H' _ _ => hQ_ H'
    have g0 : Gr (Bc B C) F0 H0 F0 H0 := Gr.refl hS0
    unfold m_law at hm
    refine p_seq ?_
    refine p_for ?_
    obtain ⟨l1, hb3, hm⟩ := bnd hm
    obtain ⟨hk2, rfl⟩ := rangeO1_ok hb3
    refine ⟨(V.ref a_), rfl, a_, (ns_.map V.int), _, rfl, (.inl (scr_stays hS_ hNm_ hScr_ g0)), (by rw [List.length_map]), _, _, rfl, _, _, rfl, rfl, _, rfl, hk2.1.1, hk2.1.2, ?_⟩
    obtain ⟨l5, ht6, hm⟩ := bndL1 hm
    refine for_range (lo := (0 : Int)) (n := (((4 : Int) + (if ((ns_.length : Nat) : Int) < (6 : Int) then ((ns_.length : Nat) : Int) else (6 : Int)))).toNat) (fun i σ' H' => ∃ (F' : Hp) (o_y_turn : Option V) (o_y_town_here : Option V) (o_y_rows_here : Option V) (b : Bag), σ' = [(some (V.ref a_)), (some (V.ref B)), o_y_turn, o_y_town_here, o_y_rows_here] ∧ Gr (Bc B C) F0 H0 F' H' ∧ Same F0 F' ∧ BagAt F' H' B C b ∧ m_law_l1  ((rangeL (0 : Int) (((4 : Int) + (if ((ns_.length : Nat) : Int) < (6 : Int) then ((ns_.length : Nat) : Int) else (6 : Int)))).toNat).drop i) b = some l5) ?_ ?_ ?_
    · exact ⟨F0, none, none, none, b, rfl, g0, (Same.refl _), hB, ht6⟩
    · intro i7 σ' H9 hx8 hP
      obtain ⟨F11, o_y_turn12, o_y_town_here13, o_y_rows_here14, b15, rfl, g16, sm17, hB18, hm19⟩ := hP
      have he21 := rangeL_at (lo := (0 : Int)) hx8
      rw [drop_at he21, m_law_l1.eq_2] at hm19
      refine p_name ?_
      refine p_seq ?_
      refine p_asg ?_
      obtain ⟨r22, b23, hb24, hm19⟩ := bnd2 hm19
      refine ⟨(V.ref B), rfl, F11, B, C, b15, r22, b23, rfl, g16.fh, hB18, hb24, fun v29 F25 H26 g27 hB28 r30 => ?_⟩
      have g31 := Gr.trans g16 g27
      refine p_name ?_
      refine p_nx ?_
      refine p_seq ?_
      refine p_asg ?_
      refine ⟨(V.ref B), rfl, v29, rfl, (by show 2 ≤ sizeLine; decide), fun p32 np33 => ?_⟩
      have nb34 := hB28.nb np33
      have g35 := g31.own (o := (.lst [(V.int (6 : Int)), (V.int (16 : Int))])) np33
      have hB36 := hB28.own (o := (.lst [(V.int (6 : Int)), (V.int (16 : Int))])) np33
      have ow37 : Ow H0 F25 (upd H26 p32 (.lst [(V.int (6 : Int)), (V.int (16 : Int))])) p32 [(V.int (6 : Int)), (V.int (16 : Int))] := Ow.new g31 np33
      have hA38 : RL K F25 [(V.int (6 : Int)), (V.int (16 : Int))] ([(6 : Int), (16 : Int)] : List Int) := (RpA.cons (Rp.int (6 : Int)) (RpA.cons (Rp.int (16 : Int)) RpA.nil))
      obtain ⟨t39, hb40, hm19⟩ := bnd hm19
      obtain ⟨v41, ha42, r43⟩ := RL.at hA38 hb40
      obtain rfl := R.int_v r43
      obtain ⟨r44, b45, hb46, hm19⟩ := bnd2 hm19
      refine ⟨(V.int ((0 : Int) + ((i7 : Nat) : Int))), rfl, rfl, _, rfl, p32, [(V.int (6 : Int)), (V.int (16 : Int))], _, (V.int t39), rfl, rfl, ow37.sq, ha42, F25, B, C, b23, v29, r22, t39, r44, b45, rfl, g35.fh, hB36, r30, hb46, fun p51 ws52 F47 H48 g49 hB50 np53 h54 nF55 hl56 hA57 => ?_⟩
      have ne58 := ow37.ne np53
      have nb59 := hB36.nb np53
      have n060 := g35.none0 np53
      have g61 := Gr.trans g35 g49
      have ow62 := ow37.gr g49 nb34
      have ow63 : Ow H0 F47 H48 p51 ws52 := ⟨h54, nF55, n060⟩
      refine p_name ?_
      refine p_nx ?_
      refine p_seq ?_
      refine p_if ?_
      obtain ⟨r64, b65, hb66, hm19⟩ := bnd2 hm19
      refine ⟨(V.ref B), rfl, v29, rfl, (V.ref p51), rfl, F47, B, C, b45, v29, r22, p51, ws52, r44, false, r64, b65, rfl, g61.fh, hB50, (r30.up g49.ff), ow63.sq, hl56, hA57, (fun _ _ g_ => g_.seq nb59 ow63.sq), hb66, fun F67 H68 g69 hB70 => ?_⟩
      have g72 := Gr.trans g61 g69
      have ow73 := ow62.gr g69 nb34
      have ow74 := ow63.gr g69 nb59
      refine ⟨_, rfl, (iteB (fun hc => ?_) (fun hc => ?_))⟩
      · have hm19 := ifT hc hm19
        refine p_ret ?_
        obtain rfl := sjoin hm19
        have hm := bret hm
        obtain ⟨he75, rfl⟩ := pjoin hm
        exact absurd he75 (by decide)
      · have hm19 := ifF hc hm19
        refine p_next ?_
        refine p_nx ?_
        refine p_if ?_
        obtain ⟨r76, hb77, hm19⟩ := bnd hm19
        refine ⟨(V.ref B), rfl, v29, rfl, (V.ref p51), rfl, v29, rfl, F67, p51, ws52, r44, v29, r22, r76, rfl, g72.fh, ow74.sq, hl56, (hA57.up g69.ff), id, (r30.up (Same.trans g49.ff g69.ff)), hb77, fun p81 ws82 F78 H79 g80 np83 h84 nF85 hl86 hA87 => ?_⟩
        have ne88 := ow73.ne np83
        have ne89 := ow74.ne np83
        have nb90 := hB70.nb np83
        have n091 := g72.none0 np83
        have g92 := Gr.trans g72 (Gr.of0 g80)
        have ow93 := ow73.gr0 g80
        have ow94 := ow74.gr0 g80
        have hB95 := hB70.gr0 g80
        have ow96 : Ow H0 F78 H79 p81 ws82 := ⟨h84, nF85, n091⟩
        obtain ⟨r97, b98, hb99, hm19⟩ := bnd2 hm19
        refine ⟨F78, B, C, b65, v29, r22, p81, ws82, r76, true, r97, b98, rfl, g92.fh, hB95, (r30.up (Same.trans g49.ff (Same.trans g69.ff g80.ff))), ow96.sq, hl86, hA87, (fun _ _ g_ => g_.seq nb90 ow96.sq), hb99, fun F100 H101 g102 hB103 => ?_⟩
        have g105 := Gr.trans g92 g102
        have ow106 := ow93.gr g102 nb34
        have ow107 := ow94.gr g102 nb59
        have ow108 := ow96.gr g102 nb90
        refine ⟨_, rfl, (iteB (fun hc => ?_) (fun hc => ?_))⟩
        · have hm19 := ifT hc hm19
          refine p_ret ?_
          obtain rfl := sjoin hm19
          have hm := bret hm
          obtain ⟨he109, rfl⟩ := pjoin hm
          exact absurd he109 (by decide)
        · have hm19 := ifF hc hm19
          refine p_next ?_
          exact ⟨F100, (some (V.int ((0 : Int) + ((i7 : Nat) : Int)))), (some v29), (some (V.ref p51)), b98, rfl, g105, (Same.trans sm17 (Same.trans g27.ff (Same.trans g49.ff (Same.trans g69.ff (Same.trans g80.ff g102.ff))))), hB103, hm19⟩
    intro σ110 H111 hP
    obtain ⟨F112, o_y_turn113, o_y_town_here114, o_y_rows_here115, b116, rfl, g117, sm118, hB119, hm120⟩ := hP
    rw [drop_end (rangeL_len _ _).symm, m_law_l1.eq_1] at hm120
    obtain rfl := sjoin hm120
    have hm := bgo1 hm
    refine p_nx ?_
    refine p_ret ?_
    obtain ⟨he121, rfl⟩ := pjoin hm
    exact (retQ (e := true) he121 (hQ _ _ g117 hB119))
end K13
namespace K13
open PySem PySem.Spec PyProof.Rows L2 TL G
theorem bits_log {n : Int} (h0 : 0 < n) (h1 : n < 18446744073709551616) : Builtin.Int.intBits n < 9000 := by
  have h2 : n.natAbs < 2 ^ 64 := by omega
  have h3 : n.natAbs ≠ 0 := by omega
  have h4 := (Nat.log2_lt h3).mpr h2
  unfold Builtin.Int.intBits
  first | (split <;> omega) | omega | (simp; omega)
theorem stir_in {z c : Int} (h0 : 0 ≤ z) (h1 : z < 2147483648) : ∀ n, 0 ≤ (stirN z c n).1 ∧ (stirN z c n).1 < 2147483648
  | 0 => ⟨h0, h1⟩
  | n + 1 => ⟨Int.emod_nonneg _ (by decide), Int.lt_trans (Int.emod_lt_of_pos _ (by decide)) (by decide)⟩
theorem stirred_O {b : Bag} {n : Int} (hb : BOk b) (h0 : 0 < n) (h1 : n < 18446744073709551616) : O2 BOk (m_l_stirred b n) (fun r => 0 ≤ r ∧ r < n) := by
  unfold m_l_stirred
  rw [if_pos ⟨⟨h0, bits_log h0 h1⟩, hb.lo, hb.hi⟩]
  have hs := stir_in (c := b.cnt) hb.lo hb.hi (1 + Builtin.Int.intBits n / 27)
  exact O2.ret ⟨hs.1, hs.2, hb.len⟩ ⟨Int.emod_nonneg _ (by omega), Int.emod_lt_of_pos _ h0⟩
theorem draw_O {b : Bag} {n : Int} (hb : BOk b) (h0 : 0 < n) (h1 : n < 18446744073709551616) : O2 BOk (m_l_draw b n) (fun r => 0 ≤ r ∧ r < n) := by
  have hlog : n.natAbs.log2 < 9000 := by
    have hn : n.natAbs < 2 ^ 64 := by omega
    have hz : n.natAbs ≠ 0 := by omega
    have := (Nat.log2_lt hz).mpr hn
    omega
  have h63 := hb.len
  have hm : 0 ≤ b.left % n ∧ b.left % n < n := ⟨Int.emod_nonneg _ (by omega), Int.emod_lt_of_pos _ h0⟩
  unfold m_l_draw
  rw [if_pos ⟨⟨h0, hlog⟩, by rw [sizeLine_eq]; omega⟩]
  by_cases hz : b.left = 0
  · rw [if_pos hz]
    cases e : b.cells[b.at_]? with
    | some x => exact O2.ret ⟨hb.lo, hb.hi, hb.len⟩ ⟨Int.emod_nonneg _ (by omega), Int.emod_lt_of_pos _ h0⟩
    | none => exact stirred_O hb h0 h1
  · rw [if_neg hz]
    exact O2.ret ⟨hb.lo, hb.hi, hb.len⟩ hm
/-! ### nets, orders, wishes, drawn -/
abbrev Town := T4 Int Int (List (Int × Int)) (List Int)
abbrev Ordr := T4 Int (VT Int) (VT Int) (Option Int)
abbrev Wish := T5 Str Int (VT Str) (Option (VT Int)) (Option Ordr)
structure MTown (w : Nat) (t : Town) : Prop where
  a : t.a = (w : Nat)
  w1 : 1 ≤ w
  w2 : w ≤ 30
  b1 : 1 ≤ t.b
  b2 : t.b ≤ 12
  c1 : t.c.length ≤ 12
  c2 : ∀ p ∈ t.c, 0 ≤ p.1 ∧ p.1 ≤ 20 ∧ 0 ≤ p.2 ∧ p.2 ≤ 20
  e1 : 1 ≤ t.e.length
  e2 : t.e.length ≤ 8
  e3 : ∀ k ∈ t.e, 0 ≤ k ∧ k < t.b
def Small (n : Nat) (xs : List Int) : Prop := xs.length ≤ n ∧ ∀ x ∈ xs, 0 ≤ x ∧ x ≤ 1000000000
structure OrdOk (o : Ordr) : Prop where
  a0 : 0 ≤ o.a
  a1 : o.a ≤ 8
  b : Small 8 o.b.l
  c : Small 8 o.c.l
  e : ∀ m, o.e = some m → 0 ≤ m ∧ m ≤ 1000000000
theorem draws_c {b : Bag} {n : Int} (f : List Int → Bag → Option (List Int × Bag)) (f0 : ∀ b, f [] b = some ([], b)) (f1 : ∀ x l b, f (x :: l) b = bind2 (m_l_draw b n) fun r b => bind2 (f l b) fun rest b => some (r :: rest, b)) (h0 : 0 < n) (h1 : n < 1000000000) :
    ∀ (l : List Int) (b : Bag), BOk b → O2 BOk (f l b) (fun r => r.length = l.length ∧ ∀ k ∈ r, 0 ≤ k ∧ k < n)
  | [], b, hb => by rw [f0]; exact O2.ret hb ⟨rfl, fun _ h => nomatch h⟩
  | x :: l, b, hb => by
    rw [f1]
    refine O2.bind (draw_O hb h0 (by omega)) fun r b hb hr => ?_
    refine O2.bind (draws_c (b := b) f f0 f1 h0 h1 l b hb) fun ys b hb hy => ?_
    refine O2.ret hb ⟨congrArg Nat.succ hy.1, fun k hk => ?_⟩
    rcases List.mem_cons.mp hk with rfl | hk
    · exact hr
    · exact hy.2 k hk
theorem town_c1 : ∀ (l : List Int) (b : Bag), BOk b → (∀ k ∈ l, 0 ≤ k ∧ k ≤ 12) → O2 BOk (m_l_town_c1 l b) (fun r => r.length ≤ l.length ∧ ∀ p ∈ r, 0 ≤ p.1 ∧ p.1 ≤ 20 ∧ 0 ≤ p.2 ∧ p.2 ≤ 20)
  | [], b, hb, _ => O2.ret hb ⟨Nat.le_refl _, fun _ h => nomatch h⟩
  | x :: l, b, hb, h => by
    have hx := h x (List.mem_cons_self ..)
    have hl := fun z hz => h z (List.mem_cons_of_mem _ hz)
    unfold m_l_town_c1
    refine O2.bind (draw_O hb (by decide) (by decide)) fun r b hb hr => ?_
    refine O2.ite (fun _ => ?_) (fun _ => ?_)
    · refine O2.bind (town_c1 l b hb hl) fun ys b hb hy => ?_
      refine O2.ret hb ⟨Nat.succ_le_succ hy.1, fun p hp => ?_⟩
      rcases List.mem_cons.mp hp with rfl | hp
      · exact ⟨hx.1, by show x ≤ 20; omega, by show 0 ≤ x + 1; omega, by show x + 1 ≤ 20; omega⟩
      · exact hy.2 p hp
    · exact (town_c1 l b hb hl).imp fun r hr => ⟨Nat.le_succ_of_le hr.1, hr.2⟩
theorem town_O {b : Bag} (hb : BOk b) : O2 BOk (m_l_town b) (fun t => ∃ w, MTown w t) := by
  unfold m_l_town
  refine O2.bind (draw_O hb (by decide) (by decide)) fun r b hb hr => ?_
  refine O2.bind1 (atI_O (P := fun r => 1 ≤ r ∧ r ≤ 30) hr.1 hr.2 fun x hx => ?_) fun w hw => ?_
  · simp only [List.mem_cons, List.not_mem_nil, or_false] at hx
    omega
  refine O2.bind (draw_O hb (by decide) (by decide)) fun m b hb hm => ?_
  rw [Option.bind_some]
  refine O2.bind1 (rangeO1_O (P := fun l => l.length ≤ 12 ∧ ∀ k ∈ l, 0 ≤ k ∧ k ≤ 12) (by omega) (by omega) ⟨by rw [rangeL_length]; omega, fun k hk => by have := mem_rangeL hk; omega⟩) fun l hl => ?_
  refine O2.bind (town_c1 l b hb hl.2) fun ties b hb ht => ?_
  refine O2.bind (draw_O hb (by decide) (by decide)) fun r b hb hr => ?_
  refine O2.bind1 (atI_O (P := fun r => 1 ≤ r ∧ r ≤ 8) hr.1 hr.2 fun x hx => ?_) fun g hg => ?_
  · simp only [List.mem_cons, List.not_mem_nil, or_false] at hx
    omega
  refine O2.bind (draw_O hb (by omega) (by omega)) fun r b hb hr => ?_
  rw [Option.bind_some]
  refine O2.bind1 (rangeO1_O (P := fun l => 1 ≤ l.length ∧ l.length ≤ 8) (by omega) (by omega) (by rw [rangeL_length]; omega)) fun l2 hl2 => ?_
  refine O2.bind (draws_c (b := b) (n := 1 + m) (m_l_town_c2 (1 + m)) (fun _ => rfl) (fun _ _ _ => rfl) (by omega) (by omega) l2 b hb) fun ds b hb hd => ?_
  exact O2.ret hb ⟨w.toNat, by show w = _; omega, by omega, by omega, by show 1 ≤ 1 + m; omega, by show 1 + m ≤ 12; omega, by show ties.length ≤ 12; omega, ht.2, by show 1 ≤ ds.length; omega, by show ds.length ≤ 8; omega, hd.2⟩
theorem flat_bits : ∀ ys : List Str, (∀ y ∈ ys, ∃ c, isB c = true ∧ tl y = [c]) → Bits (ys.map tl).flatten ∧ (ys.map tl).flatten.length = ys.length
  | [], _ => ⟨Bits.nil, rfl⟩
  | y :: ys, h => by
    obtain ⟨c, hc, e⟩ := h y (List.mem_cons_self ..)
    obtain ⟨h1, h2⟩ := flat_bits ys fun z hz => h z (List.mem_cons_of_mem _ hz)
    rw [List.map_cons, List.flatten_cons, e]
    exact ⟨(Bits.one hc).app h1, by rw [List.length_append, h2]; exact Nat.add_comm 1 _⟩
theorem str_01 {r : Int} (h0 : 0 ≤ r) (h1 : r < 2) : O1 (strO r) (fun x => ∃ c, isB c = true ∧ tl x = [c]) := by
  have : r = 0 ∨ r = 1 := by omega
  rcases this with rfl | rfl
  · exact ⟨_, rfl, 48, by decide, by decide +kernel⟩
  · exact ⟨_, rfl, 49, by decide, by decide +kernel⟩
theorem pattern_c1 : ∀ (l : List Int) (b : Bag), BOk b → O2 BOk (m_l_pattern_c1 l b) (fun ys => ys.length = l.length ∧ ∀ y ∈ ys, ∃ c, isB c = true ∧ tl y = [c])
  | [], b, hb => O2.ret hb ⟨rfl, fun _ h => nomatch h⟩
  | x :: l, b, hb => by
    unfold m_l_pattern_c1
    refine O2.bind (draw_O hb (by decide) (by decide)) fun r b hb hr => ?_
    refine O2.bind1 (str_01 hr.1 hr.2) fun y hy => ?_
    refine O2.bind (pattern_c1 l b hb) fun ys b hb hys => ?_
    refine O2.ret hb ⟨congrArg Nat.succ hys.1, fun z hz => ?_⟩
    rcases List.mem_cons.mp hz with rfl | hz
    · exact hy
    · exact hys.2 z hz
theorem pattern_O {w : Nat} {b : Bag} (h1 : 1 ≤ w) (h2 : w ≤ 30) (hb : BOk b) : O2 BOk (m_l_pattern b (w : Nat)) (fun x => IsPat w x) := by
  unfold m_l_pattern
  refine O2.bind (draw_O hb (by omega) (by omega)) fun r b hb hr => ?_
  refine O2.bind (draw_O hb (by decide) (by decide)) fun r2 b hb hr2 => ?_
  refine O2.bind (draw_O hb (by decide) (by decide)) fun r3 b hb hr3 => ?_
  refine O2.bind1 (atI_O (xs := [r, (if r2 < (w : Int) then r2 else (w : Int)), (w : Int)]) (P := fun r : Int => 0 ≤ r ∧ r ≤ (w : Int)) hr3.1 hr3.2 fun x hx => ?_) fun s hs => ?_
  · simp only [List.mem_cons, List.not_mem_nil, or_false] at hx
    rcases hx with rfl | rfl | rfl
    · omega
    · split <;> omega
    · omega
  refine O2.bind1 (rangeO1_O (P := fun l => (l.length : Int) = s) (by omega) (by omega) (by rw [rangeL_length]; omega)) fun l hl => ?_
  refine O2.bind (pattern_c1 l b hb) fun ys b hb hy => ?_
  obtain ⟨hf1, hf2⟩ := flat_bits ys hy.2
  have hsum : (ys.map fun y => (tl y).length).sum = ys.length := by rw [← hf2, List.length_flatten, List.map_map]; rfl
  refine O2.bind1 (joinS_O (P := fun x => Bits (tl x) ∧ ((tl x).length : Int) = s) (by rw [hsum, tl_empty, hy.1]; show _ + _ * 0 ≤ _; omega) ⟨by rw [tl_join0]; exact hf1, by rw [tl_join0, hf2, hy.1]; exact hl⟩) fun u hu => ?_
  refine O2.bind1 (mulS_O (P := fun v => tl v = if (tl u).length < w then [42] else []) (by unfold toI; split <;> omega) (by unfold toI; split <;> omega) (by rw [tlStar]; unfold toI; split <;> decide) ?_) fun v hv => ?_
  · rw [tl_mul, tlStar]
    by_cases h : (tl u).length < w
    · rw [if_pos h, decide_eq_true (by omega)]; rfl
    · rw [if_neg h, decide_eq_false (by omega)]; rfl
  refine O2.bind1 (catS_O (P := fun y => IsPat w y) ?_ ⟨tl u, hu.1, by omega, ?_⟩) fun y hy => O2.ret hb hy
  · rw [hv]
    split
    · show _ + 1 ≤ _; omega
    · show _ + 0 ≤ _; omega
  · rw [tl_append, hv]
    rfl
end K13
namespace K13
open PySem PySem.Spec PyProof.Rows L2 TL G
/-! ### orders and wishes, drawn -/
theorem Small.ssort {n : Nat} {xs : List Int} (h : Small n xs) (hl : (ssort xs).length ≤ n) : Small n (ssort xs) := ⟨hl, fun x hx => h.2 x (ssort_mem.mp hx)⟩
theorem ins_len (x : Int) : ∀ l : List Int, (ins x l).length ≤ l.length + 1
  | [] => by simp [ins]
  | y :: l => by
    have := ins_len x l
    unfold ins
    split
    · simp
    · split <;> simp only [List.length_cons] at * <;> omega
theorem ssort_len : ∀ l : List Int, (ssort l).length ≤ l.length
  | [] => Nat.le_refl _
  | x :: l => by
    have h1 := ins_len x (ssort l)
    have h2 := ssort_len l
    show (ins x (ssort l)).length ≤ _
    rw [List.length_cons]
    omega
theorem sset_O {n : Nat} {xs : List Int} (h : Small n xs) (hn : n ≤ 100) : O1 (ssetO xs) (fun r => Small n r) := by
  refine ⟨ssort xs, ?_, h.ssort (Nat.le_trans (ssort_len _) h.1)⟩
  unfold ssetO
  have := h.1
  rw [if_pos (by omega)]
theorem last_some {α : Type} {xs : List α} (h : xs ≠ []) : ∃ x, atI xs (-(1 : Int)) = some x := by
  have hp := List.length_pos_iff.mpr h
  have e : ixN xs.length (-(1 : Int)) = some (xs.length - 1) := by
    unfold ixN
    have z1 : ¬ (0 : Int) ≤ -(1 : Int) := by decide
    first
      | (rw [if_neg z1, if_pos (by omega)]; congr 1; omega)
      | (simp; omega)
      | (split <;> simp_all <;> omega)
  refine ⟨xs[xs.length - 1], ?_⟩
  unfold atI
  rw [e]
  show xs[xs.length - 1]? = _
  exact List.getElem?_eq_getElem (by omega)
theorem order_l1 {w : Nat} {t : Town} (ht : MTown w t) : ∀ (l : List Int) (by_ : List Int) (b : Bag), BOk b → by_.length + l.length ≤ 8 → (∀ x ∈ by_, 0 ≤ x ∧ x ≤ 1000000000) → O2 BOk (m_l_order_l1 t l by_ b) (fun r => Small 8 r)
  | [], f, b, hb, hl, hf => O2.ret hb ⟨by simpa using hl, hf⟩
  | x :: l, f, b, hb, hl, hf => by
    have h1 := ht.b1
    have h2 := ht.b2
    rw [List.length_cons] at hl
    unfold m_l_order_l1
    refine O2.bind (draw_O hb (by omega) (by omega)) fun r b hb hr => ?_
    refine O2.bind1 (P := fun _ => True) ?_ fun c _ => ?_
    · refine O1.ite (fun _ => ⟨_, rfl, trivial⟩) (fun hc => ?_)
      obtain ⟨z, hz⟩ := last_some (xs := f) (fun e => by rw [e, eqD_refl] at hc; exact absurd hc (by decide))
      exact ⟨_, by rw [hz]; rfl, trivial⟩
    · refine O2.ite (fun _ => ?_) (fun _ => order_l1 ht l f b hb (by omega) hf)
      rw [appL_some (by omega), Option.bind_some]
      refine order_l1 ht l _ b hb (by rw [List.length_append]; show _ + 1 + _ ≤ _; omega) fun y hy => ?_
      rcases List.mem_append.mp hy with hy | hy
      · exact hf y hy
      · rw [List.mem_singleton.mp hy]
        omega
theorem order_O {w : Nat} {t : Town} (ht : MTown w t) {b : Bag} (hb : BOk b) : O2 BOk (m_l_order b t) OrdOk := by
  have h1 := ht.b1
  have h2 := ht.b2
  have h3 := ht.e1
  have h4 := ht.e2
  unfold m_l_order
  refine O2.bind (draw_O hb (by decide) (by decide)) fun r b hb hr => ?_
  refine O2.bind1 (atI_O (P := fun r => 0 ≤ r ∧ r ≤ 3) hr.1 hr.2 fun x hx => ?_) fun n hn => ?_
  · simp only [List.mem_cons, List.not_mem_nil, or_false] at hx
    omega
  refine O2.bind1 (rangeO1_O (P := fun l => l.length ≤ 3) (by omega) (by omega) (by rw [rangeL_length]; omega)) fun l hl => ?_
  refine O2.bind (order_l1 ht l [] b hb (by simp only [List.length_nil]; omega) fun _ h => nomatch h) fun by_ b hb hby => ?_
  refine O2.bind (draw_O hb (by decide) (by decide)) fun r b hb hr => ?_
  refine O2.bind1 (atI_O (P := fun r => 0 ≤ r ∧ r ≤ 3) hr.1 hr.2 fun x hx => ?_) fun n hn => ?_
  · simp only [List.mem_cons, List.not_mem_nil, or_false] at hx
    omega
  refine O2.bind1 (rangeO1_O (P := fun l => l.length ≤ 3) (by omega) (by omega) (by rw [rangeL_length]; omega)) fun l hl => ?_
  refine O2.bind (draws_c (b := b) (n := t.b) (m_l_order_c2 t) (fun _ => rfl) (fun _ _ _ => rfl) (by omega) (by omega) l b hb) fun past b hb hp => ?_
  refine O2.bind (draw_O hb (by decide) (by decide)) fun m1 b hb hm1 => ?_
  refine O2.bind (draw_O hb (by decide) (by decide)) fun m2 b hb hm2 => ?_
  refine O2.bind (draw_O hb (by decide) (by decide)) fun r b hb hr => ?_
  refine O2.bind1 (atI_O (P := fun o : Option Int => ∀ m, o = some m → 0 ≤ m ∧ m ≤ 1000000000) hr.1 hr.2 fun x hx => ?_) fun mo hmo => ?_
  · simp only [List.mem_cons, List.not_mem_nil, or_false] at hx
    have e9 : ((10 : Int) ^ (9 : Int).toNat) = 1000000000 := by decide
    rw [e9] at hm2
    rcases hx with rfl | rfl | rfl | rfl
    · exact fun m h => nomatch h
    · intro m h
      cases h
      omega
    · intro m h
      cases h
      omega
    · exact fun m h => nomatch h
  refine O2.bind (draw_O hb (by omega) (by omega)) fun g b hb hg => ?_
  refine O2.bind1 (sset_O (n := 8) ⟨by omega, fun x hx => by have := hp.2 x hx; omega⟩ (by omega)) fun ps hps => ?_
  exact O2.ret hb ⟨hg.1, by show g ≤ 8; omega, hby, hps, hmo⟩
/-! ### near orders, doors, wishes -/
theorem Small.rev {n : Nat} {xs : List Int} (h : Small n xs) : Small n xs.reverse := ⟨by rw [List.length_reverse]; exact h.1, fun x hx => h.2 x (List.mem_reverse.mp hx)⟩
theorem Small.cut {n : Nat} {xs : List Int} (h : Small n xs) (lo hi : Option Int) : Small n (cutL xs lo hi) := ⟨Nat.le_trans (cutL_len _ _ _) h.1, fun x hx => h.2 x (mem_cutL hx)⟩
theorem near_O {w : Nat} {t : Town} (ht : MTown w t) {o : Ordr} (ho : OrdOk o) {b : Bag} (hb : BOk b) : O2 BOk (m_l_near b t o) OrdOk := by
  have h3 := ht.e1
  have h4 := ht.e2
  unfold m_l_near
  refine O2.bind (draw_O hb (by decide) (by decide)) fun r b hb hr => ?_
  refine O2.bind1 (P := fun m : Option Int => ∀ k, m = some k → 0 ≤ k ∧ k ≤ 1000000000) ?_ fun m hm => ?_
  · refine O1.ite (fun _ => ⟨_, rfl, ?_⟩) (fun _ => ⟨_, rfl, ho.e⟩)
    intro k hk
    split at hk
    · cases hk
      omega
    · cases hk
  refine O2.bind1 (P := fun v : VT Int => Small 8 v.l) ?_ fun by_ hby => ?_
  · exact O1.ite (fun _ => ⟨_, rfl, ho.b.rev⟩) (fun _ => ⟨_, rfl, ho.b⟩)
  refine O2.bind1 (P := fun v : VT Int => Small 8 v.l) ?_ fun past hp => ?_
  · exact O1.ite (fun _ => ⟨_, rfl, ho.c.cut _ _⟩) (fun _ => ⟨_, rfl, ho.c⟩)
  refine O2.bind (P := fun g : Int => 0 ≤ g ∧ g ≤ 8) ?_ fun g b hb hg => ?_
  · refine O2.ite (fun _ => ?_) (fun _ => O2.ret hb ⟨ho.a0, ho.a1⟩)
    refine O2.bind (draw_O hb (by omega) (by omega)) fun r b hb hr => O2.ret hb ?_
    omega
  refine O2.bind1 (P := fun _ => True) ?_ fun c _ => ?_
  · refine O1.ite (fun _ => ?_) (fun _ => ⟨_, rfl, trivial⟩)
    obtain ⟨s, e, _⟩ := sset_O hby (by omega)
    exact ⟨_, by rw [e]; rfl, trivial⟩
  exact O2.ite (fun _ => O2.ret hb ⟨hg.1, hg.2, hp, hby, hm⟩) (fun _ => O2.ret hb ⟨hg.1, hg.2, hby, hp, hm⟩)
theorem gates_O {w : Nat} {t : Town} (ht : MTown w t) {b : Bag} (hb : BOk b) : O2 BOk (m_l_gates b t) (fun o => ∀ v, o = some v → Small 8 v.l) := by
  have h3 := ht.e1
  have h4 := ht.e2
  unfold m_l_gates
  refine O2.bind (draw_O hb (by decide) (by decide)) fun r b hb hr => ?_
  refine O2.ite (fun _ => O2.ret hb fun _ h => nomatch h) (fun _ => ?_)
  refine O2.bind (draw_O hb (by decide) (by decide)) fun r b hb hr => ?_
  refine O2.bind1 (atI_O (P := fun r => 0 ≤ r ∧ r ≤ 8) hr.1 hr.2 fun x hx => ?_) fun n hn => ?_
  · simp only [List.mem_cons, List.not_mem_nil, or_false] at hx
    omega
  refine O2.bind1 (rangeO1_O (P := fun l => l.length ≤ 8) (by omega) (by omega) (by rw [rangeL_length]; omega)) fun l hl => ?_
  refine O2.bind (draws_c (b := b) (n := ((t.e.length : Nat) : Int)) (m_l_gates_c1 t) (fun _ => rfl) (fun _ _ _ => rfl) (by omega) (by omega) l b hb) fun gs b hb hp => ?_
  refine O2.bind1 (sset_O (n := 8) ⟨by omega, fun x hx => by have := hp.2 x hx; omega⟩ (by omega)) fun ps hps => ?_
  refine O2.ret hb fun v hv => ?_
  cases hv
  exact hps
def NameOk (x : Str) : Prop := (tl x).length ≤ 20 ∧ ∀ c ∈ tl x, c < 1000
structure WishOk (w : Nat) (r : Wish) : Prop where
  a : NameOk r.a
  b0 : 0 ≤ r.b
  b1 : r.b ≤ 9
  c1 : r.c.l.length ≤ 4
  c2 : ∀ x ∈ r.c.l, IsPat w x
  e : ∀ v, r.e = some v → Small 8 v.l
  f : ∀ o, r.f = some o → OrdOk o
theorem wish_c1 {w : Nat} {t : Town} (ht : MTown w t) : ∀ (l : List Int) (b : Bag), BOk b → O2 BOk (m_l_wish_c1 t l b) (fun r => r.length = l.length ∧ ∀ x ∈ r, IsPat w x)
  | [], b, hb => O2.ret hb ⟨rfl, fun _ h => nomatch h⟩
  | x :: l, b, hb => by
    unfold m_l_wish_c1
    rw [ht.a]
    refine O2.bind (pattern_O ht.w1 ht.w2 hb) fun p b hb hp => ?_
    refine O2.bind (wish_c1 ht l b hb) fun ys b hb hy => ?_
    refine O2.ret hb ⟨congrArg Nat.succ hy.1, fun z hz => ?_⟩
    rcases List.mem_cons.mp hz with rfl | hz
    · exact hp
    · exact hy.2 z hz
theorem wish_O {w : Nat} {t : Town} (ht : MTown w t) {x : Str} (hx : NameOk x) {pool : List (Option Ordr)} (hl : pool.length = 4) (hp : ∀ o ∈ pool, ∀ z, o = some z → OrdOk z) {b : Bag} (hb : BOk b) : O2 BOk (m_l_wish b t x pool) (fun r => WishOk w r ∧ r.a = x) := by
  unfold m_l_wish
  refine O2.bind (draw_O hb (by decide) (by decide)) fun r1 b hb h1 => ?_
  refine O2.bind (draw_O hb (by decide) (by decide)) fun r2 b hb h2 => ?_
  refine O2.bind (draw_O hb (by decide) (by decide)) fun r3 b hb h3 => ?_
  refine O2.bind1 (atI_O (xs := [r1, r2]) (P := fun r => 0 ≤ r ∧ r ≤ 9) h3.1 h3.2 fun x hx => ?_) fun k hk => ?_
  · simp only [List.mem_cons, List.not_mem_nil, or_false] at hx
    omega
  refine O2.bind (draw_O hb (by decide) (by decide)) fun r b hb hr => ?_
  refine O2.bind1 (atI_O (P := fun r => 0 ≤ r ∧ r ≤ 4) hr.1 hr.2 fun x hx => ?_) fun n hn => ?_
  · simp only [List.mem_cons, List.not_mem_nil, or_false] at hx
    omega
  refine O2.bind1 (rangeO1_O (P := fun l => l.length ≤ 4) (by omega) (by omega) (by rw [rangeL_length]; omega)) fun l hl2 => ?_
  refine O2.bind (wish_c1 ht l b hb) fun ps b hb hps => ?_
  refine O2.bind (gates_O ht hb) fun g b hb hg => ?_
  refine O2.bind (draw_O hb (by decide) (by decide)) fun r b hb hr => ?_
  refine O2.bind1 (atI_O (xs := pool) (P := fun o => ∀ z, o = some z → OrdOk z) hr.1 (by omega) hp) fun o ho => ?_
  exact O2.ret hb ⟨⟨hx, hk.1, hk.2, by show ps.length ≤ 4; omega, hps.2, hg, ho⟩, rfl⟩
/-! ### names, drawn -/
theorem pig {α : Type} [DecidableEq α] : ∀ (l m : List α), l.Nodup → (∀ x ∈ l, x ∈ m) → l.length ≤ m.length
  | [], _, _, _ => Nat.zero_le _
  | x :: l, m, nd, h => by
    obtain ⟨n1, n2⟩ := List.nodup_cons.mp nd
    have hx := h x (List.mem_cons_self ..)
    have h1 := pig l (m.erase x) n2 fun y hy => (List.mem_erase_of_ne (fun e : y = x => n1 (by rw [← e]; exact hy))).mpr (h y (List.mem_cons_of_mem _ hy))
    rw [List.length_erase_of_mem hx] at h1
    have h2 := List.length_pos_of_mem hx
    rw [List.length_cons]
    omega
theorem names_c4 : ∀ cs : List Nat, m_l_names_c4 cs = some (cs.map fun c => sgn c ++ ("zz" : Str))
  | [] => rfl
  | c :: cs => by
    have hz : tl ("zz" : Str) = [122, 122] := by decide +kernel
    obtain ⟨r, e1, e2⟩ := catS_O (a := sgn c) (b := ("zz" : Str)) (P := fun r => r = sgn c ++ ("zz" : Str)) (by rw [tl_sgn, hz]; show 1 + 2 ≤ _; omega) rfl
    subst e2
    unfold m_l_names_c4
    rw [e1, Option.bind_some, names_c4 cs, Option.bind_some, List.map_cons]
theorem names_c5 (f : List Str) : ∀ (l : List Str), ∀ x, x ∈ m_l_names_c5 f l ↔ x ∈ l ∧ inD x f = false
  | [], x => by unfold m_l_names_c5; simp
  | y :: l, x => by
    unfold m_l_names_c5
    cases hy : inD y f with
    | true =>
      rw [if_neg (by decide), names_c5 f l x, List.mem_cons]
      constructor
      · exact fun h => ⟨.inr h.1, h.2⟩
      · rintro ⟨rfl | h, h2⟩
        · rw [hy] at h2; cases h2
        · exact ⟨h, h2⟩
    | false =>
      rw [if_pos (by decide), List.mem_cons, names_c5 f l x, List.mem_cons]
      constructor
      · rintro (rfl | h)
        · exact ⟨.inl rfl, hy⟩
        · exact ⟨.inr h.1, h.2⟩
      · rintro ⟨rfl | h, h2⟩
        · exact .inl rfl
        · exact .inr ⟨h, h2⟩
def abc : Str := "abcdefghijklmnopqrstuvwxyz"
theorem tl_abc : tl abc = [97, 98, 99, 100, 101, 102, 103, 104, 105, 106, 107, 108, 109, 110, 111, 112, 113, 114, 115, 116, 117, 118, 119, 120, 121, 122] := by decide +kernel
theorem one_abc {i : Int} (h0 : 0 ≤ i) (h1 : i < 26) : O1 (codeAt abc i) (fun c => c < 1000) :=
  codeAt_O h0 (by rw [tl_abc]; exact h1) fun c hc => by
    rw [tl_abc] at hc
    simp only [List.mem_cons, List.not_mem_nil, or_false] at hc
    omega
def Ones (n : Nat) (ys : List Str) : Prop := ys.length = n ∧ ∀ y ∈ ys, ∃ c, c < 1000 ∧ tl y = [c]
theorem ones_c (f : List Int → Bag → Option (List Str × Bag)) (f0 : ∀ b, f [] b = some ([], b)) (f1 : ∀ x l b, f (x :: l) b = bind2 (m_l_draw b 26) fun r b => Option.bind (codeAt abc r) fun c => bind2 (f l b) fun rest b => some (sgn c :: rest, b)) :
    ∀ (l : List Int) (b : Bag), BOk b → O2 BOk (f l b) (fun r => Ones l.length r)
  | [], b, hb => by rw [f0]; exact O2.ret hb ⟨rfl, fun _ h => nomatch h⟩
  | x :: l, b, hb => by
    rw [f1]
    refine O2.bind (draw_O hb (by decide) (by decide)) fun r b hb hr => ?_
    refine O2.bind1 (one_abc hr.1 hr.2) fun c hc => ?_
    refine O2.bind (ones_c f f0 f1 l b hb) fun ys b hb hy => ?_
    refine O2.ret hb ⟨congrArg Nat.succ hy.1, fun z hz => ?_⟩
    rcases List.mem_cons.mp hz with rfl | hz
    · exact ⟨c, hc, tl_sgn c⟩
    · exact hy.2 z hz
theorem ones_join {n : Nat} {ys : List Str} (h : Ones n ys) : ((ys.map tl).flatten).length = n ∧ ∀ c ∈ (ys.map tl).flatten, c < 1000 := by
  obtain ⟨h1, h2⟩ := h
  induction ys generalizing n with
  | nil => exact ⟨h1, fun _ h => nomatch h⟩
  | cons y ys ih =>
    obtain ⟨c, hc, e⟩ := h2 y (List.mem_cons_self ..)
    obtain ⟨k1, k2⟩ := ih (n := ys.length) rfl fun z hz => h2 z (List.mem_cons_of_mem _ hz)
    rw [List.map_cons, List.flatten_cons, e]
    refine ⟨by rw [List.length_append, k1, ← h1]; exact Nat.add_comm 1 _, fun d hd => ?_⟩
    rcases List.mem_append.mp hd with hd | hd
    · rw [List.mem_singleton.mp hd]; exact hc
    · exact k2 d hd
theorem join_O {n : Nat} {ys : List Str} (h : Ones n ys) (hn : n ≤ 20) : O1 (joinS ("" : Str) ys) NameOk := by
  obtain ⟨h1, h2⟩ := ones_join h
  have hsum : (ys.map fun y => (tl y).length).sum = n := by rw [← h1, List.length_flatten, List.map_map]; rfl
  exact joinS_O (by rw [hsum, tl_empty]; show _ + _ * 0 ≤ _; omega) ⟨by rw [tl_join0, h1]; exact hn, by rw [tl_join0]; exact h2⟩
theorem NameOk.cut {x : Str} (h : NameOk x) (lo hi : Option Int) : NameOk (cutS x lo hi) := by
  unfold NameOk
  rw [tl_cut]
  exact ⟨Nat.le_trans (by rw [List.length_take, List.length_drop]; omega) h.1, fun c hc => h.2 c (List.mem_of_mem_drop (List.mem_of_mem_take hc))⟩
theorem kept_ok : ∀ x ∈ ([("let" : Str), ("bar" : Str), ("from" : Str), ("any" : Str), ("to" : Str), ("by" : Str), ("past" : Str), ("within" : Str)] : List Str), (tl x).length ≤ 20 ∧ (tl x).all (fun c => decide (c < 1000)) = true := by decide +kernel
theorem names_l2 {kept : List Str} (hk : kept.length = 8) (hko : ∀ x ∈ kept, NameOk x) {base : Str} (hb0 : NameOk base) (hb8 : (tl base).length ≤ 8) : ∀ (l : List Int) (f : List Str) (b : Bag), BOk b → f.length + l.length ≤ 16 → (∀ k ∈ l, 0 ≤ k ∧ k < 16) → (∀ x ∈ f, NameOk x) →
    O2 BOk (m_l_names_l2 abc kept base l f b) (fun r => r.length = f.length + l.length ∧ ∀ x ∈ r, NameOk x)
  | [], f, b, hb, _, _, hf => O2.ret hb ⟨rfl, hf⟩
  | x :: l, f, b, hb, hl, hx, hf => by
    have hx0 := hx x (List.mem_cons_self ..)
    rw [List.length_cons] at hl
    unfold m_l_names_l2
    refine O2.bind (draw_O hb (by decide) (by decide)) fun r b hb hr => ?_
    refine O2.bind1 (rangeO1_O (P := fun l => l.length ≤ 8) (by omega) (by omega) (by rw [rangeL_length]; omega)) fun l3 hl3 => ?_
    refine O2.bind (ones_c (m_l_names_c3 abc) (fun _ => rfl) (fun _ _ _ => rfl) l3 b hb) fun ys b hb hy => ?_
    refine O2.bind1 (join_O hy (by omega)) fun one h1 => ?_
    refine O2.bind1 (one_abc (i := x) hx0.1 (by omega)) fun c hc => ?_
    have hcut := hb0.cut none (some (7 : Int))
    have hcl : (tl (cutS base none (some (7 : Int)))).length ≤ 8 := by rw [tl_cut]; exact Nat.le_trans (by rw [List.length_take, List.length_drop]; omega) hb8
    refine O2.bind1 (catS_O (P := NameOk) (by rw [tl_sgn]; show _ + 1 ≤ _; omega) ⟨by rw [tl_append, List.length_append, tl_sgn]; show _ + 1 ≤ _; omega, fun d hd => ?_⟩) fun two h2 => ?_
    · rw [tl_append, tl_sgn] at hd
      rcases List.mem_append.mp hd with hd | hd
      · exact hcut.2 d hd
      · rw [List.mem_singleton.mp hd]; exact hc
    refine O2.bind1 (atI_O (xs := kept) (P := NameOk) (by omega) (by omega) hko) fun four h4 => ?_
    refine O2.bind (draw_O hb (by decide) (by decide)) fun r b hb hr => ?_
    refine O2.bind1 (atI_O (xs := [one, two, cutS base none (some ((1 : Int) + (x % (8 : Int)))), four]) (P := NameOk) hr.1 hr.2 fun z hz => ?_) fun st hst => ?_
    · simp only [List.mem_cons, List.not_mem_nil, or_false] at hz
      rcases hz with rfl | rfl | rfl | rfl
      · exact h1
      · exact h2
      · exact hb0.cut _ _
      · exact h4
    have ez : m_l_names_c4 abc.cps.toList = some ((tl abc).map fun c => sgn c ++ ("zz" : Str)) := names_c4 _
    have hzn : ((tl abc).map fun c => sgn c ++ ("zz" : Str)).Nodup := by rw [tl_abc]; decide +kernel
    have hzl : ((tl abc).map fun c => sgn c ++ ("zz" : Str)).length = 26 := by rw [List.length_map, tl_abc]; rfl
    have hzk : ∀ z ∈ ((tl abc).map fun c => sgn c ++ ("zz" : Str)), NameOk z := fun z hz => by
      obtain ⟨c, hc, rfl⟩ := List.mem_map.mp hz
      rw [tl_abc] at hc
      have e2 : tl ("zz" : Str) = [122, 122] := by decide +kernel
      refine ⟨by rw [tl_append, tl_sgn, e2]; show 1 + 2 ≤ 20; omega, fun d hd => ?_⟩
      rw [tl_append, tl_sgn, e2] at hd
      simp only [List.mem_cons, List.not_mem_nil, or_false, List.cons_append, List.nil_append] at hd hc
      omega
    rw [ez, Option.bind_some]
    generalize ((tl abc).map fun c => sgn c ++ ("zz" : Str)) = Z at hzn hzl hzk
    rw [conL_some (by rw [hzl]; show 1 + 26 ≤ 1000000; omega), Option.bind_some, Option.bind_some]
    have hne : m_l_names_c5 f ([st] ++ Z) ≠ [] := fun e => by
      have := pig Z f hzn fun z hz => by
        cases hi : inD z f with
        | true => exact of_decide_eq_true (inD_dec.symm.trans hi)
        | false =>
          have := (names_c5 f ([st] ++ Z) z).mpr ⟨List.mem_append_right _ hz, hi⟩
          rw [e] at this
          exact absurd this List.not_mem_nil
      omega
    cases hq : m_l_names_c5 f ([st] ++ Z) with
    | nil => exact absurd hq hne
    | cons q qs =>
      have hqm : q ∈ [st] ++ Z := ((names_c5 f _ q).mp (by rw [hq]; exact List.mem_cons_self ..)).1
      have hqo : NameOk q := by
        rcases List.mem_append.mp hqm with h | h
        · rw [List.mem_singleton.mp h]; exact hst
        · exact hzk q h
      have ea : atI (q :: qs) (0 : Int) = some q := by
        unfold atI ixN
        rw [if_pos (Int.le_refl 0), if_pos (by rw [List.length_cons]; omega)]
        rfl
      rw [ea, Option.bind_some, appL_some (by omega), Option.bind_some]
      refine (names_l2 hk hko hb0 hb8 l (f ++ [q]) b hb (by rw [List.length_append]; show _ + 1 + _ ≤ _; omega) (fun k hk => hx k (List.mem_cons_of_mem _ hk)) fun y hy => ?_).imp fun r hr => ⟨by rw [hr.1, List.length_append]; simp only [List.length_cons, List.length_nil]; omega, hr.2⟩
      rcases List.mem_append.mp hy with h | h
      · exact hf y h
      · rw [List.mem_singleton.mp h]; exact hqo
theorem names_O {b : Bag} (hb : BOk b) : O2 BOk (m_l_names b) (fun r => r.length = 16 ∧ ∀ x ∈ r, NameOk x) := by
  unfold m_l_names
  rw [Option.bind_some, Option.bind_some]
  refine O2.bind (ones_c (m_l_names_c1 abc) (fun _ => rfl) (fun _ _ _ => rfl) (rangeL 0 8) b hb) fun ys b hb hy => ?_
  obtain ⟨h1, h2⟩ := ones_join hy
  rw [rangeL_length] at h1
  have hsum : (ys.map fun y => (tl y).length).sum = 8 := by rw [← h1, List.length_flatten, List.map_map]; rfl
  refine O2.bind1 (joinS_O (P := fun x => NameOk x ∧ (tl x).length ≤ 8) (by rw [hsum, tl_empty]; show _ + _ * 0 ≤ _; omega) ⟨⟨by rw [tl_join0, h1]; decide, by rw [tl_join0]; exact h2⟩, by rw [tl_join0, h1]; exact Nat.le_refl _⟩) fun base hbs => ?_
  refine O2.bind (names_l2 rfl (fun x hx => by
    have := kept_ok x hx
    exact ⟨this.1, fun c hc => of_decide_eq_true (List.all_eq_true.mp this.2 c hc)⟩) hbs.1 hbs.2 (rangeL 0 16) [] b hb (by rw [rangeL_length]; decide) (fun k hk => by have := mem_rangeL hk; omega) fun _ h => nomatch h) fun r b hb hr => ?_
  exact O2.ret hb ⟨by rw [hr.1, rangeL_length]; rfl, hr.2⟩
theorem rows_c1 {w : Nat} {t : Town} (ht : MTown w t) {names : List Str} (hn : names.length = 16 ∧ ∀ x ∈ names, NameOk x) {pool : List (Option Ordr)} (hl : pool.length = 4) (hp : ∀ o ∈ pool, ∀ z, o = some z → OrdOk z) :
    ∀ (l : List Int) (b : Bag), BOk b → (∀ k ∈ l, 0 ≤ k ∧ k < 16) → O2 BOk (m_l_rows_c1 t names pool l b) (fun r => r.length = l.length ∧ ∀ x ∈ r, WishOk w x)
  | [], b, hb, _ => O2.ret hb ⟨rfl, fun _ h => nomatch h⟩
  | k :: l, b, hb, h => by
    have hk := h k (List.mem_cons_self ..)
    unfold m_l_rows_c1
    refine O2.bind1 (atI_O (xs := names) (P := NameOk) hk.1 (by omega) hn.2) fun x hx => ?_
    refine O2.bind (wish_O ht hx hl hp hb) fun r b hb hr => ?_
    refine O2.bind (rows_c1 ht hn hl hp l b hb fun z hz => h z (List.mem_cons_of_mem _ hz)) fun rs b hb hrs => ?_
    refine O2.ret hb ⟨congrArg Nat.succ hrs.1, fun z hz => ?_⟩
    rcases List.mem_cons.mp hz with rfl | hz
    · exact hr.1
    · exact hrs.2 z hz
theorem rows_O {w : Nat} {t : Town} (ht : MTown w t) {most : Int} (hm : most = 6 ∨ most = 16) {b : Bag} (hb : BOk b) : O2 BOk (m_l_rows b t most) (fun r => r.length ≤ 16 ∧ ∀ x ∈ r, WishOk w x) := by
  unfold m_l_rows
  refine O2.bind (names_O hb) fun names b hb hn => ?_
  refine O2.bind (order_O ht hb) fun o1 b hb h1 => ?_
  refine O2.bind (near_O ht h1 hb) fun o2 b hb h2 => ?_
  refine O2.bind (order_O ht hb) fun o3 b hb h3 => ?_
  rw [Option.bind_some]
  refine O2.bind (draw_O hb (by decide) (by decide)) fun r1 b hb k1 => ?_
  refine O2.bind (draw_O hb (by omega) (by omega)) fun r2 b hb k2 => ?_
  refine O2.bind (draw_O hb (by decide) (by decide)) fun r3 b hb k3 => ?_
  refine O2.bind (draw_O hb (by decide) (by decide)) fun r4 b hb k4 => ?_
  refine O2.bind1 (atI_O (xs := [1 + r1, r2, 2 + r3]) (P := fun r => 0 ≤ r ∧ r ≤ 16) k4.1 k4.2 fun x hx => ?_) fun n hn2 => ?_
  · simp only [List.mem_cons, List.not_mem_nil, or_false] at hx
    omega
  refine O2.bind1 (rangeO1_O (P := fun l => l.length ≤ 16 ∧ ∀ k ∈ l, 0 ≤ k ∧ k < 16) (by split <;> omega) (by split <;> omega) ⟨by rw [rangeL_length]; split <;> omega, fun k hk => by have := mem_rangeL hk; split at this <;> omega⟩) fun l hl => ?_
  refine O2.bind (rows_c1 ht hn rfl (fun o ho z hz => by
    simp only [List.mem_cons, List.not_mem_nil, or_false] at ho
    rcases ho with rfl | rfl | rfl | rfl
    · cases hz; exact h1
    · cases hz; exact h2
    · cases hz; exact h3
    · cases hz) l b hb hl.2) fun rs b hb hr => ?_
  exact O2.ret hb ⟨by rw [hr.1]; exact hl.1, hr.2⟩
end K13
namespace K13
open PySem PySem.Spec PyProof.Rows L2 TL G
/-! ### spans -/
theorem span_l1 : ∀ (cs : List Nat) (n : Nat), m_span_of_l1 cs (n : Int) = some ((n * 2 ^ cs.length + wr cs : Nat) : Int)
  | [], n => by unfold m_span_of_l1; simp [wr]
  | c :: cs, n => by
    unfold m_span_of_l1
    rw [toI_sgn1, Option.bind_some]
    have e : (2 : Int) * (n : Int) + ((if c = 49 then 1 else 0 : Nat) : Int) = ((2 * n + (if c = 49 then 1 else 0) : Nat) : Int) := by omega
    rw [e, span_l1 cs, wr_cons, List.length_cons, Nat.pow_succ]
    generalize (if c = 49 then 1 else 0) = d
    generalize 2 ^ cs.length = p
    congr 2
    rw [Nat.add_mul, Nat.mul_comm 2 n, Nat.mul_assoc, Nat.mul_comm 2 p, Nat.add_assoc]
theorem span_spec {w : Nat} {bs : List Nat} {x : Str} (p : Pat w bs x) (hw : w ≤ 60) : m_span_of x (w : Nat) = some (((spanL w bs).1 : Int), ((spanL w bs).2 : Int)) := by
  unfold m_span_of m_bits_of
  rw [Option.bind_some]
  have e1 : ((partS x ("*" : Str)).a).cps.toList = bs := p.part
  have e2 : (((partS x ("*" : Str)).a).length : Int) = (bs.length : Nat) := by rw [len_tl, p.part]
  have hle := p.le
  rw [e1, e2, show (0 : Int) = ((0 : Nat) : Int) from rfl, span_l1, Option.bind_some, Nat.zero_mul, Nat.zero_add]
  have e3 : (w : Int) - (bs.length : Nat) = ((w - bs.length : Nat) : Int) := by omega
  have h1 := wr_lt bs
  have h2 : 2 ^ bs.length < 2 ^ 62 := Nat.pow_lt_pow_right (by decide) (by omega)
  have h3 : 2 ^ (w - bs.length) < 2 ^ 64 := pow_lt64 (by omega)
  rw [e3, shlI_one (by omega), Option.bind_some, mulI_nat (by omega) h3, Option.bind_some]
  have e4 : ((wr bs : Nat) : Int) + 1 = ((wr bs + 1 : Nat) : Int) := rfl
  rw [e4, mulI_nat (by omega) h3, Option.bind_some]
  rfl
theorem spanI {w : Nat} {x : Str} (p : IsPat w x) (hw : w ≤ 60) : m_span_of x (w : Nat) = some (spI w x) := by
  obtain ⟨bs, p⟩ := p
  rw [span_spec p hw]
  unfold spI
  rw [bsOf_pat p]
/-! ### what holds a letter -/
theorem l_span_l1_ : ∀ (cs : List Nat) (n : Nat), m_l_span_l1 cs (n : Int) = some ((n * 2 ^ cs.length + wr cs : Nat) : Int)
  | [], n => by unfold m_l_span_l1; simp [wr]
  | c :: cs, n => by
    unfold m_l_span_l1
    rw [toI_sgn1, Option.bind_some]
    have e : (2 : Int) * (n : Int) + ((if c = 49 then 1 else 0 : Nat) : Int) = ((2 * n + (if c = 49 then 1 else 0) : Nat) : Int) := by omega
    rw [e, l_span_l1_ cs, wr_cons, List.length_cons, Nat.pow_succ]
    generalize (if c = 49 then 1 else 0) = d
    generalize 2 ^ cs.length = p
    congr 2
    rw [Nat.add_mul, Nat.mul_comm 2 n, Nat.mul_assoc, Nat.mul_comm 2 p, Nat.add_assoc]
theorem strike_pat {w : Nat} {bs : List Nat} {x : Str} (p : Pat w bs x) : tl (strike x 42) = bs := by
  rw [strike_tl, p.eq, patL, List.filter_append]
  have h1 : bs.filter (· != 42) = bs := List.filter_eq_self.mpr fun c hc => by
    have : c ≠ 42 := fun e => p.bits.no42 (e ▸ hc)
    simpa using this
  rw [h1]
  split <;> simp
theorem lspanI {w : Nat} {x : Str} (p : IsPat w x) (hw : w ≤ 60) : m_l_span x (w : Nat) = some (spI w x) := by
  obtain ⟨bs, p⟩ := p
  unfold m_l_span
  have e1 : (strike x 42).cps.toList = bs := strike_pat p
  have e2 : ((strike x 42).length : Int) = (bs.length : Nat) := by rw [len_tl, strike_pat p]
  have hle := p.le
  have h1 := wr_lt bs
  have h2 : 2 ^ bs.length < 2 ^ 62 := Nat.pow_lt_pow_right (by decide) (by omega)
  have h3 : 2 ^ (w - bs.length) < 2 ^ 64 := pow_lt64 (by omega)
  have e3 : (w : Int) - (bs.length : Nat) = ((w - bs.length : Nat) : Int) := by omega
  rw [Option.bind_some, e1, e2, show (0 : Int) = ((0 : Nat) : Int) from rfl, l_span_l1_, Option.bind_some, Nat.zero_mul, Nat.zero_add, e3, shlI_one (by omega), Option.bind_some, mulI_nat (by omega) h3, Option.bind_some, Option.bind_some]
  unfold spI
  rw [bsOf_pat p]
  congr 1
  show _ = ((((wr bs * 2 ^ (w - bs.length) : Nat) : Int)), (((wr bs + 1) * 2 ^ (w - bs.length) : Nat) : Int))
  rw [Nat.succ_mul]
  rfl
def inS (s : Int × Int) (a : Int) : Bool := decide (s.1 ≤ a) && decide (a < s.2)
theorem hasI {w : Nat} {x : Str} (p : IsPat w x) (hw : w ≤ 60) (a : Int) : m_has x a (w : Nat) = some (inS (spI w x) a) := by
  unfold m_has
  rw [spanI p hw, Option.bind_some]
  rfl
def isAt (e : Option (VT Int)) (f : Option Ordr) (d : Int) : Bool :=
  match e with
  | some v => decide (d ∈ v.l)
  | none => match f with
    | none => true
    | some o => neI o.a d
theorem is_at_eq (r : Wish) (d : Int) : m_is_at r d = some (isAt r.e r.f d) := by
  unfold m_is_at isAt
  cases r.e with
  | some v => rfl
  | none =>
    cases r.f with
    | none => rfl
    | some o => rfl
abbrev Plain := T5 Str Int (List (Int × Int)) (Option (VT Int)) (Option Ordr)
def plainW (w : Nat) (r : Wish) : Plain := T5.mk r.a r.b (r.c.l.map (spI w)) r.e r.f
theorem plain_c2 {w : Nat} (hw : w ≤ 60) : ∀ l : List Str, (∀ x ∈ l, IsPat w x) → m_l_plain_c2 (w : Nat) l = some (l.map (spI w))
  | [], _ => rfl
  | x :: l, h => by
    unfold m_l_plain_c2
    rw [lspanI (h x (List.mem_cons_self ..)) hw, Option.bind_some, plain_c2 hw l fun z hz => h z (List.mem_cons_of_mem _ hz), Option.bind_some, List.map_cons]
theorem plain_c1 {w : Nat} (hw : w ≤ 60) : ∀ l : List Wish, (∀ r ∈ l, ∀ x ∈ r.c.l, IsPat w x) → m_l_plain_c1 (w : Nat) l = some (l.map (plainW w))
  | [], _ => rfl
  | r :: l, h => by
    unfold m_l_plain_c1
    rw [plain_c2 hw r.c.l (h r (List.mem_cons_self ..)), Option.bind_some, plain_c1 hw l fun z hz => h z (List.mem_cons_of_mem _ hz), Option.bind_some, List.map_cons]
    rfl
theorem plain_eq {w : Nat} (hw : w ≤ 60) {l : List Wish} (h : ∀ r ∈ l, ∀ x ∈ r.c.l, IsPat w x) : m_l_plain l (w : Nat) = some (l.map (plainW w)) := by
  unfold m_l_plain
  rw [plain_c1 hw l h]
  rfl
def holdsW (w : Nat) (d a : Int) (r : Wish) : Bool := isAt r.e r.f d && r.c.l.any fun x => inS (spI w x) a
theorem is_of_c1 (a : Int) : ∀ S : List (Int × Int), m_l_is_of_c1 a S = S.filter fun s => inS s a
  | [] => rfl
  | s :: S => by
    unfold m_l_is_of_c1
    rw [is_of_c1 a S, List.filter_cons]
    rfl
theorem eqD_nil {α : Type} [Enc α] (l : List α) : eqD l ([] : List α) = l.isEmpty := by
  cases l <;> rfl
theorem filter_any {α : Type} (p : α → Bool) : ∀ S : List α, (!(S.filter p).isEmpty) = S.any p
  | [] => rfl
  | s :: S => by
    rw [List.filter_cons, List.any_cons]
    cases h : p s with
    | true => rfl
    | false => rw [Bool.false_or]; exact filter_any p S
theorem is_of_eq {w : Nat} (r : Wish) (d a : Int) : m_l_is_of (plainW w r) d a = some (holdsW w d a r) := by
  unfold m_l_is_of plainW holdsW isAt
  have e : (!eqD (m_l_is_of_c1 a (r.c.l.map (spI w))) ([] : List (Int × Int))) = r.c.l.any fun x => inS (spI w x) a := by
    rw [eqD_nil, is_of_c1, filter_any, List.any_map]
    rfl
  dsimp only
  rw [e]
  cases r.e with
  | some v =>
    show Option.bind (some (!decide (d ∈ v.l))) _ = some (decide (d ∈ v.l) && _)
    rw [Option.bind_some]
    generalize decide (d ∈ v.l) = q
    cases q <;> rfl
  | none =>
    cases r.f with
    | none => rfl
    | some o =>
      show Option.bind (some false) _ = some (neI o.a d && _)
      rw [Option.bind_some, if_neg (by decide)]
      show Option.bind (Option.bind (some (eqI o.a d)) fun c => some c) _ = _
      have h : neI o.a d = !eqI o.a d := by unfold neI eqI; simp
      rw [Option.bind_some, Option.bind_some, h]
      cases eqI o.a d <;> rfl
def best (s : List Wish) : Int := (s.map (·.b)).foldl max 0
def topW (w : Nat) (d a : Int) (rows : List Wish) : List Wish := let s := rows.filter (holdsW w d a); s.filter fun r => eqI r.b (best s)
theorem top_c1 {w : Nat} (d a : Int) : ∀ l : List Wish, m_l_top_c1 d a (l.map (plainW w)) = some ((l.filter (holdsW w d a)).map (plainW w))
  | [] => rfl
  | r :: l => by
    rw [List.map_cons]
    unfold m_l_top_c1
    rw [is_of_eq, Option.bind_some, top_c1 d a l, Option.bind_some, List.filter_cons]
    cases holdsW w d a r <;> rfl
theorem top_c2 {w : Nat} : ∀ l : List Wish, m_l_top_c2 (l.map (plainW w)) = l.map (·.b)
  | [] => rfl
  | r :: l => by
    rw [List.map_cons]
    unfold m_l_top_c2
    rw [top_c2 l]
    rfl
theorem top_c3 {w : Nat} (m : Int) : ∀ l : List Wish, m_l_top_c3 m (l.map (plainW w)) = (l.filter fun r => eqI r.b m).map (plainW w)
  | [] => rfl
  | r :: l => by
    rw [List.map_cons]
    unfold m_l_top_c3
    rw [top_c3 m l, List.filter_cons]
    show (if eqI r.b m = true then _ else _) = _
    cases eqI r.b m <;> rfl
end K13
namespace K13
open PySem PySem.Spec PyProof.Rows L2 TL G
theorem eqI_rfl (z : Int) : eqI z z = true := by rw [eqI_iff]; exact decide_eq_true rfl
theorem atI_head {α : Type} (x : α) (l : List α) : atI (x :: l) (0 : Int) = some x := by
  unfold atI ixN
  rw [if_pos (Int.le_refl 0), if_pos (by rw [List.length_cons]; omega)]
  rfl
theorem top_eq {w : Nat} {rows : List Wish} (hl : rows.length ≤ 1000) (d a : Int) : m_l_top (rows.map (plainW w)) d a = some ((topW w d a rows).map (plainW w)) := by
  unfold m_l_top
  have h1 := List.length_filter_le (holdsW w d a) rows
  rw [top_c1, Option.bind_some, top_c2, conL_some (by rw [List.length_map]; simp only [List.length_cons, List.length_nil]; omega), Option.bind_some]
  have e : maxO ([(0 : Int)] ++ (rows.filter (holdsW w d a)).map (·.b)) = some (best (rows.filter (holdsW w d a))) := rfl
  rw [e, Option.bind_some, top_c3]
  rfl
def tp (s : List Wish) : List Wish := s.filter fun r => eqI r.b (best s)
theorem best_ge {s : List Wish} {r : Wish} (h : r ∈ s) : r.b ≤ best s := (foldl_max (s.map (·.b)) 0).2 _ (List.mem_cons_of_mem _ (List.mem_map_of_mem h))
theorem best_nn (s : List Wish) : 0 ≤ best s := (foldl_max (s.map fun r : Wish => r.b) 0).2 0 (List.mem_cons_self ..)
theorem best_snoc (s : List Wish) (r : Wish) : best (s ++ [r]) = max (best s) r.b := by
  unfold best
  rw [List.map_append, List.foldl_append]
  rfl
theorem tp_ne {s : List Wish} (hs : s ≠ []) (h0 : ∀ r ∈ s, 0 ≤ r.b) : ∃ x t, tp s = x :: t ∧ x.b = best s := by
  have h1 : ∃ r ∈ s, r.b = best s := by
    rcases List.mem_cons.mp (foldl_max (s.map (·.b)) 0).1 with h | h
    · cases s with
      | nil => exact absurd rfl hs
      | cons x t =>
        refine ⟨x, List.mem_cons_self .., ?_⟩
        have h2 := h0 x (List.mem_cons_self ..)
        have h3 : best (x :: t) = 0 := h
        have h4 := best_ge (List.mem_cons_self (a := x) (l := t))
        omega
    · obtain ⟨r, hr, e⟩ := List.mem_map.mp h
      exact ⟨r, hr, e⟩
  obtain ⟨r, hr, e⟩ := h1
  have hm : r ∈ tp s := List.mem_filter.mpr ⟨hr, by rw [e]; exact eqI_rfl _⟩
  cases hq : tp s with
  | nil => rw [hq] at hm; exact absurd hm List.not_mem_nil
  | cons x t =>
    have hx : x ∈ tp s := by rw [hq]; exact List.mem_cons_self ..
    have := (List.mem_filter.mp hx).2
    rw [eqI_iff] at this
    exact ⟨x, t, rfl, of_decide_eq_true this⟩
theorem tp_snoc {s : List Wish} {e : Wish} : tp (s ++ [e]) = if best s < e.b then [e] else if eqI (best s) e.b = true then tp s ++ [e] else tp s := by
  unfold tp
  rw [best_snoc, List.filter_append]
  by_cases h : best s < e.b
  · rw [if_pos h, show max (best s) e.b = e.b by omega]
    have h1 : (s.filter fun r => eqI r.b e.b) = [] := List.filter_eq_nil_iff.mpr fun r hr => by
      have := best_ge hr
      rw [eqI_iff, decide_eq_true_iff]
      omega
    rw [h1, List.filter_cons, if_pos (eqI_rfl _)]
    rfl
  · rw [if_neg h, show max (best s) e.b = best s by omega, List.filter_cons, List.filter_nil]
    have hc : eqI (best s) e.b = eqI e.b (best s) := by
      rw [eqI_iff, eqI_iff]
      exact decide_eq_decide.mpr ⟨Eq.symm, Eq.symm⟩
    rw [hc]
    cases eqI e.b (best s) with
    | true => rfl
    | false => exact List.append_nil _
theorem holders_c2_ {w : Nat} (hw : w ≤ 60) (a : Int) : ∀ l : List Str, (∀ x ∈ l, IsPat w x) → m_holders_c2 a (w : Nat) l = some (l.map fun x => inS (spI w x) a)
  | [], _ => rfl
  | x :: l, h => by
    unfold m_holders_c2
    rw [hasI (h x (List.mem_cons_self ..)) hw, Option.bind_some, holders_c2_ hw a l fun z hz => h z (List.mem_cons_of_mem _ hz), Option.bind_some, List.map_cons]
theorem holders_l1_ {w : Nat} (hw : w ≤ 60) (d a : Int) : ∀ (l s : List Wish), (∀ r ∈ l, (∀ x ∈ r.c.l, IsPat w x) ∧ 0 ≤ r.b) → (∀ r ∈ s, 0 ≤ r.b) → s.length + l.length ≤ 1000 → m_holders_l1 d a (w : Nat) l (tp s) = some (tp (s ++ l.filter (holdsW w d a)))
  | [], s, _, _, _ => by unfold m_holders_l1; rw [List.filter_nil, List.append_nil]
  | e :: l, s, h, hs, hn => by
    rw [List.length_cons] at hn
    obtain ⟨he1, he2⟩ := h e (List.mem_cons_self ..)
    have hl := fun r hr => h r (List.mem_cons_of_mem _ hr)
    have hc : (if isAt e.e e.f d = true then Option.bind (m_holders_c2 a (w : Nat) e.c.l) fun l => some (l.any id) else some false) = some (holdsW w d a e) := by
      rw [holders_c2_ hw a _ he1, Option.bind_some, List.any_map]
      unfold holdsW
      cases isAt e.e e.f d <;> rfl
    unfold m_holders_l1
    rw [is_at_eq, Option.bind_some, hc, Option.bind_some, List.filter_cons]
    cases hh : holdsW w d a e with
    | false => exact holders_l1_ hw d a l s hl hs (by omega)
    | true =>
      have ih := holders_l1_ hw d a l (s ++ [e]) hl (fun r hr => by
        rcases List.mem_append.mp hr with h | h
        · exact hs r h
        · rw [List.mem_singleton.mp h]; exact he2) (by rw [List.length_append]; show _ + 1 + _ ≤ _; omega)
      rw [List.append_assoc, show [e] ++ l.filter (holdsW w d a) = e :: l.filter (holdsW w d a) from rfl, tp_snoc] at ih
      rw [if_pos rfl, if_pos rfl]
      have hlen : (tp s).length ≤ s.length := List.length_filter_le _ _
      cases hz : s with
      | nil =>
        subst hz
        have e1 : tp ([] : List Wish) = [] := rfl
        have e2 : best ([] : List Wish) = 0 := rfl
        have e3 : eqD ([] : List Wish) ([] : List Wish) = true := rfl
        rw [e1, e3]
        rw [e1, e2] at ih
        have e4 : (if (0 : Int) < e.b then [e] else if eqI 0 e.b = true then ([] : List Wish) ++ [e] else []) = [e] := by
          by_cases h : 0 < e.b
          · rw [if_pos h]
          · rw [if_neg h, if_pos (by rw [eqI_iff]; exact decide_eq_true (by omega))]
            rfl
        rw [e4] at ih
        show Option.bind (appL ([] : List Wish) e) _ = _
        rw [appL_some (by decide), Option.bind_some]
        exact ih
      | cons z t =>
        rw [← hz]
        obtain ⟨x, t2, e1, e2⟩ := tp_ne (s := s) (by rw [hz]; exact List.cons_ne_nil _ _) hs
        have e3 : eqD (x :: t2) ([] : List Wish) = false := rfl
        rw [e1] at ih hlen
        rw [List.length_cons] at hlen
        rw [e1, e3, Bool.not_false, if_pos rfl, atI_head, Option.bind_some, Option.bind_some]
        simp only [e2]
        by_cases h1 : best s < e.b
        · rw [if_pos h1] at ih
          rw [if_pos (decide_eq_true h1)]
          show Option.bind (appL ([] : List Wish) e) _ = _
          rw [appL_some (by decide), Option.bind_some]
          exact ih
        · rw [if_neg h1] at ih
          rw [if_neg (by rw [decide_eq_true_iff]; exact h1), if_neg (by decide), Option.bind_some, Option.bind_some, e2]
          by_cases h2 : eqI (best s) e.b = true
          · rw [if_pos h2] at ih
            rw [if_pos h2, appL_some (by rw [List.length_cons]; omega), Option.bind_some]
            exact ih
          · rw [if_neg h2] at ih
            rw [if_neg h2]
            exact ih
theorem holders_eq {w : Nat} (hw : w ≤ 60) (d a : Int) {rows : List Wish} (h : ∀ r ∈ rows, (∀ x ∈ r.c.l, IsPat w x) ∧ 0 ≤ r.b) (hn : rows.length ≤ 1000) : m_holders rows d a (w : Nat) = some (topW w d a rows) := by
  unfold m_holders
  have := holders_l1_ hw d a rows [] h (fun _ h => nomatch h) (by simpa using hn)
  have e1 : tp ([] : List Wish) = [] := rfl
  rw [e1] at this
  rw [Option.bind_some, this]
  rfl
/-! ### clashes -/
def spansAt (w : Nat) (d : Int) (rows : List Wish) : List (Int × Int) := ((rows.filter fun r => isAt r.e r.f d).flatMap fun r => r.c.l).map (spI w)
def spansAll (w : Nat) (rows : List Wish) : List (Int × Int) := rows.flatMap fun r => r.c.l.map (spI w)
structure RowsOk (w : Nat) (rows : List Wish) : Prop where
  w2 : w ≤ 30
  n : rows.length ≤ 16
  ok : ∀ r ∈ rows, WishOk w r
theorem flat_len {α β : Type} {f : α → List β} {k : Nat} : ∀ l : List α, (∀ x ∈ l, (f x).length ≤ k) → (l.flatMap f).length ≤ k * l.length
  | [], _ => Nat.zero_le _
  | x :: l, h => by
    rw [List.flatMap_cons, List.length_append, List.length_cons, Nat.mul_add]
    have h1 := h x (List.mem_cons_self ..)
    have h2 := flat_len l fun z hz => h z (List.mem_cons_of_mem _ hz)
    omega
theorem flat2_app (S T : List (Int × Int)) : flat2 (S ++ T) = flat2 S ++ flat2 T := List.flatMap_append
theorem cuts_l2_ : ∀ (S : List (Int × Int)) (f : List Int), f.length + 2 * S.length ≤ 3000 → m_l_cuts_l2 S f = some (f ++ flat2 S)
  | [], f, _ => by unfold m_l_cuts_l2; rw [show flat2 [] = [] from rfl, List.append_nil]
  | s :: S, f, h => by
    rw [List.length_cons] at h
    unfold m_l_cuts_l2
    rw [conL_some (by simp only [List.length_cons, List.length_nil]; omega), Option.bind_some, cuts_l2_ S _ (by rw [List.length_append]; simp only [List.length_cons, List.length_nil]; omega), List.append_assoc]
    rfl
theorem cuts_l1_ {w : Nat} : ∀ (l : List Wish) (f : List Int), (∀ r ∈ l, r.c.l.length ≤ 4) → f.length + 8 * l.length ≤ 3000 → m_l_cuts_l1 (l.map (plainW w)) f = some (f ++ flat2 (spansAll w l))
  | [], f, _, _ => by unfold m_l_cuts_l1; show some f = some (f ++ []); rw [List.append_nil]
  | r :: l, f, hr, h => by
    rw [List.length_cons] at h
    have h0 := hr r (List.mem_cons_self ..)
    have hln : (flat2 (r.c.l.map (spI w))).length ≤ 8 := by rw [flat2_len, List.length_map]; omega
    rw [List.map_cons]
    unfold m_l_cuts_l1
    rw [show (plainW w r).c = r.c.l.map (spI w) from rfl, cuts_l2_ _ _ (by rw [List.length_map]; omega), Option.bind_some, cuts_l1_ l _ (fun r h => hr r (List.mem_cons_of_mem _ h)) (by rw [List.length_append]; omega), List.append_assoc, ← flat2_app]
    rfl
theorem cuts_eq {w : Nat} {rows : List Wish} (h : RowsOk w rows) : m_l_cuts (rows.map (plainW w)) (w : Nat) = some (edgesOf w (spansAll w rows)) := by
  have h1 := h.n
  have h2 := h.w2
  have h3 := flat_len (f := fun r : Wish => r.c.l.map (spI w)) (k := 4) rows fun x hx => by rw [List.length_map]; exact (h.ok x hx).c1
  unfold m_l_cuts
  rw [shlI_one (by omega), Option.bind_some, Option.bind_some, cuts_l1_ rows _ (fun r hr => (h.ok r hr).c1) (by simp only [List.length_cons, List.length_nil]; omega), Option.bind_some]
  unfold ssetO
  rw [if_pos (by
    rw [List.length_append, flat2_len]
    have : (spansAll w rows).length ≤ 4 * rows.length := h3
    simp only [List.length_cons, List.length_nil]
    omega)]
  rfl
/-! ### the first two unlike ones at one place -/
abbrev Cl := T4 Str Str Int Int
def clP (s : List Plain) (d a : Int) : Option Cl := match s with
  | [] => none
  | h :: t => (t.find? fun o => !eqD o.f h.f).map fun o => T4.mk h.a o.a d a
def clAt (w : Nat) (rows : List Wish) (d a : Int) : Option Cl := clP ((topW w d a rows).map (plainW w)) d a
def out3 (o : Option Cl) : Option (Lp Unit (Lp Unit (Lp Unit (Option Cl)))) := match o with
  | none => some (.go ())
  | some x => some (.ret (.ret (.ret (some x))))
def out2 (o : Option Cl) : Option (Lp Unit (Lp Unit (Option Cl))) := match o with
  | none => some (.go ())
  | some x => some (.ret (.ret (some x)))
def out1 (o : Option Cl) : Option (Lp Unit (Option Cl)) := match o with
  | none => some (.go ())
  | some x => some (.ret (some x))
end K13
namespace K13
open PySem PySem.Spec PyProof.Rows L2 TL G
/-! ### the law's own clash -/
theorem l_clash_c4_ (s : List Plain) (k : Int) {z : Plain} (hz : atI s k = some z) : ∀ l : List Plain, m_l_clash_c4 s k l = some (l.filter fun o => !eqD o.f z.f)
  | [] => rfl
  | x :: l => by
    unfold m_l_clash_c4
    rw [hz, Option.bind_some, l_clash_c4_ s k hz l, Option.bind_some, List.filter_cons]
    cases eqD x.f z.f <;> rfl
theorem l_clash_like (d a : Int) (s : List Plain) (hs : ∀ x ∈ s, ∀ y ∈ s, x.f = y.f) : ∀ ks : List Int, (∀ k ∈ ks, 0 ≤ k ∧ k < s.length) → m_l_clash_l3 d a s ks = some (.go ())
  | [], _ => rfl
  | k :: ks, h => by
    have hk := h k (List.mem_cons_self ..)
    obtain ⟨z, e, hz⟩ := atI_O (xs := s) (P := fun z => z ∈ s) hk.1 hk.2 fun _ h => h
    have e2 : ((cutL s (some (k + (1 : Int))) none).filter fun o => !eqD o.f z.f) = [] := List.filter_eq_nil_iff.mpr fun x hx => by
      have hx2 : x ∈ s := List.mem_of_mem_drop (List.mem_of_mem_take hx)
      rw [hs x hx2 z hz, eqD_refl]
      decide
    unfold m_l_clash_l3
    rw [l_clash_c4_ s k e, Option.bind_some, e2]
    exact l_clash_like d a s hs ks fun q hq => h q (List.mem_cons_of_mem _ hq)
theorem rangeL_succ (n : Int) (k : Nat) : rangeL n (k + 1) = n :: rangeL (n + 1) k := by
  unfold rangeL
  rw [List.range_succ_eq_map, List.map_cons, List.map_map, show n + ((0 : Nat) : Int) = n from Int.add_zero n]
  congr 1
  apply List.map_congr_left
  intro a _
  show n + ((a + 1 : Nat) : Int) = n + 1 + (a : Nat)
  omega
theorem find_filter {α : Type} (p : α → Bool) : ∀ l : List α, l.find? p = (l.filter p).head?
  | [] => rfl
  | x :: l => by
    rw [List.find?_cons, List.filter_cons]
    cases p x with
    | true => rfl
    | false => exact find_filter p l
theorem l_clash_l3_ (d a : Int) (s : List Plain) : m_l_clash_l3 d a s (rangeL 0 s.length) = out3 (clP s d a) := by
  cases s with
  | nil => rfl
  | cons h t =>
    show _ = out3 (Option.map (fun o : Plain => T4.mk h.a o.a d a) (t.find? fun o => !eqD o.f h.f))
    rw [List.length_cons, rangeL_succ]
    unfold m_l_clash_l3
    have e1 : cutL (h :: t) (some ((0 : Int) + (1 : Int))) none = t := (cutL_from (h :: t) 1)
    rw [e1, l_clash_c4_ _ _ (atI_head h t), Option.bind_some, find_filter, eqD_nil, atI_head, Option.bind_some]
    cases hq : t.filter fun o => !eqD o.f h.f with
    | cons q qs =>
      rw [List.isEmpty_cons, Bool.not_false, if_pos rfl, atI_head]
      rfl
    | nil =>
      have ha : ∀ x ∈ h :: t, x.f = h.f := fun x hx => by
        rcases List.mem_cons.mp hx with rfl | hx
        · rfl
        · have := List.filter_eq_nil_iff.mp hq x hx
          rw [Bool.not_eq_true, Bool.not_eq_false'] at this
          exact eqD_iff.mp this
      rw [List.isEmpty_nil, Bool.not_true, if_neg (by decide)]
      exact l_clash_like d a (h :: t) (fun x hx y hy => (ha x hx).trans (ha y hy).symm) _ fun k hk => by
        unfold rangeL at hk
        obtain ⟨i, hi, rfl⟩ := List.mem_map.mp hk
        have := List.mem_range.mp hi
        rw [List.length_cons]
        omega
theorem l_clash_l2_ {w : Nat} {rows : List Wish} (h : RowsOk w rows) (d : Int) : ∀ l : List Int, m_l_clash_l2 (rows.map (plainW w)) d l = out2 (l.findSome? (clAt w rows d))
  | [] => rfl
  | a :: l => by
    have h1 := h.n
    have hlen : ((topW w d a rows).map (plainW w)).length ≤ 16 := by
      rw [List.length_map]
      exact Nat.le_trans (List.length_filter_le _ _) (Nat.le_trans (List.length_filter_le _ _) h1)
    unfold m_l_clash_l2
    rw [top_eq (by omega), Option.bind_some]
    obtain ⟨ks, e, ek⟩ := rangeO1_O (n := ((((topW w d a rows).map (plainW w)).length : Nat) : Int)) (P := fun l => l = rangeL 0 ((topW w d a rows).map (plainW w)).length) (by omega) (by omega) (by rw [Int.toNat_natCast])
    subst ek
    rw [e, Option.bind_some, l_clash_l3_, List.findSome?_cons]
    show bindL0 (out3 (clAt w rows d a)) _ _ = _
    cases clAt w rows d a with
    | none => exact l_clash_l2_ h d l
    | some x => rfl
def clDl (w : Nat) (rows : List Wish) (d : Int) : Option Cl := (edgesOf w (spansAll w rows)).dropLast.findSome? (clAt w rows d)
theorem cutL_last {α : Type} (l : List α) : cutL l none (some (-(1 : Int))) = l.dropLast := by
  unfold cutL
  have e0 : HT.sIx l.length 0 none = 0 := rfl
  have e1 : HT.sIx l.length l.length (some (-(1 : Int))) = l.length - 1 := by
    unfold HT.sIx
    first
      | rfl
      | (simp only []; omega)
      | (split <;> omega)
      | (simp; omega)
  rw [e0, e1, List.drop_zero, Nat.sub_zero, List.dropLast_eq_take]
theorem l_clash_l1_ {w : Nat} {rows : List Wish} (h : RowsOk w rows) {net : Town} (hn : net.a = (w : Nat)) : ∀ ds : List Int, m_l_clash_l1 (rows.map (plainW w)) net ds = out1 (ds.findSome? (clDl w rows))
  | [] => rfl
  | d :: ds => by
    unfold m_l_clash_l1
    rw [hn, cuts_eq h, Option.bind_some, cutL_last, l_clash_l2_ h d, List.findSome?_cons]
    show bindL0 (out2 (clDl w rows d)) _ _ = _
    cases clDl w rows d with
    | none => exact l_clash_l1_ h hn ds
    | some x => rfl
/-! ### what is held is alike between edges -/
theorem floor_in (a : Int) : ∀ E : List Int, (∃ e ∈ E, e ≤ a) → ∃ b ∈ E, b ≤ a ∧ ∀ e ∈ E, e ≤ a → e ≤ b
  | [], h => by obtain ⟨_, h, _⟩ := h; exact absurd h List.not_mem_nil
  | x :: E, h => by
    by_cases hE : ∃ e ∈ E, e ≤ a
    · obtain ⟨b, hb, h1, h2⟩ := floor_in a E hE
      by_cases hx : x ≤ a ∧ b < x
      · refine ⟨x, List.mem_cons_self .., hx.1, fun e he h => ?_⟩
        rcases List.mem_cons.mp he with rfl | he
        · exact Int.le_refl _
        · have := h2 e he h; omega
      · refine ⟨b, List.mem_cons_of_mem _ hb, h1, fun e he h => ?_⟩
        rcases List.mem_cons.mp he with rfl | he
        · omega
        · exact h2 e he h
    · obtain ⟨e, he, hea⟩ := h
      rcases List.mem_cons.mp he with rfl | he
      · refine ⟨e, List.mem_cons_self .., hea, fun z hz h => ?_⟩
        rcases List.mem_cons.mp hz with rfl | hz
        · exact Int.le_refl _
        · exact absurd ⟨z, hz, h⟩ hE
      · exact absurd ⟨e, he, hea⟩ hE
theorem any_congr_ {α : Type} {p q : α → Bool} : ∀ {l : List α}, (∀ x ∈ l, p x = q x) → l.any p = l.any q
  | [], _ => rfl
  | x :: l, h => by
    rw [List.any_cons, List.any_cons, h x (List.mem_cons_self ..), any_congr_ fun z hz => h z (List.mem_cons_of_mem _ hz)]
theorem holds_same {w : Nat} {rows : List Wish} {d a b : Int} (hb : b ≤ a) (h : ∀ e ∈ edgesOf w (spansAt w d rows), e ≤ a → e ≤ b) : ∀ r ∈ rows, holdsW w d a r = holdsW w d b r := fun r hr => by
  unfold holdsW
  cases hi : isAt r.e r.f d with
  | false => rfl
  | true =>
    rw [Bool.true_and, Bool.true_and]
    refine any_congr_ fun x hx => ?_
    have hs : spI w x ∈ spansAt w d rows := List.mem_map_of_mem (List.mem_flatMap.mpr ⟨r, List.mem_filter.mpr ⟨hr, hi⟩, hx⟩)
    have e1 := h (spI w x).1 (ssort_mem.mpr (List.mem_append_right _ (mem_flat2.mpr ⟨_, hs, .inl rfl⟩)))
    have e2 := h (spI w x).2 (ssort_mem.mpr (List.mem_append_right _ (mem_flat2.mpr ⟨_, hs, .inr rfl⟩)))
    unfold inS
    have c1 : decide ((spI w x).1 ≤ a) = decide ((spI w x).1 ≤ b) := decide_eq_decide.mpr ⟨e1, fun h => by omega⟩
    have c2 : decide (a < (spI w x).2) = decide (b < (spI w x).2) := decide_eq_decide.mpr ⟨fun h => by omega, fun h => by
      by_cases hh : a < (spI w x).2
      · exact hh
      · have := e2 (by omega)
        omega⟩
    rw [c1, c2]
/-! ### the program's parts and the law's cuts -/
theorem mem_dropLast_ {M : Int} : ∀ {E : List Int}, E.Pairwise (· < ·) → M ∈ E → (∀ e ∈ E, e ≤ M) → ∀ x, x ∈ E.dropLast ↔ x ∈ E ∧ x < M
  | [], _, h, _, _ => absurd h List.not_mem_nil
  | [y], _, h, _, x => by
    have h := List.mem_singleton.mp h
    subst h
    constructor
    · exact fun h => nomatch h
    · rintro ⟨h1, h2⟩
      have := List.mem_singleton.mp h1
      omega
  | y :: z :: r, hp, hm, hl, x => by
    obtain ⟨p1, p2⟩ := List.pairwise_cons.mp hp
    have h1 := p1 z (List.mem_cons_self ..)
    have h2 := hl z (List.mem_cons_of_mem _ (List.mem_cons_self ..))
    have hm2 : M ∈ z :: r := (List.mem_cons.mp hm).resolve_left (by omega)
    have ih := mem_dropLast_ p2 hm2 (fun e he => hl e (List.mem_cons_of_mem _ he)) x
    show x ∈ y :: (z :: r).dropLast ↔ _
    rw [List.mem_cons, ih, List.mem_cons (a := x) (b := y)]
    constructor
    · rintro (rfl | ⟨h3, h4⟩)
      · exact ⟨.inl rfl, by omega⟩
      · exact ⟨.inr h3, h4⟩
    · rintro ⟨rfl | h3, h4⟩
      · exact .inl rfl
      · exact .inr ⟨h3, h4⟩
theorem find_sub {β : Type} (p : Int → Option β) : ∀ (B A : List Int), B.Pairwise (· < ·) → A.Pairwise (· < ·) → (∀ a ∈ A, a ∈ B) → (∀ b ∈ B, (p b).isSome = true → ∃ a ∈ A, a ≤ b ∧ (p a).isSome = true) → A.findSome? p = B.findSome? p
  | [], A, _, _, hs, _ => by
    cases A with
    | nil => rfl
    | cons a A => exact absurd (hs a (List.mem_cons_self ..)) List.not_mem_nil
  | b :: B, A, hB, hA, hs, h => by
    obtain ⟨b1, b2⟩ := List.pairwise_cons.mp hB
    by_cases hb : b ∈ A
    · cases A with
      | nil => exact absurd hb List.not_mem_nil
      | cons a A =>
        obtain ⟨a1, a2⟩ := List.pairwise_cons.mp hA
        have e : a = b := by
          rcases List.mem_cons.mp hb with e | hb
          · exact e.symm
          · have := a1 b hb
            rcases List.mem_cons.mp (hs a (List.mem_cons_self ..)) with e | h2
            · exact e
            · have := b1 a h2; omega
        subst e
        rw [List.findSome?_cons, List.findSome?_cons]
        cases hp : p a with
        | some x => rfl
        | none =>
          show A.findSome? p = B.findSome? p
          refine find_sub p B A b2 a2 (fun z hz => ?_) fun z hz hpz => ?_
          · rcases List.mem_cons.mp (hs z (List.mem_cons_of_mem _ hz)) with rfl | h
            · have := a1 _ hz; omega
            · exact h
          · obtain ⟨y, hy, h1, h2⟩ := h z (List.mem_cons_of_mem _ hz) hpz
            rcases List.mem_cons.mp hy with rfl | hy
            · rw [hp] at h2; cases h2
            · exact ⟨y, hy, h1, h2⟩
    · have hs2 : ∀ a ∈ A, a ∈ B := fun a ha => (List.mem_cons.mp (hs a ha)).resolve_left fun e => hb (e ▸ ha)
      have hpb : p b = none := by
        cases hp : p b with
        | none => rfl
        | some x =>
          obtain ⟨y, hy, h1, _⟩ := h b (List.mem_cons_self ..) (by rw [hp]; rfl)
          have := b1 y (hs2 y hy)
          omega
      rw [List.findSome?_cons, hpb]
      exact find_sub p B A b2 hA hs2 fun z hz hpz => h z (List.mem_cons_of_mem _ hz) hpz
theorem top_same {w : Nat} {rows : List Wish} {d a b : Int} (h : ∀ r ∈ rows, holdsW w d a r = holdsW w d b r) : topW w d a rows = topW w d b rows := by
  unfold topW
  rw [List.filter_congr h]
theorem clP_some (s : List Plain) (d a : Int) : (clP s d a).isSome = true ↔ ∃ x ∈ s, ∃ y ∈ s, x.f ≠ y.f := by
  cases s with
  | nil =>
    constructor
    · intro h; cases h
    · rintro ⟨_, h, _⟩; exact absurd h List.not_mem_nil
  | cons h t =>
    unfold clP
    rw [Option.isSome_map, List.find?_isSome]
    constructor
    · rintro ⟨x, hx, e⟩
      refine ⟨x, List.mem_cons_of_mem _ hx, h, List.mem_cons_self .., fun z => ?_⟩
      rw [z, eqD_refl] at e
      cases e
    · rintro ⟨x, hx, y, hy, hxy⟩
      by_cases h1 : x.f = h.f
      · rcases List.mem_cons.mp hy with rfl | hy
        · exact absurd h1 hxy
        · exact ⟨y, hy, by rw [eqD_false fun e => hxy (h1.trans e.symm)]; rfl⟩
      · rcases List.mem_cons.mp hx with rfl | hx
        · exact absurd rfl h1
        · exact ⟨x, hx, by rw [eqD_false h1]; rfl⟩
theorem clP_at {s : List Plain} {d a : Int} {u : Cl} (h : clP s d a = some u) : u.c = d ∧ u.e = a := by
  cases s with
  | nil => cases h
  | cons x t =>
    unfold clP at h
    obtain ⟨y, _, e⟩ := Option.map_eq_some_iff.mp h
    subst e
    exact ⟨rfl, rfl⟩
theorem edge_in {w : Nat} {S : List (Int × Int)} (h : ∀ s ∈ S, ∃ x, IsPat w x ∧ s = spI w x) (hw : w ≤ 60) {e : Int} (he : e ∈ edgesOf w S) : 0 ≤ e ∧ e ≤ ((2 ^ w : Nat) : Int) := by
  have hp := Nat.two_pow_pos w
  rcases List.mem_append.mp (ssort_mem.mp he) with h1 | h1
  · simp only [List.mem_cons, List.not_mem_nil, or_false] at h1
    omega
  · obtain ⟨s, hs, h2⟩ := mem_flat2.mp h1
    obtain ⟨x, hx, rfl⟩ := h s hs
    have := spI_ok hx
    omega
theorem zero_edge (w : Nat) (S : List (Int × Int)) : (0 : Int) ∈ edgesOf w S := ssort_mem.mpr (List.mem_append_left _ (List.mem_cons_self ..))
theorem all_edge (w : Nat) (S : List (Int × Int)) : ((2 ^ w : Nat) : Int) ∈ edgesOf w S := ssort_mem.mpr (List.mem_append_left _ (List.mem_cons_of_mem _ (List.mem_cons_self ..)))
theorem spansAll_pat {w : Nat} {rows : List Wish} (h : RowsOk w rows) : ∀ s ∈ spansAll w rows, ∃ x, IsPat w x ∧ s = spI w x := fun s hs => by
  obtain ⟨r, hr, hs⟩ := List.mem_flatMap.mp hs
  obtain ⟨x, hx, rfl⟩ := List.mem_map.mp hs
  exact ⟨x, (h.ok r hr).c2 x hx, rfl⟩
theorem spansAt_sub {w : Nat} {rows : List Wish} {d : Int} : ∀ s ∈ spansAt w d rows, s ∈ spansAll w rows := fun s hs => by
  obtain ⟨x, hx, rfl⟩ := List.mem_map.mp hs
  obtain ⟨r, hr, hx⟩ := List.mem_flatMap.mp hx
  exact List.mem_flatMap.mpr ⟨r, (List.mem_filter.mp hr).1, List.mem_map_of_mem hx⟩
theorem edges_drop {w : Nat} {S : List (Int × Int)} (h : ∀ s ∈ S, ∃ x, IsPat w x ∧ s = spI w x) (hw : w ≤ 60) (x : Int) : x ∈ (edgesOf w S).dropLast ↔ x ∈ edgesOf w S ∧ x < ((2 ^ w : Nat) : Int) :=
  mem_dropLast_ (ssort_sorted _) (all_edge w S) (fun e he => (edge_in h hw he).2) x
theorem edges_sub {w : Nat} {S T : List (Int × Int)} (h : ∀ s ∈ S, s ∈ T) {e : Int} (he : e ∈ edgesOf w S) : e ∈ edgesOf w T := by
  rcases List.mem_append.mp (ssort_mem.mp he) with h1 | h1
  · exact ssort_mem.mpr (List.mem_append_left _ h1)
  · obtain ⟨s, hs, h2⟩ := mem_flat2.mp h1
    exact ssort_mem.mpr (List.mem_append_right _ (mem_flat2.mpr ⟨s, h s hs, h2⟩))
/-! ### of wishes, one by one, those that clash with none ahead -/
def clL (w : Nat) (rows : List Wish) (ds : List Int) : Option Cl := ds.findSome? (clDl w rows)
theorem l_clash_eq0 {w : Nat} {rows : List Wish} (h : RowsOk w rows) {net : Town} (ht : MTown w net) : m_l_clash (rows.map (plainW w)) net = some (clL w rows (rangeL 0 net.e.length)) := by
  unfold m_l_clash
  have h1 := ht.e2
  obtain ⟨l, e, el⟩ := rangeO1_O (n := ((net.e.length : Nat) : Int)) (P := fun l => l = rangeL 0 net.e.length) (by omega) (by omega) (by rw [Int.toNat_natCast])
  subst el
  rw [e, Option.bind_some, l_clash_l1_ h ht.a]
  unfold clL
  cases (rangeL 0 net.e.length).findSome? (clDl w rows) <;> rfl
theorem clL_nil {w : Nat} (ds : List Int) : clL w [] ds = none := by
  unfold clL
  rw [List.findSome?_eq_none_iff]
  intro d _
  unfold clDl
  rw [List.findSome?_eq_none_iff]
  intro a _
  rfl
theorem quiet_l1_ {w : Nat} {net : Town} (ht : MTown w net) : ∀ (l f : List Wish), (∀ r ∈ l, WishOk w r) → (∀ r ∈ f, WishOk w r) → f.length + l.length ≤ 16 → clL w f (rangeL 0 net.e.length) = none →
    ∃ r, m_l_quiet_l1 net l f = some r ∧ RowsOk w r ∧ clL w r (rangeL 0 net.e.length) = none ∧ ∀ x ∈ r, x ∈ f ∨ x ∈ l
  | [], f, _, hf, hn, hc => ⟨f, rfl, ⟨ht.w2, by simpa using hn, hf⟩, hc, fun _ h => .inl h⟩
  | e :: l, f, hl, hf, hn, hc => by
    rw [List.length_cons] at hn
    have hw : w ≤ 60 := Nat.le_trans ht.w2 (by decide)
    have hl2 := fun r hr => hl r (List.mem_cons_of_mem _ hr)
    have hok : ∀ r ∈ f ++ [e], WishOk w r := fun r hr => by
      rcases List.mem_append.mp hr with h | h
      · exact hf r h
      · rw [List.mem_singleton.mp h]; exact hl e (List.mem_cons_self ..)
    have hln : (f ++ [e]).length = f.length + 1 := by rw [List.length_append]; rfl
    have R : RowsOk w (f ++ [e]) := ⟨ht.w2, by omega, hok⟩
    unfold m_l_quiet_l1
    rw [conL_some (by simp only [List.length_cons, List.length_nil]; omega), Option.bind_some, ht.a, plain_eq hw fun r hr => (hok r hr).c2, Option.bind_some, l_clash_eq0 R ht, Option.bind_some]
    cases hq : clL w (f ++ [e]) (rangeL 0 net.e.length) with
    | none =>
      show ∃ r, Option.bind (appL f e) _ = some r ∧ _
      rw [appL_some (by omega), Option.bind_some]
      obtain ⟨r, h1, h2, h3, h4⟩ := quiet_l1_ ht l (f ++ [e]) hl2 hok (by omega) hq
      refine ⟨r, h1, h2, h3, fun x hx => ?_⟩
      rcases h4 x hx with h | h
      · rcases List.mem_append.mp h with h | h
        · exact .inl h
        · rw [List.mem_singleton.mp h]; exact .inr (List.mem_cons_self ..)
      · exact .inr (List.mem_cons_of_mem _ h)
    | some z =>
      obtain ⟨r, h1, h2, h3, h4⟩ := quiet_l1_ ht l f hl2 hf (by omega) hc
      exact ⟨r, h1, h2, h3, fun x hx => (h4 x hx).imp id (List.mem_cons_of_mem _)⟩
theorem quiet_eq {w : Nat} {rows : List Wish} (h : RowsOk w rows) {net : Town} (ht : MTown w net) : ∃ r, m_l_quiet rows net = some r ∧ RowsOk w r ∧ clL w r (rangeL 0 net.e.length) = none ∧ ∀ x ∈ r, x ∈ rows := by
  obtain ⟨r, h1, h2, h3, h4⟩ := quiet_l1_ ht rows [] h.ok (fun _ h => nomatch h) (by simpa using h.n) (clL_nil _)
  refine ⟨r, ?_, h2, h3, fun x hx => (h4 x hx).resolve_left List.not_mem_nil⟩
  unfold m_l_quiet
  rw [Option.bind_some, h1]
  rfl
end K13
namespace K13
open PySem PySem.Spec PyProof.Rows L2 TL G
/-! ### what repr asks -/
theorem small_fit {n : Nat} {v : VT Int} (h : Small n v.l) : Fit (n * 129) (Enc.d v) := Fit.VT (fun x hx => Fit.int (by have := h.2 x hx; omega)) h.1
theorem ord_fit {o : Ordr} (h : OrdOk o) : Fit 2400 (Enc.d o) := by
  have h0 := h.a0
  have h1 := h.a1
  refine Fit.tuple ((FitA.cons (Fit.int (by omega)) (FitA.cons (small_fit h.b) (FitA.cons (small_fit h.c) (FitA.cons (Fit.opt (n := 128) fun m hm => Fit.int (by have := h.e m hm; omega)) FitA.nil)))).mono (by omega))
theorem name_fit {x : Str} (h : NameOk x) : Fit 20 (.str x) := Fit.str h.1 fun c hc => Nat.lt_trans (h.2 c hc) (by decide)
theorem pat_fit {w : Nat} {x : Str} (hw : w ≤ 30) (h : IsPat w x) : Fit 31 (.str x) := by
  obtain ⟨bs, p⟩ := h
  have hle := p.le
  refine Fit.str ?_ fun c hc => ?_
  · rw [p.eq, patL, List.length_append]
    split
    · show _ + 1 ≤ _; omega
    · show _ + 0 ≤ _; omega
  · rw [p.eq, patL] at hc
    rcases List.mem_append.mp hc with h | h
    · have := p.bits c h
      have h2 : c = 48 ∨ c = 49 := by unfold isB at this; simpa using this
      rcases h2 with rfl | rfl <;> decide
    · split at h
      · rw [List.mem_singleton.mp h]; decide
      · exact absurd h List.not_mem_nil
theorem wish_fit {w : Nat} {r : Wish} (hw : w ≤ 30) (h : WishOk w r) : Fit 4000 (Enc.d r) := by
  have h0 := h.b0
  have h1 := h.b1
  refine Fit.tuple ((FitA.cons (name_fit h.a) (FitA.cons (Fit.int (by omega)) (FitA.cons (Fit.VT (fun x hx => pat_fit hw (h.c2 x hx)) h.c1) (FitA.cons (Fit.opt (n := 8 * 129) fun v hv => small_fit (h.e v hv)) (FitA.cons (Fit.opt (n := 2400) fun o ho => ord_fit (h.f o ho)) FitA.nil))))).mono (by omega))
theorem rows_fit {w : Nat} {rows : List Wish} (h : RowsOk w rows) : Fit 64016 (Enc.d rows) := Fit.L (fun r hr => wish_fit h.w2 (h.ok r hr)) h.n
theorem town_fit {w : Nat} {t : Town} (h : MTown w t) : Fit 5000 (Enc.d t) := by
  have h1 := h.a
  have h2 := h.w2
  have h3 := h.b1
  have h4 := h.b2
  refine Fit.tuple ((FitA.cons (Fit.int (by omega)) (FitA.cons (Fit.int (by omega)) (FitA.cons (Fit.L (n := 258) (fun p hp => by
    have := h.c2 p hp
    exact Fit.pair (by omega) (by omega)) h.c1) (FitA.cons (Fit.ints (fun k hk => by have := h.e3 k hk; omega) h.e2) FitA.nil)))).mono (by omega))
theorem both_fit {w : Nat} {rows : List Wish} (h : RowsOk w rows) {t : Town} (ht : MTown w t) : Fit 70000 (Enc.d ([Sum.inl rows, Sum.inr t] : List (List Wish ⊕ Town))) :=
  Fit.list ((FitA.cons (rows_fit h) (FitA.cons (town_fit ht) FitA.nil)).mono (by omega))
/-! ### letters, drawn; what holds them -/
theorem edges_len {w : Nat} {rows : List Wish} (h : RowsOk w rows) : 1 ≤ (edgesOf w (spansAll w rows)).length ∧ (edgesOf w (spansAll w rows)).length ≤ 200 := by
  have h1 := h.n
  have h3 := flat_len (f := fun r : Wish => r.c.l.map (spI w)) (k := 4) rows fun x hx => by rw [List.length_map]; exact (h.ok x hx).c1
  have h3 : (spansAll w rows).length ≤ 4 * rows.length := h3
  have h2 := ssort_len ([0, ((2 ^ w : Nat) : Int)] ++ flat2 (spansAll w rows))
  rw [List.length_append, flat2_len] at h2
  have h4 : (edgesOf w (spansAll w rows)).length ≤ 2 + 2 * (spansAll w rows).length := h2
  exact ⟨List.length_pos_of_mem (zero_edge w _), by omega⟩
theorem mark_O {w : Nat} {rows : List Wish} (h : RowsOk w rows) {b : Bag} (hb : BOk b) : O2 BOk (m_l_mark b (rows.map (plainW w)) (w : Nat)) (fun _ => True) := by
  have hl := edges_len h
  have hw := h.w2
  have h2 : 2 ^ w < 2 ^ 31 := Nat.pow_lt_pow_right (by decide) (by omega)
  have hp := Nat.two_pow_pos w
  unfold m_l_mark
  rw [cuts_eq h, Option.bind_some]
  refine O2.bind (draw_O hb (by omega) (by omega)) fun r b hb hr => ?_
  refine O2.bind1 (atI_O (P := fun _ => True) hr.1 hr.2 fun _ _ => trivial) fun x _ => ?_
  refine O2.bind (draw_O hb (by omega) (by omega)) fun r b hb hr => ?_
  refine O2.bind1 (atI_O (P := fun _ => True) hr.1 hr.2 fun _ _ => trivial) fun y _ => ?_
  rw [shlI_one (by omega), Option.bind_some]
  refine O2.bind (draw_O hb (by omega) (by omega)) fun r b hb hr => ?_
  rw [Option.bind_some, Option.bind_some]
  refine O2.bind (draw_O hb (by decide) (by decide)) fun q b hb hq => ?_
  refine O2.bind1 (atI_O (P := fun _ => True) hq.1 hq.2 fun _ _ => trivial) fun y _ => ?_
  exact O2.ret hb trivial
def ordOf (s : List Wish) : Option Ordr := match s with
  | [] => none
  | r :: _ => r.f
theorem wished_eq {w : Nat} {rows : List Wish} (h : RowsOk w rows) (d a : Int) : m_wished rows d a (w : Nat) = some (ordOf (topW w d a rows)) := by
  have h1 := h.n
  have h2 := h.w2
  unfold m_wished
  rw [holders_eq (by omega) d a (fun r hr => ⟨(h.ok r hr).c2, (h.ok r hr).b0⟩) (by omega), Option.bind_some]
  cases topW w d a rows with
  | nil => rfl
  | cons x t =>
    rw [show eqD (x :: t) ([] : List Wish) = false from rfl, Bool.not_false, if_pos rfl, atI_head]
    rfl
theorem top_len {w : Nat} {rows : List Wish} (h : RowsOk w rows) (d a : Int) : (topW w d a rows).length ≤ 16 := Nat.le_trans (List.length_filter_le _ _) (Nat.le_trans (List.length_filter_le _ _) h.n)
theorem held_c1 : ∀ l : List Wish, m_held_by_c1 l = l.map fun r => r.a
  | [] => rfl
  | r :: l => by unfold m_held_by_c1; rw [held_c1 l, List.map_cons]
theorem held_eq {w : Nat} {rows : List Wish} (h : RowsOk w rows) (d a : Int) : m_held_by rows d a (w : Nat) = some ((topW w d a rows).map fun r => r.a) := by
  have h1 := h.n
  have h2 := h.w2
  unfold m_held_by
  rw [holders_eq (by omega) d a (fun r hr => ⟨(h.ok r hr).c2, (h.ok r hr).b0⟩) (by omega), Option.bind_some, held_c1]
theorem right_c2 {w : Nat} : ∀ l : List Wish, m_l_right_c2 (l.map (plainW w)) = l.map fun r => r.a
  | [] => rfl
  | r :: l => by rw [List.map_cons, List.map_cons]; unfold m_l_right_c2; rw [right_c2 l]; rfl
theorem right_l1_ {w : Nat} {t : Town} (ht : MTown w t) {rows : List Wish} (h : RowsOk w rows) (calm : Bool) : ∀ (l : List Int) (b : Bag), BOk b → OL BOk (m_l_right_l1 t rows calm (w : Nat) (rows.map (plainW w)) l b)
  | [], b, hb => OL.ret hb
  | x :: l, b, hb => by
    have h1 := h.n
    have h2 := ht.e1
    have h3 := ht.e2
    unfold m_l_right_l1
    refine OL.bind (draw_O hb (by omega) (by omega)) fun d b hb hd => ?_
    refine OL.bind (mark_O h hb) fun a b hb _ => ?_
    have hl := top_len h d a
    rw [top_eq (by omega), Option.bind_some, right_c2, Option.bind_some, held_eq h, Option.bind_some, alike_self, Option.bind_some, notT, appL_some (by rw [List.length_map]; omega), Option.bind_some, Option.bind_some, eqD_refl, notT, wished_eq h]
    have hc : (if (!eqD ((topW w d a rows).map (plainW w)) ([] : (List Plain))) = true then (Option.bind (atI ((topW w d a rows).map (plainW w)) (0 : Int)) fun t281 => some (t281.f)) else ( some ((none : (Option Ordr))))) = some (ordOf (topW w d a rows)) := by
      cases topW w d a rows with
      | nil => rfl
      | cons x t =>
        rw [List.map_cons, show ∀ (p : Plain) (q : List Plain), eqD (p :: q) ([] : List Plain) = false from fun _ _ => rfl, Bool.not_false, if_pos rfl, atI_head]
        rfl
    rw [hc, Option.bind_some, Option.bind_some]
    generalize ordOf (topW w d a rows) = o
    have hs : (if calm = true then (Option.bind (some o) fun r341 =>
        Option.bind (setL [o, o] (0 : Int) r341) fun t357 =>
        Option.bind (some o) fun r372 =>
        Option.bind (setL t357 (1 : Int) r372) fun t388 =>
        some (t388)) else (some [o, o])) = some [o, o] := by
      cases calm <;> rfl
    rw [hs, Option.bind_some, alike_self, Option.bind_some, notT]
    exact right_l1_ ht h calm l b hb
theorem right_O {w : Nat} {t : Town} (ht : MTown w t) {rows : List Wish} (h : RowsOk w rows) (calm : Bool) {b : Bag} (hb : BOk b) : O2 BOk (m_l_right b t rows calm) (fun r => r = true) := by
  have hw := h.w2
  obtain ⟨b1, e1, hb1⟩ := right_l1_ ht h calm (rangeL 0 12) b hb
  unfold m_l_right
  rw [ht.a, plain_eq (by omega) fun r hr => (h.ok r hr).c2, Option.bind_some, reprO_some (rows_fit h) (by decide), Option.bind_some, e1]
  refine ⟨_, b1, rfl, hb1, ?_⟩
  unfold eqS
  simp
/-! ### the law -/
theorem law_l1_ : ∀ (l : List Int) (b : Bag), BOk b → OL BOk (m_law_l1 l b)
  | [], b, hb => OL.ret hb
  | x :: l, b, hb => by
    unfold m_law_l1
    refine OL.bind (town_O hb) fun t b hb ht => ?_
    obtain ⟨w, ht⟩ := ht
    have hix : 0 ≤ toI (eqI x (0 : Int)) ∧ toI (eqI x (0 : Int)) < 2 := by unfold toI; split <;> omega
    refine OL.bind1 (atI_O (P := fun m => m = 6 ∨ m = 16) hix.1 hix.2 fun x hx => ?_) fun m hm => ?_
    · simpa using hx
    refine OL.bind (rows_O ht hm hb) fun rows b hb hr => ?_
    have R : RowsOk w rows := ⟨ht.w2, hr.1, hr.2⟩
    refine OL.bind (right_O ht R false hb) fun r b hb hr => ?_
    subst hr
    obtain ⟨q, e1, e2, e3, _⟩ := quiet_eq R ht
    rw [notT, e1, Option.bind_some]
    refine OL.bind (right_O ht e2 true hb) fun r b hb hr => ?_
    subst hr
    rw [notT]
    exact law_l1_ l b hb
theorem law_true (b : Bag) (hb : BOk b) (n : Nat) (hn : n ≤ 63) : ∃ b', m_law b n = some (true, b') := by
  unfold m_law
  obtain ⟨l, e, _⟩ := rangeO1_O (n := (4 : Int) + (if ((n : Nat) : Int) < (6 : Int) then ((n : Nat) : Int) else (6 : Int))) (P := fun _ => True) (by split <;> omega) (by split <;> omega) trivial
  obtain ⟨b1, e1, _⟩ := law_l1_ l b hb
  refine ⟨b1, ?_⟩
  rw [e, Option.bind_some, e1]
  rfl
end K13
namespace K13
open PySem PySem.Spec PyProof.Rows L2 TL G
def dd_bits_of : He.DefD := ⟨("bits_of", none), "bits_of", "bits_of", defArgs s_bits_of, defBody s_bits_of, defScope s_bits_of, [], []⟩
def dd_span_of : He.DefD := ⟨("span_of", none), "span_of", "span_of", defArgs s_span_of, defBody s_span_of, defScope s_span_of, [], []⟩
def dd_has : He.DefD := ⟨("has", none), "has", "has", defArgs s_has, defBody s_has, defScope s_has, [], []⟩
def dd_is_at : He.DefD := ⟨("is_at", none), "is_at", "is_at", defArgs s_is_at, defBody s_is_at, defScope s_is_at, [], []⟩
def dd_holders : He.DefD := ⟨("holders", none), "holders", "holders", defArgs s_holders, defBody s_holders, defScope s_holders, [], []⟩
def dd_wished : He.DefD := ⟨("wished", none), "wished", "wished", defArgs s_wished, defBody s_wished, defScope s_wished, [], []⟩
def dd_held_by : He.DefD := ⟨("held_by", none), "held_by", "held_by", defArgs s_held_by, defBody s_held_by, defScope s_held_by, [], []⟩
def dd_l_bag : He.DefD := ⟨("_law_bag", none), "_law_bag", "_law_bag", defArgs s_l_bag, defBody s_l_bag, defScope s_l_bag, [], []⟩
def dd_l_stirred : He.DefD := ⟨("_law_stirred", none), "_law_stirred", "_law_stirred", defArgs s_l_stirred, defBody s_l_stirred, defScope s_l_stirred, [], []⟩
def dd_l_draw : He.DefD := ⟨("_law_draw", none), "_law_draw", "_law_draw", defArgs s_l_draw, defBody s_l_draw, defScope s_l_draw, [], []⟩
def dd_l_alike : He.DefD := ⟨("_law_alike", none), "_law_alike", "_law_alike", defArgs s_l_alike, defBody s_l_alike, defScope s_l_alike, [], []⟩
def dd_l_town : He.DefD := ⟨("_law_town", none), "_law_town", "_law_town", defArgs s_l_town, defBody s_l_town, defScope s_l_town, [], []⟩
def dd_l_names : He.DefD := ⟨("_law_names", none), "_law_names", "_law_names", defArgs s_l_names, defBody s_l_names, defScope s_l_names, [], []⟩
def dd_l_pattern : He.DefD := ⟨("_law_pattern", none), "_law_pattern", "_law_pattern", defArgs s_l_pattern, defBody s_l_pattern, defScope s_l_pattern, [], []⟩
def dd_l_order : He.DefD := ⟨("_law_order", none), "_law_order", "_law_order", defArgs s_l_order, defBody s_l_order, defScope s_l_order, [], []⟩
def dd_l_near : He.DefD := ⟨("_law_near", none), "_law_near", "_law_near", defArgs s_l_near, defBody s_l_near, defScope s_l_near, [], []⟩
def dd_l_gates : He.DefD := ⟨("_law_gates", none), "_law_gates", "_law_gates", defArgs s_l_gates, defBody s_l_gates, defScope s_l_gates, [], []⟩
def dd_l_wish : He.DefD := ⟨("_law_wish", none), "_law_wish", "_law_wish", defArgs s_l_wish, defBody s_l_wish, defScope s_l_wish, [], []⟩
def dd_l_rows : He.DefD := ⟨("_law_rows", none), "_law_rows", "_law_rows", defArgs s_l_rows, defBody s_l_rows, defScope s_l_rows, [], []⟩
def dd_l_span : He.DefD := ⟨("_law_span", none), "_law_span", "_law_span", defArgs s_l_span, defBody s_l_span, defScope s_l_span, [], []⟩
def dd_l_plain : He.DefD := ⟨("_law_plain", none), "_law_plain", "_law_plain", defArgs s_l_plain, defBody s_l_plain, defScope s_l_plain, [], []⟩
def dd_l_is_of : He.DefD := ⟨("_law_is_of", none), "_law_is_of", "_law_is_of", defArgs s_l_is_of, defBody s_l_is_of, defScope s_l_is_of, [], []⟩
def dd_l_top : He.DefD := ⟨("_law_top", none), "_law_top", "_law_top", defArgs s_l_top, defBody s_l_top, defScope s_l_top, [], []⟩
def dd_l_cuts : He.DefD := ⟨("_law_cuts", none), "_law_cuts", "_law_cuts", defArgs s_l_cuts, defBody s_l_cuts, defScope s_l_cuts, [], []⟩
def dd_l_clash : He.DefD := ⟨("_law_clash", none), "_law_clash", "_law_clash", defArgs s_l_clash, defBody s_l_clash, defScope s_l_clash, [], []⟩
def dd_l_quiet : He.DefD := ⟨("_law_quiet", none), "_law_quiet", "_law_quiet", defArgs s_l_quiet, defBody s_l_quiet, defScope s_l_quiet, [], []⟩
def dd_l_mark : He.DefD := ⟨("_law_mark", none), "_law_mark", "_law_mark", defArgs s_l_mark, defBody s_l_mark, defScope s_l_mark, [], []⟩
def dd_l_right : He.DefD := ⟨("_law_right", none), "_law_right", "_law_right", defArgs s_l_right, defBody s_l_right, defScope s_l_right, [], []⟩
def dd_law : He.DefD := ⟨("law", none), "law", "law", defArgs s_law, defBody s_law, defScope s_law, [], []⟩
def fnL : List He.DefD := [dd_bits_of, dd_span_of, dd_has, dd_is_at, dd_holders, dd_wished, dd_held_by, dd_l_bag, dd_l_stirred, dd_l_draw, dd_l_alike, dd_l_town, dd_l_names, dd_l_pattern, dd_l_order, dd_l_near, dd_l_gates, dd_l_wish, dd_l_rows, dd_l_span, dd_l_plain, dd_l_is_of, dd_l_top, dd_l_cuts, dd_l_clash, dd_l_quiet, dd_l_mark, dd_l_right, dd_law]
def faL : List He.Fa := [.glo "bits_of", .glo "span_of", .glo "has", .glo "is_at", .glo "holders", .glo "wished", .glo "held_by", .glo "_law_bag", .glo "_law_stirred", .glo "_law_draw", .glo "_law_alike", .glo "_law_town", .glo "_law_names", .glo "_law_pattern", .glo "_law_order", .glo "_law_near", .glo "_law_gates", .glo "_law_wish", .glo "_law_rows", .glo "_law_span", .glo "_law_plain", .glo "_law_is_of", .glo "_law_top", .glo "_law_cuts", .glo "_law_clash", .glo "_law_quiet", .glo "_law_mark", .glo "_law_right", .glo "law", .free "abs", .free "all", .free "any", .free "bool", .free "int", .free "isinstance", .free "len", .free "list", .free "max", .free "min", .free "range", .free "repr", .free "set", .free "sorted", .free "str", .free "tuple", .str "STAR" "*"]
abbrev RR : PySem.W.OpenRow := PySem.W.OpenLaw.row PySem.Challenge.rw_wishnet_k13_what_holds_a_letter
abbrev hk : PySem.W.Hook := He.hookD 4 faL fnL
def ob (s : PySem.W.SharedT) : He.AlD := He.obsDG 4 faL fnL (HandSHeadRun.getT s)
theorem ob_eq (s : PySem.W.SharedT) : ob s = hk.obs s.abs := He.obsDG_eq (HandSHeadRun.getT_eq s)
def looseL : List Str := ["STAR", "bits_of", "span_of", "has", "is_at", "holders", "wished", "held_by", "_law_bag", "_law_stirred", "_law_draw", "_law_alike", "_law_town", "_law_names", "_law_pattern", "_law_order", "_law_near", "_law_gates", "_law_wish", "_law_rows", "_law_span", "_law_plain", "_law_is_of", "_law_top", "_law_cuts", "_law_clash", "_law_quiet", "_law_mark", "_law_right"]
theorem run_top (w : World) : HandSHeadRun.RunEq RR (PySem.W.view RR.prog [32]) hk ob 4000 looseL w := by
  intro os
  kernel_rfl
theorem facts {P : Program} {w : World} {K : PySem.W.Frag} {h : Heap} {mg : Str → Option Value} {f : Addr} (X : K.In h) (Gh : h.Ns mainGlobals mg) (hfa : mg ("law" : Str) = some (.ref f)) (c : He.SaysD faL fnL K) :
    ∃ fd : FuncData, (∀ (s : Shared) (v : Value), BindsTo s fd ⟨[v], []⟩ [("_law_script", v)]) ∧ ∀ base : Heap, K.In base → base.Ns mainGlobals mg → GnOk P w K mg base CX0 11 f fd ["_law_script"] (sp_law K) := by
  obtain ⟨d0, F0⟩ := c.def_ 0 (d := dd_bits_of) rfl
  obtain ⟨d1, F1⟩ := c.def_ 1 (d := dd_span_of) rfl
  obtain ⟨d2, F2⟩ := c.def_ 2 (d := dd_has) rfl
  obtain ⟨d3, F3⟩ := c.def_ 3 (d := dd_is_at) rfl
  obtain ⟨d4, F4⟩ := c.def_ 4 (d := dd_holders) rfl
  obtain ⟨d5, F5⟩ := c.def_ 5 (d := dd_wished) rfl
  obtain ⟨d6, F6⟩ := c.def_ 6 (d := dd_held_by) rfl
  obtain ⟨d7, F7⟩ := c.def_ 7 (d := dd_l_bag) rfl
  obtain ⟨d8, F8⟩ := c.def_ 8 (d := dd_l_stirred) rfl
  obtain ⟨d9, F9⟩ := c.def_ 9 (d := dd_l_draw) rfl
  obtain ⟨d10, F10⟩ := c.def_ 10 (d := dd_l_alike) rfl
  obtain ⟨d11, F11⟩ := c.def_ 11 (d := dd_l_town) rfl
  obtain ⟨d12, F12⟩ := c.def_ 12 (d := dd_l_names) rfl
  obtain ⟨d13, F13⟩ := c.def_ 13 (d := dd_l_pattern) rfl
  obtain ⟨d14, F14⟩ := c.def_ 14 (d := dd_l_order) rfl
  obtain ⟨d15, F15⟩ := c.def_ 15 (d := dd_l_near) rfl
  obtain ⟨d16, F16⟩ := c.def_ 16 (d := dd_l_gates) rfl
  obtain ⟨d17, F17⟩ := c.def_ 17 (d := dd_l_wish) rfl
  obtain ⟨d18, F18⟩ := c.def_ 18 (d := dd_l_rows) rfl
  obtain ⟨d19, F19⟩ := c.def_ 19 (d := dd_l_span) rfl
  obtain ⟨d20, F20⟩ := c.def_ 20 (d := dd_l_plain) rfl
  obtain ⟨d21, F21⟩ := c.def_ 21 (d := dd_l_is_of) rfl
  obtain ⟨d22, F22⟩ := c.def_ 22 (d := dd_l_top) rfl
  obtain ⟨d23, F23⟩ := c.def_ 23 (d := dd_l_cuts) rfl
  obtain ⟨d24, F24⟩ := c.def_ 24 (d := dd_l_clash) rfl
  obtain ⟨d25, F25⟩ := c.def_ 25 (d := dd_l_quiet) rfl
  obtain ⟨d26, F26⟩ := c.def_ 26 (d := dd_l_mark) rfl
  obtain ⟨d27, F27⟩ := c.def_ 27 (d := dd_l_right) rfl
  obtain ⟨d28, F28⟩ := c.def_ 28 (d := dd_law) rfl
  have G0 := He.glo_ok X Gh (c.fact 0 (f := .glo "bits_of") rfl)
  have G1 := He.glo_ok X Gh (c.fact 1 (f := .glo "span_of") rfl)
  have G2 := He.glo_ok X Gh (c.fact 2 (f := .glo "has") rfl)
  have G3 := He.glo_ok X Gh (c.fact 3 (f := .glo "is_at") rfl)
  have G4 := He.glo_ok X Gh (c.fact 4 (f := .glo "holders") rfl)
  have G5 := He.glo_ok X Gh (c.fact 5 (f := .glo "wished") rfl)
  have G6 := He.glo_ok X Gh (c.fact 6 (f := .glo "held_by") rfl)
  have G7 := He.glo_ok X Gh (c.fact 7 (f := .glo "_law_bag") rfl)
  have G8 := He.glo_ok X Gh (c.fact 8 (f := .glo "_law_stirred") rfl)
  have G9 := He.glo_ok X Gh (c.fact 9 (f := .glo "_law_draw") rfl)
  have G10 := He.glo_ok X Gh (c.fact 10 (f := .glo "_law_alike") rfl)
  have G11 := He.glo_ok X Gh (c.fact 11 (f := .glo "_law_town") rfl)
  have G12 := He.glo_ok X Gh (c.fact 12 (f := .glo "_law_names") rfl)
  have G13 := He.glo_ok X Gh (c.fact 13 (f := .glo "_law_pattern") rfl)
  have G14 := He.glo_ok X Gh (c.fact 14 (f := .glo "_law_order") rfl)
  have G15 := He.glo_ok X Gh (c.fact 15 (f := .glo "_law_near") rfl)
  have G16 := He.glo_ok X Gh (c.fact 16 (f := .glo "_law_gates") rfl)
  have G17 := He.glo_ok X Gh (c.fact 17 (f := .glo "_law_wish") rfl)
  have G18 := He.glo_ok X Gh (c.fact 18 (f := .glo "_law_rows") rfl)
  have G19 := He.glo_ok X Gh (c.fact 19 (f := .glo "_law_span") rfl)
  have G20 := He.glo_ok X Gh (c.fact 20 (f := .glo "_law_plain") rfl)
  have G21 := He.glo_ok X Gh (c.fact 21 (f := .glo "_law_is_of") rfl)
  have G22 := He.glo_ok X Gh (c.fact 22 (f := .glo "_law_top") rfl)
  have G23 := He.glo_ok X Gh (c.fact 23 (f := .glo "_law_cuts") rfl)
  have G24 := He.glo_ok X Gh (c.fact 24 (f := .glo "_law_clash") rfl)
  have G25 := He.glo_ok X Gh (c.fact 25 (f := .glo "_law_quiet") rfl)
  have G26 := He.glo_ok X Gh (c.fact 26 (f := .glo "_law_mark") rfl)
  have G27 := He.glo_ok X Gh (c.fact 27 (f := .glo "_law_right") rfl)
  have G28 := He.glo_ok X Gh (c.fact 28 (f := .glo "law") rfl)
  obtain ⟨tk0, hk0⟩ := He.str_ok X Gh (c.fact 45 (f := .str "STAR" "*") rfl)
  let T : Txt K mg := { a_bits_of := _, d_bits_of := d0, F_bits_of := F0, g_bits_of := G0, a_span_of := _, d_span_of := d1, F_span_of := F1, g_span_of := G1, a_has := _, d_has := d2, F_has := F2, g_has := G2, a_is_at := _, d_is_at := d3, F_is_at := F3, g_is_at := G3, a_holders := _, d_holders := d4, F_holders := F4, g_holders := G4, a_wished := _, d_wished := d5, F_wished := F5, g_wished := G5, a_held_by := _, d_held_by := d6, F_held_by := F6, g_held_by := G6, a_l_bag := _, d_l_bag := d7, F_l_bag := F7, g_l_bag := G7, a_l_stirred := _, d_l_stirred := d8, F_l_stirred := F8, g_l_stirred := G8, a_l_draw := _, d_l_draw := d9, F_l_draw := F9, g_l_draw := G9, a_l_alike := _, d_l_alike := d10, F_l_alike := F10, g_l_alike := G10, a_l_town := _, d_l_town := d11, F_l_town := F11, g_l_town := G11, a_l_names := _, d_l_names := d12, F_l_names := F12, g_l_names := G12, a_l_pattern := _, d_l_pattern := d13, F_l_pattern := F13, g_l_pattern := G13, a_l_order := _, d_l_order := d14, F_l_order := F14, g_l_order := G14, a_l_near := _, d_l_near := d15, F_l_near := F15, g_l_near := G15, a_l_gates := _, d_l_gates := d16, F_l_gates := F16, g_l_gates := G16, a_l_wish := _, d_l_wish := d17, F_l_wish := F17, g_l_wish := G17, a_l_rows := _, d_l_rows := d18, F_l_rows := F18, g_l_rows := G18, a_l_span := _, d_l_span := d19, F_l_span := F19, g_l_span := G19, a_l_plain := _, d_l_plain := d20, F_l_plain := F20, g_l_plain := G20, a_l_is_of := _, d_l_is_of := d21, F_l_is_of := F21, g_l_is_of := G21, a_l_top := _, d_l_top := d22, F_l_top := F22, g_l_top := G22, a_l_cuts := _, d_l_cuts := d23, F_l_cuts := F23, g_l_cuts := G23, a_l_clash := _, d_l_clash := d24, F_l_clash := F24, g_l_clash := G24, a_l_quiet := _, d_l_quiet := d25, F_l_quiet := F25, g_l_quiet := G25, a_l_mark := _, d_l_mark := d26, F_l_mark := F26, g_l_mark := G26, a_l_right := _, d_l_right := d27, F_l_right := F27, g_l_right := G27, a_law := _, d_law := d28, F_law := F28, g_law := G28, n_abs := He.free_ok X Gh (c.fact 29 (f := .free "abs") rfl), n_all := He.free_ok X Gh (c.fact 30 (f := .free "all") rfl), n_any := He.free_ok X Gh (c.fact 31 (f := .free "any") rfl), n_bool := He.free_ok X Gh (c.fact 32 (f := .free "bool") rfl), n_int := He.free_ok X Gh (c.fact 33 (f := .free "int") rfl), n_isinstance := He.free_ok X Gh (c.fact 34 (f := .free "isinstance") rfl), n_len := He.free_ok X Gh (c.fact 35 (f := .free "len") rfl), n_list := He.free_ok X Gh (c.fact 36 (f := .free "list") rfl), n_max := He.free_ok X Gh (c.fact 37 (f := .free "max") rfl), n_min := He.free_ok X Gh (c.fact 38 (f := .free "min") rfl), n_range := He.free_ok X Gh (c.fact 39 (f := .free "range") rfl), n_repr := He.free_ok X Gh (c.fact 40 (f := .free "repr") rfl), n_set := He.free_ok X Gh (c.fact 41 (f := .free "set") rfl), n_sorted := He.free_ok X Gh (c.fact 42 (f := .free "sorted") rfl), n_str := He.free_ok X Gh (c.fact 43 (f := .free "str") rfl), n_tuple := He.free_ok X Gh (c.fact 44 (f := .free "tuple") rfl), t_STAR := tk0, k_STAR := hk0 }
  have e := hfa.symm.trans G28
  cases e
  have b := FunD.bindsA (ps := ["_law_script"]) F28 fun _ _ _ _ _ _ us hl => match us, hl with | [_], _ => rfl
  exact ⟨d28, fun s v => b s [v] rfl, fun base _ _ => ok_law T law_true⟩
end K13
open PySem.Calls PySem.W PySem PyProof.Rows
set_option maxHeartbeats 0 in
theorem PySem.Challenge.cw_wishnet_k13_what_holds_a_letter_holds : PySem.Challenge.rw_wishnet_k13_what_holds_a_letter.Holds := by
  w_on; o_law
  refine HandSHeadRun.head_any (r := OpenLaw.row PySem.Challenge.rw_wishnet_k13_what_holds_a_letter) (q := view (OpenLaw.row PySem.Challenge.rw_wishnet_k13_what_holds_a_letter).prog [32]) (H := K13.hk) (ob := K13.ob) (M := 4000) (loose := K13.looseL) (d := HandSHeadRun.topDef (OpenLaw.row PySem.Challenge.rw_wishnet_k13_what_holds_a_letter).prog 32) (kwd := []) K13.ob_eq
    (by kernel_rfl) (fun s => by kernel_rfl) K13.run_top (by kernel_rfl) (by kernel_rfl) (by kernel_rfl) (by rfl) (by first | assumption | decide +kernel) (by decide +kernel) ⟨rfl, rfl, rfl, rfl, rfl, by decide +kernel⟩ ?hw ?hc
  case hw => w_witness2
  case hc =>
    refine G.walk_ofG (l := PySem.Challenge.rw_wishnet_k13_what_holds_a_letter) (n := 63) (k := 11) (x := "_law_script") rfl (by decide) (by kernel_rfl) ⟨rfl, by decide, by decide⟩ ?F
    intro w mg fa h Y Gh hmg0
    obtain ⟨K, KX, c⟩ := Y
    have hmg : mg ("law" : PySem.Str) = some (.ref fa) := by
      have e : (HandSHeadRun.topDef (OpenLaw.row PySem.Challenge.rw_wishnet_k13_what_holds_a_letter).prog 32).name = ("law" : PySem.Str) := by kernel_rfl
      rw [← e]
      exact hmg0
    obtain ⟨fd, hb, hF⟩ := K13.facts (P := (PySem.Challenge.rw_wishnet_k13_what_holds_a_letter).prog) (w := w) KX Gh hmg c
    exact ⟨K, fd, K13.sp_law K, KX, hb, fun H a ns hl _ hS => ⟨a, ns, rfl, hS, hl, fun _ => rfl⟩, hF⟩
