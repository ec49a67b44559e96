import PyProof.Rows.All
import Wide.All
import OpenK.AllK
import Wide.FinOn
import HandS.ForMost
import HandS.Walk
import HandS.Wide
import HandS.WideBits
import HandS.StrMore
import HandS.SortInts
import HandS.Strs
import HandS.IsInst
import HandS.Defaults
import HandS.MakeKwOnly
import HandS.Head0
import HandS.Head1
import HandS.Head2
import HandS.HeadEnd
import HandS.HeadHook1
import HandS.HeadHook2
import HandS.Style
import HandS.SetFor
import KE.KDictZip
import KE.KTurns
import HandS.Iter
import HandS.SortRule
import PyProof.Rows.SortShellAny
import HandS.TupAny
import HandS.Deep
import HandS.Conv
import HandS.TupSets
import HandS.Dict
import HandS.DictTup
import KE.KDictDisplayH
import KE.KSortTupG
import KE.KDictList
import KE.KDictPairs
import KE.DataCmp
import KE.SortData
import PyProof.ListRange
import HandS.DictComp
import HandS.WordsExc
import PyProof.ReprRoads
import HandS.Zip
import KE.DataMinMax
import HandS.ReplaceDef
import HandS.ReplaceLit
import HandS.ReplaceList
import HandS.SetKeys
import HandS.NoneIn
import HandS.DictEq
import KE.GoesMore
import KE.KSortTup
import HandS.SortOrd
import PyProof.Rows.ReprShort
import PyProof.FitsInt
import Lean
import PySem.Challenge.RW_wishnet_k33_whole_no_fewer_rows_by_trial
set_option Elab.async false
set_option linter.all false
set_option maxRecDepth 100000
set_option maxHeartbeats 4000000
set_option synthInstance.maxSize 1000
set_option synthInstance.maxHeartbeats 400000
/-! My base, part 1: data, their standing in a heap, growth of heaps. -/
namespace G
open PySem PySem.Spec L2 PyProof.Rows TL

/-! ### data by type -/
class Enc (α : Type) where
  d : α → PyData
instance : Enc Int := ⟨.int⟩
instance : Enc Bool := ⟨.bool⟩
instance : Enc Str := ⟨.str⟩
instance : Enc Unit := ⟨fun _ => .none⟩
def encO {α : Type} (f : α → PyData) : Option α → PyData
  | none => .none
  | some x => f x
instance {α : Type} [Enc α] : Enc (Option α) := ⟨encO Enc.d⟩
instance {α : Type} [Enc α] : Enc (List α) := ⟨fun xs => .list (xs.map Enc.d)⟩
instance {α β : Type} [Enc α] [Enc β] : Enc (α × β) := ⟨fun p => .tuple [Enc.d p.1, Enc.d p.2]⟩
structure T3 (α β γ : Type) where
  a : α
  b : β
  c : γ
  deriving DecidableEq
structure T4 (α β γ δ : Type) where
  a : α
  b : β
  c : γ
  e : δ
  deriving DecidableEq
structure T5 (α β γ δ ε : Type) where
  a : α
  b : β
  c : γ
  e : δ
  f : ε
  deriving DecidableEq
structure VT (α : Type) where
  l : List α
  deriving DecidableEq
instance {α β γ : Type} [Enc α] [Enc β] [Enc γ] : Enc (T3 α β γ) := ⟨fun p => .tuple [Enc.d p.a, Enc.d p.b, Enc.d p.c]⟩
instance {α β γ δ : Type} [Enc α] [Enc β] [Enc γ] [Enc δ] : Enc (T4 α β γ δ) := ⟨fun p => .tuple [Enc.d p.a, Enc.d p.b, Enc.d p.c, Enc.d p.e]⟩
instance {α β γ δ ε : Type} [Enc α] [Enc β] [Enc γ] [Enc δ] [Enc ε] : Enc (T5 α β γ δ ε) := ⟨fun p => .tuple [Enc.d p.a, Enc.d p.b, Enc.d p.c, Enc.d p.e, Enc.d p.f]⟩
instance {α : Type} [Enc α] : Enc (VT α) := ⟨fun p => .tuple (p.l.map Enc.d)⟩

/-- a text that may be handled: no longer than the line, of signs -/
structure GS (x : Str) : Prop where
  len : x.length ≤ sizeLine
  ok : PyData.strOk x = true

mutual
inductive Rp (K : PySem.W.Frag) (F : Hp) : V → PyData → Prop
  | non : Rp K F .non .none
  | bl (b : Bool) : Rp K F (.bl b) (.bool b)
  | int (i : Int) : Rp K F (.int i) (.int i)
  | str (x : Str) : GS x → Rp K F (.str x) (.str x)
  | lst {a : Addr} {xs : List V} {ds : List PyData} : SqL K F a xs → xs.length ≤ sizeLine → RpA K F xs ds → Rp K F (.ref a) (.list ds)
  | tup {a : Addr} {xs : List V} {ds : List PyData} : F a = some (.tup xs) → xs.length ≤ sizeLine → RpA K F xs ds → Rp K F (.ref a) (.tuple ds)
inductive RpA (K : PySem.W.Frag) (F : Hp) : List V → List PyData → Prop
  | nil : RpA K F [] []
  | cons {v : V} {vs : List V} {d : PyData} {ds : List PyData} : Rp K F v d → RpA K F vs ds → RpA K F (v :: vs) (d :: ds)
end
/-- v stands for x -/
abbrev R {α : Type} [Enc α] (K : PySem.W.Frag) (F : Hp) (v : V) (x : α) : Prop := Rp K F v (Enc.d x)
/-- the values vs stand for the things xs -/
abbrev RL {α : Type} [Enc α] (K : PySem.W.Frag) (F : Hp) (vs : List V) (xs : List α) : Prop := RpA K F vs (xs.map Enc.d)

section
variable {K : PySem.W.Frag} {F F' H H' : Hp} {v : V} {vs : List V} {d : PyData} {ds : List PyData} {a p : Addr} {xs : List V}
theorem SqT_mono (e : Same H H') (h : SqT K H a xs) : SqT K H' a xs := by
  rcases h with (h | ⟨o, h⟩) | h
  · exact .inl (.inl (e _ _ h))
  · exact .inl (.inr ⟨o, e _ _ h⟩)
  · exact .inr h
mutual
theorem Rp.mono (e : Same F F') : ∀ (d : PyData) (v : V), Rp K F v d → Rp K F' v d
  | .none, _, h => by cases h; exact .non
  | .bool b, _, h => by cases h; exact .bl b
  | .int i, _, h => by cases h; exact .int i
  | .str x, _, h => by cases h with | str _ g => exact .str x g
  | .list ds, _, h => by cases h with | lst hs hl ha => exact .lst (e.seq hs) hl (RpA.mono e ds _ ha)
  | .tuple ds, _, h => by cases h with | tup hs hl ha => exact .tup (e _ _ hs) hl (RpA.mono e ds _ ha)
  | .dict _, _, h => by cases h
theorem RpA.mono (e : Same F F') : ∀ (ds : List PyData) (vs : List V), RpA K F vs ds → RpA K F' vs ds
  | [], _, h => by cases h; exact .nil
  | d :: ds, _, h => by cases h with | cons h1 h2 => exact .cons (Rp.mono e d _ h1) (RpA.mono e ds _ h2)
end
theorem Rp.up (h : Rp K F v d) (e : Same F F') : Rp K F' v d := Rp.mono e d v h
theorem RpA.up (h : RpA K F vs ds) (e : Same F F') : RpA K F' vs ds := RpA.mono e ds vs h
mutual
theorem Rp.dp : ∀ (d : PyData) (v : V), Rp K F v d → Dp K F v d
  | .none, _, h => by cases h; exact .non
  | .bool b, _, h => by cases h; exact .bl b
  | .int i, _, h => by cases h; exact .int i
  | .str x, _, h => by cases h; exact .str x
  | .list ds, _, h => by cases h with | lst hs hl ha => exact .lst hs (RpA.dp ds _ ha)
  | .tuple ds, _, h => by cases h with | tup hs hl ha => exact .tup (.inl (.inl hs)) (RpA.dp ds _ ha)
  | .dict _, _, h => by cases h
theorem RpA.dp : ∀ (ds : List PyData) (vs : List V), RpA K F vs ds → DpAll K F vs ds
  | [], _, h => by cases h; exact .nil
  | d :: ds, _, h => by cases h with | cons h1 h2 => exact .cons (Rp.dp d _ h1) (RpA.dp ds _ h2)
end
mutual
theorem Rp.lay : ∀ (d : PyData) (v : V), Rp K F v d → d.canLay0 = true
  | .none, _, _ => rfl
  | .bool b, _, _ => rfl
  | .int i, _, _ => rfl
  | .str x, _, h => by cases h with | str _ g => exact g.ok
  | .list ds, _, h => by cases h with | lst hs hl ha => exact RpA.lay ds _ ha
  | .tuple ds, _, h => by cases h with | tup hs hl ha => exact RpA.lay ds _ ha
  | .dict _, _, h => by cases h
theorem RpA.lay : ∀ (ds : List PyData) (vs : List V), RpA K F vs ds → PyData.canLayAll0 ds = true
  | [], _, _ => rfl
  | d :: ds, _, h => by cases h with | cons h1 h2 => exact Bool.and_eq_true_iff.mpr ⟨Rp.lay d _ h1, RpA.lay ds _ h2⟩
end

/-! ### what stands at a value, by its type -/
theorem RpA.length : ∀ {ds : List PyData} {vs : List V}, RpA K F vs ds → vs.length = ds.length
  | [], _, h => by cases h; rfl
  | d :: ds, _, h => by cases h with | cons h1 h2 => exact congrArg Nat.succ h2.length
theorem RpA.get : ∀ {ds : List PyData} {vs : List V} {i : Nat} {v : V}, RpA K F vs ds → vs[i]? = some v → ∃ d, ds[i]? = some d ∧ Rp K F v d
  | [], _, _, _, h, e => by cases h; simp at e
  | d :: ds, _, 0, _, h, e => by cases h with | cons h1 h2 => exact ⟨d, rfl, by simpa using (Option.some.inj e) ▸ h1⟩
  | d :: ds, _, i + 1, v, h, e => by
    cases h with
    | cons h1 h2 =>
      obtain ⟨d', e1, e2⟩ := h2.get (i := i) (v := v) (by simpa using e)
      exact ⟨d', by simpa using e1, e2⟩
theorem RpA.back : ∀ {ds : List PyData} {vs : List V} {i : Nat} {d : PyData}, RpA K F vs ds → ds[i]? = some d → ∃ v, vs[i]? = some v ∧ Rp K F v d
  | [], _, _, _, h, e => by simp at e
  | d :: ds, _, 0, _, h, e => by
    cases h with
    | cons h1 h2 =>
      have e' := Option.some.inj e
      subst e'
      exact ⟨_, rfl, h1⟩
  | d :: ds, _, i + 1, d', h, e => by
    cases h with
    | cons h1 h2 =>
      obtain ⟨v, e1, e2⟩ := h2.back (i := i) (d := d') (by simpa using e)
      exact ⟨v, by simpa using e1, e2⟩
theorem RpA.append : ∀ {ds es : List PyData} {vs us : List V}, RpA K F vs ds → RpA K F us es → RpA K F (vs ++ us) (ds ++ es)
  | [], _, _, _, h, g => by cases h; exact g
  | d :: ds, _, _, _, h, g => by cases h with | cons h1 h2 => exact .cons h1 (h2.append g)
theorem RpA.take : ∀ {ds : List PyData} {vs : List V} (n : Nat), RpA K F vs ds → RpA K F (vs.take n) (ds.take n)
  | _, _, 0, _ => .nil
  | _, _, _ + 1, .nil => .nil
  | _, _, n + 1, .cons h t => .cons h (RpA.take n t)
theorem RpA.drop : ∀ {ds : List PyData} {vs : List V} (n : Nat), RpA K F vs ds → RpA K F (vs.drop n) (ds.drop n)
  | _, _, 0, h => h
  | _, _, _ + 1, .nil => .nil
  | _, _, n + 1, .cons _ t => RpA.drop n t
theorem RpA.set : ∀ {ds : List PyData} {vs : List V} (n : Nat), Rp K F v d → RpA K F vs ds → RpA K F (vs.set n v) (ds.set n d)
  | _, _, _, _, .nil => .nil
  | _, _, 0, r, .cons _ t => .cons r t
  | _, _, n + 1, r, .cons h t => .cons h (RpA.set n r t)
theorem RpA.dropLast {ds : List PyData} {vs : List V} (h : RpA K F vs ds) : RpA K F vs.dropLast ds.dropLast := by
  rw [List.dropLast_eq_take, List.dropLast_eq_take, h.length]
  exact h.take _
theorem RpA.reverse : ∀ {ds : List PyData} {vs : List V}, RpA K F vs ds → RpA K F vs.reverse ds.reverse
  | [], _, h => by cases h; exact .nil
  | d :: ds, _, h => by
    cases h with
    | cons h1 h2 =>
      rw [List.reverse_cons, List.reverse_cons]
      exact h2.reverse.append (.cons h1 .nil)

section
variable {α β γ δ ε : Type} [Enc α] [Enc β] [Enc γ] [Enc δ] [Enc ε]
theorem R.int_v {i : Int} (h : R K F v i) : v = .int i := by cases h; rfl
theorem R.bl_v {b : Bool} (h : R K F v b) : v = .bl b := by cases h; rfl
theorem R.str_v {x : Str} (h : R K F v x) : v = .str x ∧ GS x := by cases h with | str _ g => exact ⟨rfl, g⟩
theorem R.non_v (h : R K F v (none : Option α)) : v = .non := by
  have h' : Rp K F v .none := h
  cases h'
  rfl
theorem R.lst_v {xs : List α} (h : R K F v xs) : ∃ p ws, v = .ref p ∧ SqL K F p ws ∧ ws.length ≤ sizeLine ∧ RL K F ws xs := by
  have h' : Rp K F v (.list (xs.map Enc.d)) := h
  cases h' with | lst h1 h2 h3 => exact ⟨_, _, rfl, h1, h2, h3⟩
theorem R.vt_v {x : VT α} (h : R K F v x) : ∃ p ws, v = .ref p ∧ SqT K F p ws ∧ ws.length ≤ sizeLine ∧ RL K F ws x.l := by
  have h' : Rp K F v (.tuple (x.l.map Enc.d)) := h
  cases h' with | tup h1 h2 h3 => exact ⟨_, _, rfl, .inl (.inl h1), h2, h3⟩
theorem RpA.one {d1 : PyData} (h : RpA K F vs [d1]) : ∃ v1, vs = [v1] ∧ Rp K F v1 d1 := by
  cases h with | cons h1 h2 => cases h2; exact ⟨_, rfl, h1⟩
theorem RpA.two {d1 d2 : PyData} (h : RpA K F vs [d1, d2]) : ∃ v1 v2, vs = [v1, v2] ∧ Rp K F v1 d1 ∧ Rp K F v2 d2 := by
  cases h with | cons h1 h2 => obtain ⟨v2, rfl, r⟩ := h2.one; exact ⟨_, _, rfl, h1, r⟩
theorem RpA.three {d1 d2 d3 : PyData} (h : RpA K F vs [d1, d2, d3]) : ∃ v1 v2 v3, vs = [v1, v2, v3] ∧ Rp K F v1 d1 ∧ Rp K F v2 d2 ∧ Rp K F v3 d3 := by
  cases h with | cons h1 h2 => obtain ⟨v2, v3, rfl, r⟩ := h2.two; exact ⟨_, _, _, rfl, h1, r⟩
theorem RpA.four {d1 d2 d3 d4 : PyData} (h : RpA K F vs [d1, d2, d3, d4]) : ∃ v1 v2 v3 v4, vs = [v1, v2, v3, v4] ∧ Rp K F v1 d1 ∧ Rp K F v2 d2 ∧ Rp K F v3 d3 ∧ Rp K F v4 d4 := by
  cases h with | cons h1 h2 => obtain ⟨v2, v3, v4, rfl, r⟩ := h2.three; exact ⟨_, _, _, _, rfl, h1, r⟩
theorem RpA.five {d1 d2 d3 d4 d5 : PyData} (h : RpA K F vs [d1, d2, d3, d4, d5]) : ∃ v1 v2 v3 v4 v5, vs = [v1, v2, v3, v4, v5] ∧ Rp K F v1 d1 ∧ Rp K F v2 d2 ∧ Rp K F v3 d3 ∧ Rp K F v4 d4 ∧ Rp K F v5 d5 := by
  cases h with | cons h1 h2 => obtain ⟨v2, v3, v4, v5, rfl, r⟩ := h2.four; exact ⟨_, _, _, _, _, rfl, h1, r⟩
theorem R.p2_v {x : α × β} (h : R K F v x) : ∃ p v1 v2, v = .ref p ∧ SqT K F p [v1, v2] ∧ R K F v1 x.1 ∧ R K F v2 x.2 := by
  have h' : Rp K F v (.tuple [Enc.d x.1, Enc.d x.2]) := h
  cases h' with | tup h1 h2 h3 => obtain ⟨v1, v2, rfl, r1, r2⟩ := h3.two; exact ⟨_, _, _, rfl, .inl (.inl h1), r1, r2⟩
theorem R.p3_v {x : T3 α β γ} (h : R K F v x) : ∃ p v1 v2 v3, v = .ref p ∧ SqT K F p [v1, v2, v3] ∧ R K F v1 x.a ∧ R K F v2 x.b ∧ R K F v3 x.c := by
  have h' : Rp K F v (.tuple [Enc.d x.a, Enc.d x.b, Enc.d x.c]) := h
  cases h' with | tup h1 h2 h3 => obtain ⟨v1, v2, v3, rfl, r⟩ := h3.three; exact ⟨_, _, _, _, rfl, .inl (.inl h1), r⟩
theorem R.p4_v {x : T4 α β γ δ} (h : R K F v x) : ∃ p v1 v2 v3 v4, v = .ref p ∧ SqT K F p [v1, v2, v3, v4] ∧ R K F v1 x.a ∧ R K F v2 x.b ∧ R K F v3 x.c ∧ R K F v4 x.e := by
  have h' : Rp K F v (.tuple [Enc.d x.a, Enc.d x.b, Enc.d x.c, Enc.d x.e]) := h
  cases h' with | tup h1 h2 h3 => obtain ⟨v1, v2, v3, v4, rfl, r⟩ := h3.four; exact ⟨_, _, _, _, _, rfl, .inl (.inl h1), r⟩
theorem R.p5_v {x : T5 α β γ δ ε} (h : R K F v x) : ∃ p v1 v2 v3 v4 v5, v = .ref p ∧ SqT K F p [v1, v2, v3, v4, v5] ∧ R K F v1 x.a ∧ R K F v2 x.b ∧ R K F v3 x.c ∧ R K F v4 x.e ∧ R K F v5 x.f := by
  have h' : Rp K F v (.tuple [Enc.d x.a, Enc.d x.b, Enc.d x.c, Enc.d x.e, Enc.d x.f]) := h
  cases h' with | tup h1 h2 h3 => obtain ⟨v1, v2, v3, v4, v5, rfl, r⟩ := h3.five; exact ⟨_, _, _, _, _, _, rfl, .inl (.inl h1), r⟩
theorem R.vt_s {x : VT α} (h : R K F v x) : ∃ p ws, v = .ref p ∧ F p = some (.tup ws) ∧ ws.length ≤ sizeLine ∧ RL K F ws x.l := by
  have h' : Rp K F v (.tuple (x.l.map Enc.d)) := h
  cases h' with | tup h1 h2 h3 => exact ⟨_, _, rfl, h1, h2, h3⟩
theorem R.p2_s {x : α × β} (h : R K F v x) : ∃ p v1 v2, v = .ref p ∧ F p = some (.tup [v1, v2]) ∧ R K F v1 x.1 ∧ R K F v2 x.2 := by
  have h' : Rp K F v (.tuple [Enc.d x.1, Enc.d x.2]) := h
  cases h' with | tup h1 h2 h3 => obtain ⟨v1, v2, rfl, r1, r2⟩ := h3.two; exact ⟨_, _, _, rfl, h1, r1, r2⟩
theorem R.p3_s {x : T3 α β γ} (h : R K F v x) : ∃ p v1 v2 v3, v = .ref p ∧ F p = some (.tup [v1, v2, v3]) ∧ R K F v1 x.a ∧ R K F v2 x.b ∧ R K F v3 x.c := by
  have h' : Rp K F v (.tuple [Enc.d x.a, Enc.d x.b, Enc.d x.c]) := h
  cases h' with | tup h1 h2 h3 => obtain ⟨v1, v2, v3, rfl, r⟩ := h3.three; exact ⟨_, _, _, _, rfl, h1, r⟩
theorem R.p4_s {x : T4 α β γ δ} (h : R K F v x) : ∃ p v1 v2 v3 v4, v = .ref p ∧ F p = some (.tup [v1, v2, v3, v4]) ∧ R K F v1 x.a ∧ R K F v2 x.b ∧ R K F v3 x.c ∧ R K F v4 x.e := by
  have h' : Rp K F v (.tuple [Enc.d x.a, Enc.d x.b, Enc.d x.c, Enc.d x.e]) := h
  cases h' with | tup h1 h2 h3 => obtain ⟨v1, v2, v3, v4, rfl, r⟩ := h3.four; exact ⟨_, _, _, _, _, rfl, h1, r⟩
theorem R.p5_s {x : T5 α β γ δ ε} (h : R K F v x) : ∃ p v1 v2 v3 v4 v5, v = .ref p ∧ F p = some (.tup [v1, v2, v3, v4, v5]) ∧ R K F v1 x.a ∧ R K F v2 x.b ∧ R K F v3 x.c ∧ R K F v4 x.e ∧ R K F v5 x.f := by
  have h' : Rp K F v (.tuple [Enc.d x.a, Enc.d x.b, Enc.d x.c, Enc.d x.e, Enc.d x.f]) := h
  cases h' with | tup h1 h2 h3 => obtain ⟨v1, v2, v3, v4, v5, rfl, r⟩ := h3.five; exact ⟨_, _, _, _, _, _, rfl, h1, r⟩
/-- making them -/
theorem R.mkl {xs : List α} (h1 : SqL K F p vs) (h2 : vs.length ≤ sizeLine) (h3 : RL K F vs xs) : R K F (.ref p) xs := .lst h1 h2 h3
theorem R.mkvt {xs : List α} (h1 : F p = some (.tup vs)) (h2 : vs.length ≤ sizeLine) (h3 : RL K F vs xs) : R K F (.ref p) (VT.mk xs) := .tup h1 h2 h3
theorem R.mk2 {v1 v2 : V} {x : α} {y : β} (h1 : F p = some (.tup [v1, v2])) (r1 : R K F v1 x) (r2 : R K F v2 y) : R K F (.ref p) (x, y) := .tup h1 (by show 2 ≤ sizeLine; decide) (.cons r1 (.cons r2 .nil))
theorem R.mk3 {v1 v2 v3 : V} {x : α} {y : β} {z : γ} (h1 : F p = some (.tup [v1, v2, v3])) (r1 : R K F v1 x) (r2 : R K F v2 y) (r3 : R K F v3 z) : R K F (.ref p) (T3.mk x y z) := .tup h1 (by show 3 ≤ sizeLine; decide) (.cons r1 (.cons r2 (.cons r3 .nil)))
theorem R.mk4 {v1 v2 v3 v4 : V} {x : α} {y : β} {z : γ} {u : δ} (h1 : F p = some (.tup [v1, v2, v3, v4])) (r1 : R K F v1 x) (r2 : R K F v2 y) (r3 : R K F v3 z) (r4 : R K F v4 u) : R K F (.ref p) (T4.mk x y z u) := .tup h1 (by show 4 ≤ sizeLine; decide) (.cons r1 (.cons r2 (.cons r3 (.cons r4 .nil))))
theorem R.mk5 {v1 v2 v3 v4 v5 : V} {x : α} {y : β} {z : γ} {u : δ} {t : ε} (h1 : F p = some (.tup [v1, v2, v3, v4, v5])) (r1 : R K F v1 x) (r2 : R K F v2 y) (r3 : R K F v3 z) (r4 : R K F v4 u) (r5 : R K F v5 t) : R K F (.ref p) (T5.mk x y z u t) := .tup h1 (by show 5 ≤ sizeLine; decide) (.cons r1 (.cons r2 (.cons r3 (.cons r4 (.cons r5 .nil)))))
theorem RL.nil : RL K F [] ([] : List α) := RpA.nil
theorem RL.cons {x : α} {xs : List α} (r : R K F v x) (rs : RL K F vs xs) : RL K F (v :: vs) (x :: xs) := RpA.cons r rs
theorem RL.snoc {x : α} {xs : List α} (rs : RL K F vs xs) (r : R K F v x) : RL K F (vs ++ [v]) (xs ++ [x]) := by
  show RpA K F _ _
  rw [List.map_append]
  exact RpA.append rs (.cons r .nil)
theorem RL.app {us : List V} {xs ys : List α} (rs : RL K F vs xs) (r : RL K F us ys) : RL K F (vs ++ us) (xs ++ ys) := by
  show RpA K F _ _
  rw [List.map_append]
  exact RpA.append rs r
theorem RL.len {xs : List α} (rs : RL K F vs xs) : vs.length = xs.length := by
  have h := RpA.length rs
  rwa [List.length_map] at h
theorem RL.get {xs : List α} {i : Nat} (rs : RL K F vs xs) (e : vs[i]? = some v) : ∃ x, xs[i]? = some x ∧ R K F v x := by
  obtain ⟨d, e1, r⟩ := RpA.get rs e
  rw [List.getElem?_map] at e1
  cases h : xs[i]? with
  | none => rw [h] at e1; cases e1
  | some x =>
    rw [h] at e1
    have e2 : Enc.d x = d := Option.some.inj e1
    subst e2
    exact ⟨x, rfl, r⟩
theorem RL.back {xs : List α} {i : Nat} {x : α} (rs : RL K F vs xs) (e : xs[i]? = some x) : ∃ v, vs[i]? = some v ∧ R K F v x :=
  RpA.back rs (by rw [List.getElem?_map, e]; rfl)
theorem RL.at {xs : List α} {i : Int} {x : α} (rs : RL K F vs xs) (e : atI xs i = some x) : ∃ v, atI vs i = some v ∧ R K F v x := by
  unfold atI at e ⊢
  rw [rs.len]
  cases h : ixN xs.length i with
  | none => rw [h] at e; cases e
  | some j =>
    rw [h] at e
    exact rs.back e
theorem RL.cut {xs : List α} (lo hi : Option Int) (rs : RL K F vs xs) : RL K F (cutV vs lo hi) ((xs.drop (HT.sIx xs.length 0 lo)).take (HT.sIx xs.length xs.length hi - HT.sIx xs.length 0 lo)) := by
  unfold cutV
  rw [rs.len]
  show RpA K F _ _
  rw [List.map_take, List.map_drop]
  exact RpA.take _ (RpA.drop _ rs)
theorem RL.set {xs : List α} {x : α} (i : Nat) (r : R K F v x) (rs : RL K F vs xs) : RL K F (vs.set i v) (xs.set i x) := by
  show RpA K F _ _
  rw [List.map_set]
  exact RpA.set i r rs
theorem RL.rev {xs : List α} (rs : RL K F vs xs) : RL K F vs.reverse xs.reverse := by
  show RpA K F _ _
  rw [List.map_reverse]
  exact RpA.reverse rs
theorem RL.init {xs : List α} (rs : RL K F vs xs) : RL K F vs.dropLast xs.dropLast := by
  show RpA K F _ _
  rw [List.map_dropLast]
  exact RpA.dropLast rs
theorem RL.ints {xs : List Int} (rs : RL K F vs xs) : vs = xs.map V.int := by
  induction xs generalizing vs with
  | nil => cases rs; rfl
  | cons x xs ih => cases rs with | cons r t => rw [R.int_v r, ih t]; rfl
theorem RL.ofInts (xs : List Int) : RL K F (xs.map V.int) xs := by
  induction xs with
  | nil => exact .nil
  | cons x xs ih => exact .cons (.int x) ih
theorem RL.bls {xs : List Bool} (rs : RL K F vs xs) : vs = xs.map V.bl := by
  induction xs generalizing vs with
  | nil => cases rs; rfl
  | cons x xs ih => cases rs with | cons r t => rw [R.bl_v r, ih t]; rfl
theorem RL.strs {xs : List Str} (rs : RL K F vs xs) : vs = xs.map V.str ∧ ∀ x ∈ xs, GS x := by
  induction xs generalizing vs with
  | nil => cases rs; exact ⟨rfl, fun _ h => nomatch h⟩
  | cons x xs ih =>
    cases rs with
    | cons r t =>
      obtain ⟨e, g⟩ := R.str_v r
      obtain ⟨e2, g2⟩ := ih t
      refine ⟨by rw [e, e2]; rfl, fun y hy => ?_⟩
      rcases List.mem_cons.mp hy with rfl | hy
      · exact g
      · exact g2 y hy
theorem RL.ofStrs (xs : List Str) (h : ∀ x ∈ xs, GS x) : RL K F (xs.map V.str) xs := by
  induction xs with
  | nil => exact .nil
  | cons x xs ih => exact .cons (.str x (h x (List.mem_cons_self ..))) (ih fun y hy => h y (List.mem_cons_of_mem _ hy))
end
end

/-! ### how deep a type's data go -/
class Dep (α : Type) [Enc α] where
  n : Nat
  le : ∀ x : α, (Enc.d x).depth ≤ n
instance : Dep Int := ⟨0, fun _ => Nat.le_refl _⟩
instance : Dep Bool := ⟨0, fun _ => Nat.le_refl _⟩
instance : Dep Str := ⟨0, fun _ => Nat.le_refl _⟩
instance {α : Type} [Enc α] [Dep α] : Dep (Option α) := ⟨Dep.n α, fun o => by
  cases o with
  | none => exact Nat.zero_le _
  | some x => exact Dep.le x⟩
theorem depthAll_le {α : Type} [Enc α] [Dep α] : ∀ xs : List α, PyData.depthAll (xs.map Enc.d) ≤ Dep.n α
  | [] => Nat.zero_le _
  | x :: xs => Nat.max_le.mpr ⟨Dep.le x, depthAll_le xs⟩
instance {α : Type} [Enc α] [Dep α] : Dep (List α) := ⟨Dep.n α + 1, fun xs => Nat.succ_le_succ (depthAll_le xs)⟩
instance {α : Type} [Enc α] [Dep α] : Dep (VT α) := ⟨Dep.n α + 1, fun xs => Nat.succ_le_succ (depthAll_le xs.l)⟩
instance {α β : Type} [Enc α] [Enc β] [Dep α] [Dep β] : Dep (α × β) := ⟨max (Dep.n α) (Dep.n β) + 1, fun p => by
  have h1 := Dep.le p.1
  have h2 := Dep.le p.2
  show PyData.depthAll [Enc.d p.1, Enc.d p.2] + 1 ≤ _
  simp only [PyData.depthAll]
  omega⟩
instance {α β γ : Type} [Enc α] [Enc β] [Enc γ] [Dep α] [Dep β] [Dep γ] : Dep (T3 α β γ) := ⟨max (Dep.n α) (max (Dep.n β) (Dep.n γ)) + 1, fun p => by
  have h1 := Dep.le p.a
  have h2 := Dep.le p.b
  have h3 := Dep.le p.c
  show PyData.depthAll [Enc.d p.a, Enc.d p.b, Enc.d p.c] + 1 ≤ _
  simp only [PyData.depthAll]
  omega⟩
instance {α β γ δ : Type} [Enc α] [Enc β] [Enc γ] [Enc δ] [Dep α] [Dep β] [Dep γ] [Dep δ] : Dep (T4 α β γ δ) := ⟨max (Dep.n α) (max (Dep.n β) (max (Dep.n γ) (Dep.n δ))) + 1, fun p => by
  have h1 := Dep.le p.a
  have h2 := Dep.le p.b
  have h3 := Dep.le p.c
  have h4 := Dep.le p.e
  show PyData.depthAll [Enc.d p.a, Enc.d p.b, Enc.d p.c, Enc.d p.e] + 1 ≤ _
  simp only [PyData.depthAll]
  omega⟩
instance {α β γ δ ε : Type} [Enc α] [Enc β] [Enc γ] [Enc δ] [Enc ε] [Dep α] [Dep β] [Dep γ] [Dep δ] [Dep ε] : Dep (T5 α β γ δ ε) := ⟨max (Dep.n α) (max (Dep.n β) (max (Dep.n γ) (max (Dep.n δ) (Dep.n ε)))) + 1, fun p => by
  have h1 := Dep.le p.a
  have h2 := Dep.le p.b
  have h3 := Dep.le p.c
  have h4 := Dep.le p.e
  have h5 := Dep.le p.f
  show PyData.depthAll [Enc.d p.a, Enc.d p.b, Enc.d p.c, Enc.d p.e, Enc.d p.f] + 1 ≤ _
  simp only [PyData.depthAll]
  omega⟩
theorem R.shaped {α : Type} [Enc α] [Dep α] {K : PySem.W.Frag} {F : Hp} {v : V} {x : α} (r : R K F v x) (h : Dep.n α ≤ 64 := by decide) : SeqAt.shaped (Enc.d x) = true :=
  Bool.and_eq_true_iff.mpr ⟨Rp.lay _ _ r, decide_eq_true (Nat.le_trans (Dep.le x) h)⟩
/-- equal, as Python compares -/
def eqD {α : Type} [Enc α] (x y : α) : Bool := PyData.eqv (Enc.d x) (Enc.d y)

/-! ### growth: F is what stays as it is, H all that stands; M may be changed -/
structure Gr (M : Addr → Prop) (F0 H0 F H : Hp) : Prop where
  fh : Same F H
  ff : Same F0 F
  keep : ∀ a o, ¬ M a → H0 a = some o → H a = some o
  there : ∀ a, H0 a ≠ none → H a ≠ none
  new : ∀ a, H0 a ≠ none → F0 a = none → F a = none ∨ ∃ ts, H a = some (.tup ts)
abbrev M0 : Addr → Prop := fun _ => False
section
variable {M : Addr → Prop} {F0 H0 F H F' H' : Hp} {p a : Addr} {o : HO} {K : PySem.W.Frag} {xs : List V}
theorem Gr.refl (h : Same F H) : Gr M F H F H := ⟨h, Same.refl _, fun _ _ _ e => e, fun _ e => e, fun _ _ e => .inl e⟩
theorem Gr.trans (g : Gr M F0 H0 F H) (k : Gr M F H F' H') : Gr M F0 H0 F' H' :=
  ⟨k.fh, g.ff.trans k.ff, fun a o n e => k.keep a o n (g.keep a o n e), fun a e => k.there a (g.there a e), fun a e n => by
    cases q : F a with
    | none => exact k.new a (g.there a e) q
    | some o =>
      rcases g.new a e n with z | ⟨ts, z⟩
      · rw [z] at q; cases q
      · have := g.fh a o q
        rw [z] at this; cases this
        exact .inr ⟨ts, k.fh _ _ (k.ff _ _ q)⟩⟩
theorem Gr.of0 (g : Gr M0 F H F' H') : Gr M F H F' H' := ⟨g.fh, g.ff, fun a o _ e => g.keep a o id e, g.there, g.new⟩
theorem Gr.none0 (g : Gr M F0 H0 F H) (h : H a = none) : H0 a = none := by
  cases e : H0 a with
  | none => rfl
  | some o => exact absurd h (g.there a (by rw [e]; simp))
theorem Gr.noneF (g : Gr M F0 H0 F H) (h : H a = none) : F a = none := by
  cases e : F a with
  | none => rfl
  | some o => rw [g.fh a o e] at h; cases h
theorem same_new (h : F p = none) : Same F (upd F p o) := fun b u e => by rw [upd_ne (ne_of_none e h)]; exact e
theorem same_upd2 (h : Same F H) (hp : F p = none) : Same (upd F p o) (upd H p o) := fun b u e => by
  by_cases hb : b = p
  · subst hb; rw [upd_same] at e ⊢; exact e
  · rw [upd_ne hb] at e ⊢; exact h b u e
theorem same_out (h : Same F H) (hp : F p = none) : Same F (upd H p o) := fun b u e => by
  rw [upd_ne (ne_of_none e hp)]
  exact h b u e
/-- a new thing that stays as it is -/
theorem Gr.frz (g : Gr M F0 H0 F H) (h : H p = none) : Gr M F0 H0 (upd F p o) (upd H p o) :=
  ⟨same_upd2 g.fh (g.noneF h), g.ff.trans (same_new (g.noneF h)), fun a u n e => by rw [upd_ne (ne_of_none (g.keep a u n e) h)]; exact g.keep a u n e,
    fun a e => by
      by_cases ha : a = p
      · subst ha; rw [upd_same]; simp
      · rw [upd_ne ha]; exact g.there a e,
    fun a e n => by
      have ha : a ≠ p := fun z => by subst z; exact e (g.none0 h)
      rw [upd_ne ha, upd_ne ha]; exact g.new a e n⟩
/-- a new thing that may be changed -/
theorem Gr.own (g : Gr M F0 H0 F H) (h : H p = none) : Gr M F0 H0 F (upd H p o) :=
  ⟨same_out g.fh (g.noneF h), g.ff, fun a u n e => by rw [upd_ne (ne_of_none (g.keep a u n e) h)]; exact g.keep a u n e,
    fun a e => by
      by_cases ha : a = p
      · subst ha; rw [upd_same]; simp
      · rw [upd_ne ha]; exact g.there a e, fun a e n => by
      have ha : a ≠ p := fun z => by subst z; exact e (g.none0 h)
      rw [upd_ne ha]; exact g.new a e n⟩
/-- a thing of ours is changed -/
theorem Gr.mut (g : Gr M F0 H0 F H) (n : F p = none) (n0 : H0 p = none ∨ M p) : Gr M F0 H0 F (upd H p o) :=
  ⟨same_out g.fh n, g.ff, fun a u m e => by
      have ha : a ≠ p := fun z => by
        subst z
        rcases n0 with z | z
        · rw [z] at e; cases e
        · exact m z
      rw [upd_ne ha]; exact g.keep a u m e,
    fun a e => by
      by_cases ha : a = p
      · subst ha; rw [upd_same]; simp
      · rw [upd_ne ha]; exact g.there a e, fun a e z => by
      by_cases ha : a = p
      · subst ha; exact .inl n
      · rw [upd_ne ha]; exact g.new a e z⟩
/-- a thing of ours stays as it is from now on -/
theorem Gr.freeze (g : Gr M F0 H0 F H) (h : H p = some o) (n0 : H0 p = none) : Gr M F0 H0 (upd F p o) H :=
  ⟨fun b u e => by
      by_cases hb : b = p
      · subst hb; rw [upd_same] at e; cases e; exact h
      · rw [upd_ne hb] at e; exact g.fh b u e,
    fun b u e => by
      by_cases hb : b = p
      · subst hb
        have := g.fh b u (g.ff b u e)
        rw [h] at this; cases this
        exact upd_same
      · rw [upd_ne hb]; exact g.ff b u e, g.keep, g.there,
    fun a e n => by
      have ha : a ≠ p := fun z => by subst z; exact e n0
      rw [upd_ne ha]; exact g.new a e n⟩
/-- a tuple that stands, taken among what stays -/
theorem Gr.adopt (g : Gr M F0 H0 F H) {ts : List V} (h : H p = some (.tup ts)) : Gr M F0 H0 (upd F p (.tup ts)) H :=
  ⟨fun b u e => by
      by_cases hb : b = p
      · subst hb; rw [upd_same] at e; cases e; exact h
      · rw [upd_ne hb] at e; exact g.fh b u e,
    fun b u e => by
      by_cases hb : b = p
      · subst hb
        have := g.fh b u (g.ff b u e)
        rw [h] at this; cases this
        exact upd_same
      · rw [upd_ne hb]; exact g.ff b u e, g.keep, g.there,
    fun a e n => by
      by_cases ha : a = p
      · subst ha; exact .inr ⟨ts, h⟩
      · rw [upd_ne ha]; exact g.new a e n⟩
theorem Gr.same_adopt (g : Gr M F0 H0 F H) {ts : List V} (h : H p = some (.tup ts)) : Same F (upd F p (.tup ts)) := fun b u e => by
  by_cases hb : b = p
  · subst hb
    have := g.fh b u e
    rw [h] at this; cases this
    exact upd_same
  · rw [upd_ne hb]; exact e
theorem Gr.newL (g : Gr M F0 H0 F H) (h : H0 a ≠ none) (n : F0 a = none) (ht : ∀ ts, H a ≠ some (.tup ts)) : F a = none := by
  rcases g.new a h n with z | ⟨ts, z⟩
  · exact z
  · exact absurd z (ht ts)
theorem Gr.seq (g : Gr M F0 H0 F H) (m : ¬ M a) (h : SqL K H0 a xs) : SqL K H a xs := by
  rcases h with (h | ⟨o, h⟩) | h
  · exact .inl (.inl (g.keep _ _ m h))
  · exact .inl (.inr ⟨o, g.keep _ _ m h⟩)
  · exact .inr h
theorem same_frz (h : H p = some o) (n : F p = none) : Same F (upd F p o) := same_new n
end

/-! ### the makings, step by step -/
def bind2 {α β γ : Type} (o : Option (α × β)) (f : α → β → Option γ) : Option γ := o.bind fun p => f p.1 p.2
def bind3 {α β γ δ : Type} (o : Option (α × β × γ)) (f : α → β → γ → Option δ) : Option δ := o.bind fun p => f p.1 p.2.1 p.2.2
def bind4 {α β γ δ ε : Type} (o : Option (α × β × γ × δ)) (f : α → β → γ → δ → Option ε) : Option ε := o.bind fun p => f p.1 p.2.1 p.2.2.1 p.2.2.2
def bind5 {α β γ δ ε ζ : Type} (o : Option (α × β × γ × δ × ε)) (f : α → β → γ → δ → ε → Option ζ) : Option ζ := o.bind fun p => f p.1 p.2.1 p.2.2.1 p.2.2.2.1 p.2.2.2.2
theorem bnd {α β : Type} {o : Option α} {f : α → Option β} {r : β} (h : Option.bind o f = some r) : ∃ x, o = some x ∧ f x = some r := Option.bind_eq_some_iff.mp h
theorem bnd2 {α β γ : Type} {o : Option (α × β)} {f : α → β → Option γ} {r : γ} (h : bind2 o f = some r) : ∃ x y, o = some (x, y) ∧ f x y = some r :=
  let ⟨p, e, k⟩ := Option.bind_eq_some_iff.mp h
  ⟨p.1, p.2, e, k⟩
theorem bnd3 {α β γ δ : Type} {o : Option (α × β × γ)} {f : α → β → γ → Option δ} {r : δ} (h : bind3 o f = some r) : ∃ x y z, o = some (x, y, z) ∧ f x y z = some r :=
  let ⟨p, e, k⟩ := Option.bind_eq_some_iff.mp h
  ⟨p.1, p.2.1, p.2.2, e, k⟩
theorem bnd4 {α β γ δ ε : Type} {o : Option (α × β × γ × δ)} {f : α → β → γ → δ → Option ε} {r : ε} (h : bind4 o f = some r) : ∃ x y z u, o = some (x, y, z, u) ∧ f x y z u = some r :=
  let ⟨p, e, k⟩ := Option.bind_eq_some_iff.mp h
  ⟨p.1, p.2.1, p.2.2.1, p.2.2.2, e, k⟩
theorem bnd5 {α β γ δ ε ζ : Type} {o : Option (α × β × γ × δ × ε)} {f : α → β → γ → δ → ε → Option ζ} {r : ζ} (h : bind5 o f = some r) : ∃ x y z u t, o = some (x, y, z, u, t) ∧ f x y z u t = some r :=
  let ⟨p, e, k⟩ := Option.bind_eq_some_iff.mp h
  ⟨p.1, p.2.1, p.2.2.1, p.2.2.2.1, p.2.2.2.2, e, k⟩
/-- a loop's end: gone on, or handed back -/
inductive Lp (S R : Type) where
  | go (s : S)
  | ret (r : R)
def bindL {S R T : Type} (o : Option (Lp S R)) (f : S → Option T) (g : R → Option T) : Option T := o.bind fun l => match l with
  | .go s => f s
  | .ret r => g r
theorem ifT {α : Type} {c : Bool} {a b : α} {r : α} (h : c = true) (e : (if c = true then a else b) = r) : a = r := by rw [if_pos h] at e; exact e
theorem ifF {α : Type} {c : Bool} {a b : α} {r : α} (h : c = false) (e : (if c = true then a else b) = r) : b = r := by rw [if_neg (by rw [h]; decide)] at e; exact e
theorem iteB {c : Bool} {A B : Prop} (h1 : c = true → A) (h2 : c = false → B) : if c = true then A else B := by
  cases c with
  | true => exact h1 rfl
  | false => exact h2 rfl
theorem drop_at {α : Type} {xs : List α} {i : Nat} {x : α} (h : xs[i]? = some x) : xs.drop i = x :: xs.drop (i + 1) := by
  obtain ⟨h1, h2⟩ := List.getElem?_eq_some_iff.mp h
  rw [List.drop_eq_getElem_cons h1, h2]
theorem drop_end {α : Type} {xs : List α} {n : Nat} (h : n = xs.length) : xs.drop n = [] := by subst h; exact List.drop_length
end G
/-! My base, part 2: operations of the makings, and their rules. -/
namespace G
open PySem PySem.Spec PyProof.Rows L2 TL

/-! ### ints, truths -/
def eqI (a b : Int) : Bool := decide (V.int a = V.int b)
def neI (a b : Int) : Bool := !decide (V.int a = V.int b)
def eqB (a b : Bool) : Bool := decide (V.bl a = V.bl b)
def neB (a b : Bool) : Bool := !decide (V.bl a = V.bl b)
def eqS (a b : Str) : Bool := decide (V.str a = V.str b)
def neS (a b : Str) : Bool := !decide (V.str a = V.str b)
theorem eqI_iff {a b : Int} : eqI a b = decide (a = b) := by unfold eqI; simp
theorem neI_iff {a b : Int} : neI a b = !decide (a = b) := by unfold neI; simp
theorem eqB_iff {a b : Bool} : eqB a b = decide (a = b) := by unfold eqB; simp
theorem neB_iff {a b : Bool} : neB a b = !decide (a = b) := by unfold neB; simp
theorem eqS_iff {a b : Str} : eqS a b = decide (a = b) := by unfold eqS; simp
theorem neS_iff {a b : Str} : neS a b = !decide (a = b) := by unfold neS; simp
def toI (b : Bool) : Int := if b then 1 else 0
def mulI (a b : Int) : Option Int := if a.natAbs.log2 + b.natAbs.log2 < 1000000 then some (a * b) else none
def divI (a b : Int) : Option Int := if 0 < b ∧ b.natAbs.log2 < 9000 then some (a / b) else none
def modI (a b : Int) : Option Int := if 0 < b then some (a % b) else none
def shlI (a b : Int) : Option Int := if 0 ≤ b ∧ b ≤ 1000000 ∧ a.natAbs < 2 ^ 64 then some (a * 2 ^ b.toNat) else none
def shrI (a b : Int) : Option Int := if 0 ≤ b then some (a / 2 ^ b.toNat) else none
theorem mulI_ok {a b r : Int} (h : mulI a b = some r) : CMulW a b ∧ a * b = r := by
  unfold mulI at h
  split at h
  · exact ⟨by assumption, Option.some.inj h⟩
  · cases h
theorem divI_ok {a b r : Int} (h : divI a b = some r) : CDivW a b ∧ a / b = r := by
  unfold divI at h
  split at h
  · exact ⟨by assumption, Option.some.inj h⟩
  · cases h
theorem modI_ok {a b r : Int} (h : modI a b = some r) : 0 < b ∧ a % b = r := by
  unfold modI at h
  split at h
  · exact ⟨by assumption, Option.some.inj h⟩
  · cases h
theorem shlI_ok {a b r : Int} (h : shlI a b = some r) : CPow a b ∧ a * 2 ^ b.toNat = r := by
  unfold shlI at h
  split at h
  · exact ⟨by assumption, Option.some.inj h⟩
  · cases h
theorem shrI_ok {a b r : Int} (h : shrI a b = some r) : 0 ≤ b ∧ a / 2 ^ b.toNat = r := by
  unfold shrI at h
  split at h
  · exact ⟨by assumption, Option.some.inj h⟩
  · cases h
theorem maxI_eq {i j : Int} : (if j > i then j else i) = max i j := by omega
theorem minI_eq {i j : Int} : (if j < i then j else i) = min i j := by omega

/-! ### texts -/
def sgn (c : Nat) : Str := ⟨#[c]⟩
theorem GS.of {x : Str} (h1 : (tl x).length ≤ sizeLine) (h2 : ∀ c ∈ tl x, c < 0x110000) : GS x := by
  refine ⟨by rw [len_tl]; exact h1, ?_⟩
  show x.cps.all (fun c => decide (c < 0x110000)) = true
  rw [Array.all_eq_true']
  intro c hc
  exact decide_eq_true (h2 c (by simpa [tl] using hc))
theorem GS.mem {x : Str} (g : GS x) : ∀ c ∈ tl x, c < 0x110000 := by
  intro c hc
  have h : x.cps.all (fun c => decide (c < 0x110000)) = true := g.ok
  rw [Array.all_eq_true'] at h
  exact of_decide_eq_true (h c (by simpa [tl] using hc))
theorem GS.tll {x : Str} (g : GS x) : (tl x).length ≤ sizeLine := by rw [← len_tl]; exact g.len
theorem GS.sg {x : Str} {c : Nat} (g : GS x) (h : c ∈ tl x) : GS (sgn c) := GS.of (by show 1 ≤ sizeLine; decide) (fun d hd => by
  have e : d = c := by simpa [tl, sgn] using hd
  rw [e]
  exact g.mem c h)
theorem GS.cut {x : Str} (g : GS x) (lo hi : Option Int) : GS (cutS x lo hi) := GS.of (by
    rw [← len_tl]
    exact Nat.le_trans (cutS_length x lo hi) g.len)
  fun c hc => g.mem c (List.mem_of_mem_drop (List.mem_of_mem_take (show c ∈ ((tl x).drop _).take _ from hc)))
def catS (a b : Str) : Option Str := if a.length + b.length ≤ sizeLine then some (a ++ b) else none
theorem catS_ok {a b r : Str} (h : catS a b = some r) : a.length + b.length ≤ sizeLine ∧ a ++ b = r := by
  unfold catS at h
  split at h
  · exact ⟨by assumption, Option.some.inj h⟩
  · cases h
theorem GS.cat {a b r : Str} (ga : GS a) (gb : GS b) (h : catS a b = some r) : GS r := by
  obtain ⟨h1, rfl⟩ := catS_ok h
  refine GS.of ?_ fun c hc => ?_
  · rw [tl_append, List.length_append, ← len_tl, ← len_tl]
    exact h1
  · rw [tl_append] at hc
    rcases List.mem_append.mp hc with k | k
    · exact ga.mem c k
    · exact gb.mem c k
/-- the sign at a place -/
def codeAt (x : Str) (i : Int) : Option Nat := atI (tl x) i
theorem codeAt_mem {x : Str} {i : Int} {c : Nat} (h : codeAt x i = some c) : c ∈ tl x := by
  unfold codeAt atI at h
  cases e : ixN (tl x).length i with
  | none => rw [e] at h; cases h
  | some j => rw [e] at h; exact List.mem_of_getElem? h
def mulS (x : Str) (n : Int) : Option Str := if -(2 ^ 63 : Int) ≤ n ∧ n ≤ 16777216 ∧ x.length * n.toNat ≤ 16777216 then some (Txt.mul x n) else none
theorem mulS_ok {x r : Str} {n : Int} (h : mulS x n = some r) : MulOk x n ∧ Txt.mul x n = r := by
  unfold mulS at h
  split at h
  · rename_i q
    exact ⟨mulOk_of x.length n.toNat (Nat.le_refl _) (by omega) q.1 (by omega) q.2.2, Option.some.inj h⟩
  · cases h
theorem foldl_app (cs : Array Nat) : ∀ (k : Nat) (acc : Array Nat), ((List.replicate k cs).foldl (· ++ ·) acc).toList = acc.toList ++ (List.replicate k cs.toList).flatten
  | 0, acc => by simp
  | k + 1, acc => by
    rw [List.replicate_succ, List.foldl_cons, foldl_app cs k, List.replicate_succ, List.flatten_cons, Array.toList_append, List.append_assoc]
theorem tl_mul (x : Str) (n : Int) : tl (Txt.mul x n) = (List.replicate n.toNat (tl x)).flatten := by
  unfold Txt.mul
  split
  · have e : n.toNat = 0 := by omega
    rw [e]
    rfl
  · split
    · rename_i h1 h2
      rcases Bool.or_eq_true_iff.mp h2 with h | h
      · have e : n = 1 := eq_of_beq h
        subst e
        show tl x = [tl x].flatten
        simp
      · have e : x.length = 0 := eq_of_beq h
        have e2 : tl x = [] := List.eq_nil_of_length_eq_zero (by rw [← len_tl]; exact e)
        rw [e2]
        simp
    · show ((List.replicate n.toNat x.cps).foldl (· ++ ·) #[]).toList = _
      rw [foldl_app]
      rfl
theorem GS.mul {x r : Str} {n : Int} (g : GS x) (h : mulS x n = some r) : GS r := by
  have h0 := h
  unfold mulS at h0
  split at h0
  · rename_i q
    obtain ⟨_, rfl⟩ := mulS_ok h
    refine GS.of ?_ fun c hc => ?_
    · rw [tl_mul, List.length_flatten, List.map_replicate, List.sum_replicate_nat, ← len_tl, sizeLine_eq, Nat.mul_comm]
      exact q.2.2
    · rw [tl_mul] at hc
      obtain ⟨l, hl, hc⟩ := List.mem_flatten.mp hc
      rw [(List.mem_replicate.mp hl).2] at hc
      exact g.mem c hc
  · cases h0
def joinS (sep : Str) (ys : List Str) : Option Str := if (ys.map (·.length)).sum + ys.length * sep.length ≤ 16777216 then some (Txt.join sep ys) else none
theorem joinS_ok {sep r : Str} {ys : List Str} (h : joinS sep ys = some r) : (ys.map (·.length)).sum + ys.length * sep.length ≤ 16777216 ∧ Txt.join sep ys = r := by
  unfold joinS at h
  split at h
  · exact ⟨by assumption, Option.some.inj h⟩
  · cases h
theorem tl_joinS (sep : Str) (ys : List Str) : tl (Txt.join sep ys) = joinL (tl sep) (ys.map tl) := by
  have e : Txt.join sep ys = Str.join sep ys := by
    unfold Txt.join; exact StrLaws.glued_eq_join sep ys
  rw [e, tl_join]
end G
/-! My base, part 3: rules. -/
namespace G
open PySem PySem.Spec PyProof.Rows L2 TL

section
variable {X : Cx}
theorem CallR.imp {f : Value} {r r' : List V → Hp → VK → Prop} (h : CallR X f r) (k : ∀ xs H Q, r' xs H Q → r xs H Q) : CallR X f r' :=
  fun pins s σ H xs us Q I rx q => h pins s σ H xs us Q I rx (k _ _ _ q)
theorem OpR.imp {f : Value → Value → Sem Value} {r r' : R2} (h : OpR X f r) (k : ∀ x y H Q, r' x y H Q → r x y H Q) : OpR X f r' :=
  fun pins s σ H x y v u Q I rx ry q => h pins s σ H x y v u Q I rx ry (k _ _ _ _ q)
/-- int(a truth) -/
theorem call_toI : CallR X (.type "int") (fun xs H Q => ∃ k, xs = [.bl k] ∧ Q (.int (toI k)) H) := CallR.imp call_int1 fun xs H Q ⟨k, e, q⟩ => .inr ⟨k, e, q⟩
/-- len(a list or tuple), told -/
theorem call_lenL : CallR X (.builtin "len") (fun xs H Q => ∃ p ys n, xs = [.ref p] ∧ (SqL X.K H p ys ∨ SqT X.K H p ys) ∧ ys.length = n ∧ Q (.int (n : Nat)) H) :=
  CallR.imp call_len_seq fun xs H Q ⟨p, ys, n, e, h, e2, q⟩ => ⟨p, ys, e, h, by rw [e2]; exact q⟩
/-- is None, told -/
theorem op_isO : OpR X (compareOp .Is) (fun x y H Q => ∃ b, y = .non ∧ decide (x = .non) = b ∧ Q (.bl b) H) := OpR.imp op_isN fun x y H Q ⟨b, e, e2, q⟩ => ⟨e, by rw [e2]; exact q⟩
theorem op_notO : OpR X (compareOp .IsNot) (fun x y H Q => ∃ b, y = .non ∧ decide (x = .non) = b ∧ Q (.bl (!b)) H) := OpR.imp op_notN fun x y H Q ⟨b, e, e2, q⟩ => ⟨e, by rw [e2]; exact q⟩
theorem op_mulS : OpR X (binaryOp .Mult) (fun x y H Q => ∃ z n, x = .str z ∧ y = .int n ∧ MulOk z n ∧ Q (.str (Txt.mul z n)) H) := by
  intro pins s σ H x y v u Q I rx ry h
  obtain ⟨z, n, rfl, rfl, ok, q⟩ := h
  obtain ⟨t, rfl⟩ := rx
  obtain ⟨t', rfl⟩ := ry
  exact SB.mul ok fun t' k => ⟨.str _, H, I.tok k, ⟨t', rfl⟩, q⟩
/-- xs + ys, lists that are read -/
def rCatL (K : PySem.W.Frag) : R2 := fun x y H Q => ∃ l b xs zs, x = .ref l ∧ y = .ref b ∧ SqL K H l xs ∧ SqL K H b zs ∧ xs.length + zs.length ≤ sizeLine ∧ ∀ p, H p = none → Q (.ref p) (upd H p (.lst (xs ++ zs)))
theorem op_catL : OpR X (binaryOp .Add) (rCatL X.K) := by
  intro pins s σ H x y v u Q I rx ry h
  obtain ⟨l, b, xs, zs, rfl, rfl, hH, hB, hz, q⟩ := h
  cases rx
  cases ry
  obtain ⟨its, r, p1, hl⟩ := I.list hH
  obtain ⟨its2, r2, p2, hl2⟩ := I.list hB
  obtain ⟨⟨cls, dd, data, sl⟩, ho, hc, n, hd⟩ := p1.isList
  obtain ⟨⟨cls2, dd2, data2, sl2⟩, ho2, hc2, n2, hd2⟩ := p2.isList
  simp only at hc hd hc2 hd2
  subst hc hd hc2 hd2
  have ea : its.toArray ++ its2.toArray = (its ++ its2).toArray := by simp
  have e1 := r.length
  have e2 := r2.length
  refine concat_meets ⟨_, ho, rfl⟩ ⟨_, ho2, rfl⟩ noFill_list_add seq_list_add PySem.F.slot_list_add PySem.F.entry_list_add (PySem.F.args_list_add_2 _ _) (PyProof.Rows.list_addW l b its.toArray its2.toArray n n2 dd dd2 sl sl2 (by simp; omega)) ⟨ho, ho2, ?_⟩
  rw [ea]
  exact ⟨.ref _, _, I.lnew (t' := s.toks) (r.append r2) (by rw [List.length_append]; omega), rfl, q _ I.fresh⟩
end

/-! ### parts of an expression, closed: what they come to, whatever follows -/
section
variable {M : Addr → Prop} {F H : Hp} {σ : L2.St} {ta tb tc : TE} {Q : VK} {a c k : Bool}
/-- t comes to the truth c -/
def EvB (M : Addr → Prop) (F H : Hp) (t : VK → Prop) (c : Bool) : Prop := ∀ Q : VK, (∀ F' H', Gr M F H F' H' → Q (.bl c) H') → t Q
def EvT (M : Addr → Prop) (F H : Hp) (t : (Bool → Hp → Prop) → Prop) (c : Bool) : Prop := ∀ Q : Bool → Hp → Prop, (∀ F' H', Gr M F H F' H' → Q c H') → t Q
theorem andV_g (h1 : EvB M F H (fun Q => ta σ H Q) a) (h2 : a = true → ∀ F1 H1, Gr M F H F1 H1 → EvB M F1 H1 (fun Q => tb σ H1 Q) c) (h3 : a = false → c = false)
    (q : ∀ F' H', Gr M F H F' H' → Q (.bl c) H') : tAndV ta tb σ H Q := h1 _ fun F1 H1 g1 => ⟨a, rfl, by
  cases e : a with
  | true => exact iteT (h2 e F1 H1 g1 _ fun F2 H2 g2 => q F2 H2 (g1.trans g2))
  | false =>
    have ec := h3 e
    subst ec
    exact iteF (q F1 H1 g1)⟩
theorem orV_g (h1 : EvB M F H (fun Q => ta σ H Q) a) (h2 : a = false → ∀ F1 H1, Gr M F H F1 H1 → EvB M F1 H1 (fun Q => tb σ H1 Q) c) (h3 : a = true → c = true)
    (q : ∀ F' H', Gr M F H F' H' → Q (.bl c) H') : tOrV ta tb σ H Q := h1 _ fun F1 H1 g1 => ⟨a, rfl, by
  cases e : a with
  | false => exact iteF (h2 e F1 H1 g1 _ fun F2 H2 g2 => q F2 H2 (g1.trans g2))
  | true =>
    have ec := h3 e
    subst ec
    exact iteT (q F1 H1 g1)⟩
theorem andT_g {ta tb : TT} {Q : Bool → Hp → Prop} (h1 : EvT M F H (fun Q => ta σ H Q) a) (h2 : a = true → ∀ F1 H1, Gr M F H F1 H1 → EvT M F1 H1 (fun Q => tb σ H1 Q) c) (h3 : a = false → c = false)
    (q : ∀ F' H', Gr M F H F' H' → Q c H') : tAnd ta tb σ H Q := h1 _ fun F1 H1 g1 => by
  cases e : a with
  | true => exact iteT (h2 e F1 H1 g1 _ fun F2 H2 g2 => q F2 H2 (g1.trans g2))
  | false =>
    have ec := h3 e
    subst ec
    exact iteF (q F1 H1 g1)
theorem orT_g {ta tb : TT} {Q : Bool → Hp → Prop} (h1 : EvT M F H (fun Q => ta σ H Q) a) (h2 : a = false → ∀ F1 H1, Gr M F H F1 H1 → EvT M F1 H1 (fun Q => tb σ H1 Q) c) (h3 : a = true → c = true)
    (q : ∀ F' H', Gr M F H F' H' → Q c H') : tOr ta tb σ H Q := h1 _ fun F1 H1 g1 => by
  cases e : a with
  | false => exact iteF (h2 e F1 H1 g1 _ fun F2 H2 g2 => q F2 H2 (g1.trans g2))
  | true =>
    have ec := h3 e
    subst ec
    exact iteT (q F1 H1 g1)
/-- a < b < c -/
theorem chainV_g {r r' : R2} (h1 : EvB M F H (fun Q => ta σ H fun x H1 => tb σ H1 fun y H2 => r x y H2 Q) a) (h : tChain r r' ta tb tc σ H Q) : tChain r r' ta tb tc σ H Q := h
/-- e if t else e': it comes to what P says -/
theorem ifE_g {tt : TT} {P : V → Hp → Hp → Prop} (h1 : EvT M F H (fun Q => tt σ H Q) a)
    (h2 : a = true → ∀ F1 H1, Gr M F H F1 H1 → ∀ Q : VK, (∀ v F' H', Gr M F1 H1 F' H' → P v F' H' → Q v H') → ta σ H1 Q)
    (h3 : a = false → ∀ F1 H1, Gr M F H F1 H1 → ∀ Q : VK, (∀ v F' H', Gr M F1 H1 F' H' → P v F' H' → Q v H') → tb σ H1 Q)
    (q : ∀ v F' H', Gr M F H F' H' → P v F' H' → Q v H') : tIf tt ta tb σ H Q := h1 _ fun F1 H1 g1 => by
  cases e : a with
  | true => exact iteT (h2 e F1 H1 g1 _ fun v F2 H2 g2 => q v F2 H2 (g1.trans g2))
  | false => exact iteF (h3 e F1 H1 g1 _ fun v F2 H2 g2 => q v F2 H2 (g1.trans g2))
end

/-! ### peeling a statement -/
section
variable {D : Ends} {σ : L2.St} {H : Hp} {t u : TS} {te : TE} {g : TG} {c : TT}
theorem p_seq (h : t { D with nx := u D } σ H) : tSeq t u D σ H := h
theorem p_asg (h : te σ H (fun x H1 => g x σ H1 D.nx)) : tAsg te g D σ H := h
theorem p_ret (h : te σ H D.rt) : tRet te D σ H := h
theorem p_if (h : c σ H (fun b H1 => if b = true then t D σ H1 else u D σ H1)) : tIfS c t u D σ H := h
theorem p_drop (h : te σ H (fun _ H1 => D.nx σ H1)) : tDrop te D σ H := h
/-- a statement, then the rest, with a word between them -/
def tCut (t u : TS) : TS := fun D σ H => ∃ Mid : L2.St → Hp → Prop, t { D with nx := Mid } σ H ∧ ∀ σ' H', Mid σ' H' → u D σ' H'
theorem pss_cut {X : Cx} {st : Stmt} {rest : List Stmt} (h1 : PS X st t) (h2 : PSs X rest u) : PSs X (st :: rest) (tCut t u) := by
  refine ⟨fun pins s σ H D I h => ?_⟩
  obtain ⟨Mid, hm, hu⟩ := h
  refine wpAny_execs_cons (thn (h1.run pins s σ H { D with nx := Mid } I hm) fun f s1 q => ?_)
  cases f with
  | next =>
    obtain ⟨σ', H', I', q⟩ := q
    exact h2.run pins s1 σ' H' D I' (hu σ' H' q)
  | ret v => exact q
  | brk => exact q
  | cont => exact q
end

/-! ### a call by names alone -/
section
variable {X : Cx} {CX : CXT} {k : Nat} {f : Addr} {fd : FuncData} {ps ks : List Str} {sp : Sp} {E : XK} {x : Str} {p pos : Pos} {kws : List Keyword} {tk : TA} {g : List Value → List Value → List Value} {gV : List V → List V → List V}
theorem pe_callK0 (F : FnOk X.prog X.w X.K X.mg X.base CX k f fd ps sp) (hr : Room k X.A) (hg : Gl X x) (hm : X.mg x = some (.ref f)) (hk : PySem.W.keepIn X.K (.ref f) = true) (hb : KBinds X.K fd ps ks g gV) (hx : Passes CX X E)
    (hkw : PK X kws tk) (hall : (backToKw pos (keywordEach kws X.env)).all (·.1.isSome) = true := by rfl) (hks : (backToKw pos (keywordEach kws X.env)).filterMap (·.1) = ks := by rfl)
    (hdb : (x == ("__debug__" : Str)) = false := by decide)
    (hpl : ((backTo pos (starEach [] X.env)).any (·.1) || (backToKw pos (keywordEach kws X.env)).any (·.1.isNone)) = false := by rfl) :
    PE X (.Call (.Name x p) [] kws pos) (tCallK sp gV E tNil tk) := by
  refine ⟨fun pins s σ H Q I h => ?_⟩
  refine wpAny_Call_Name_kw (ld_glob I hg hm ?_ hdb)
  refine PySem.W.callWith_KW0 (h₀ := X.base) I.ok.mod.kin hk hall ?_ hpl
  refine thn (hkw.run pos pins s σ H _ I h) fun ws s2 ⟨zs, H2, I2, rz, q2⟩ => ⟨I2.kIn, ?_⟩
  rw [hks]
  exact run_fnk F hr hb hx I2 .nil rz q2
end

/-! ### texts kept in a written table -/
def dgetS (kvs : List (Str × Str)) (k d : Str) : Str := ((kvs.find? fun kv => decide (kv.1 = k)).map (·.2)).getD d
def kvS (kvs : List (Str × Str)) : List (Key × V) := kvs.map fun kv => (Sum.inr kv.1, V.str kv.2)
theorem valS (k : Str) : ∀ kvs : List (Str × Str), valV (kvS kvs) (Sum.inr k) = ((kvs.find? fun kv => decide (kv.1 = k)).map (·.2)).map V.str
  | [] => rfl
  | kv :: r => by
    unfold valV kvS
    rw [List.map_cons, List.find?_cons, List.find?_cons]
    by_cases h : kv.1 = k
    · have h' : (Sum.inr kv.1 : Key) = Sum.inr k := by rw [h]
      simp only [decide_eq_true h, decide_eq_true h', Option.map_some]
    · have h' : ¬ (Sum.inr kv.1 : Key) = Sum.inr k := fun e => h (Sum.inr.inj e)
      simp only [decide_eq_false h, decide_eq_false h']
      exact valS k r
theorem rd_dgets {ty tx : TE} {σ : L2.St} {H : Hp} {Q : VK} {k d : Str} (trs : List (TE × TE)) (kvs : List (Str × Str)) (he : trs = kvs.map fun kv => (tC (.str kv.1), tC (.str kv.2))) (h15 : kvs.length ≤ 15) (hm : mergeK [] (kvS kvs) = kvS kvs)
    (hy : ∀ H1 Q', Q' (.str k) H1 → ty σ H1 Q') (hx : ∀ H1 Q', Q' (.str d) H1 → tx σ H1 Q') (q : ∀ p, H p = none → Q (.str (dgetS kvs k d)) (upd H p (.dK (kvS kvs)))) : tDGet2 (tDisp trs) ty tx σ H Q := by
  intro p hp
  have walk : ∀ (l : List (Str × Str)) (R : List (V × V) → Hp → Prop) (H1 : Hp), R (l.map fun kv => (V.str kv.1, V.str kv.2)) H1 → tPairs (l.map fun kv => (tC (.str kv.1), tC (.str kv.2))) σ H1 R := by
    intro l
    induction l with
    | nil => intro R H1 h; exact h
    | cons kv l ih => intro R H1 h; exact ih (fun ps H3 => R ((V.str kv.1, V.str kv.2) :: ps) H3) H1 h
  rw [he]
  refine walk kvs _ _ ⟨upd_same, kvS kvs, ?_, ?_, ?_⟩
  · unfold kvS
    rw [List.map_map]
    rfl
  · unfold kvS
    rw [List.length_map]
    exact h15
  · rw [hm, upd_upd]
    refine ⟨p, rfl, .inl ⟨_, .inl upd_same⟩, hy _ _ (hx _ _ ⟨_, DGet.k (k := Sum.inr k) upd_same, ?_⟩)⟩
    rw [valS]
    have e : (((kvs.find? fun kv => decide (kv.1 = k)).map (·.2)).map V.str).getD (.str d) = .str (dgetS kvs k d) := by
      unfold dgetS
      cases (kvs.find? fun kv => decide (kv.1 = k)) <;> rfl
    rw [e]
    exact q p hp
theorem GS.dg {kvs : List (Str × Str)} {k d : Str} (h : ∀ kv ∈ kvs, GS kv.2) (hd : GS d) : GS (dgetS kvs k d) := by
  unfold dgetS
  cases e : (kvs.find? fun kv => decide (kv.1 = k)) with
  | none => exact hd
  | some kv => exact h kv (List.mem_of_find?_eq_some e)
end G
/-! My base, part 4: lists of one's own, the bag. -/
namespace G
open PySem PySem.Spec PyProof.Rows L2 TL

/-- a list of one's own at p: made behind the entry (H0), not among what stays (F) -/
structure Ow (H0 F H : Hp) (p : Addr) (ws : List V) : Prop where
  h : H p = some (.lst ws)
  nF : F p = none
  n0 : H0 p = none
section
variable {M : Addr → Prop} {F0 H0 F H F' H' : Hp} {p q : Addr} {o : HO} {K : PySem.W.Frag} {xs ws us : List V}
theorem Ow.new (g : Gr M F0 H0 F H) (hp : H p = none) : Ow H0 F (upd H p (.lst ws)) p ws := ⟨upd_same, g.noneF hp, g.none0 hp⟩
theorem Ow.frz (w : Ow H0 F H p ws) (hq : H q = none) : Ow H0 (upd F q o) (upd H q o) p ws :=
  have ne := ne_of_none w.h hq
  ⟨(upd_ne ne).trans w.h, (upd_ne ne).trans w.nF, w.n0⟩
theorem Ow.own (w : Ow H0 F H p ws) (hq : H q = none) : Ow H0 F (upd H q o) p ws :=
  have ne := ne_of_none w.h hq
  ⟨(upd_ne ne).trans w.h, w.nF, w.n0⟩
theorem Ow.put (w : Ow H0 F H p ws) : Ow H0 F (upd H p (.lst us)) p us := ⟨upd_same, w.nF, w.n0⟩
theorem Ow.other (w : Ow H0 F H p ws) (ne : p ≠ q) : Ow H0 F (upd H q o) p ws := ⟨(upd_ne ne).trans w.h, w.nF, w.n0⟩
theorem Ow.ne (w : Ow H0 F H p ws) (hq : H q = none) : p ≠ q := ne_of_none w.h hq
theorem Ow.gr (w : Ow H0 F H p ws) (g : Gr M F H F' H') (m : ¬ M p) : Ow H0 F' H' p ws :=
  ⟨g.keep _ _ m w.h, g.newL (by rw [w.h]; simp) w.nF (fun ts z => by rw [g.keep _ _ m w.h] at z; cases z), w.n0⟩
theorem Ow.gr0 (w : Ow H0 F H p ws) (g : Gr M0 F H F' H') : Ow H0 F' H' p ws := w.gr g id
theorem Ow.fz (w : Ow H0 F H p ws) (ne : p ≠ q) : Ow H0 (upd F q o) H p ws := ⟨w.h, (upd_ne ne).trans w.nF, w.n0⟩
theorem Gr.put (g : Gr M F0 H0 F H) (w : Ow H0 F H p ws) : Gr M F0 H0 F (upd H p o) := g.mut w.nF (.inl w.n0)
theorem Gr.fz (g : Gr M F0 H0 F H) (w : Ow H0 F H p ws) : Gr M F0 H0 (upd F p (.lst ws)) H := g.freeze w.h w.n0
theorem Ow.sq (w : Ow H0 F H p ws) : SqL K H p ws := .inl (.inl w.h)
theorem Ow.sf (w : Ow H0 F H p ws) : Same F (upd F p (.lst ws)) := same_new w.nF
theorem fzS : SqL K (upd F p (.lst ws)) p ws := .inl (.inl upd_same)
theorem fzT : (upd F p (.tup ws)) p = some (.tup ws) := upd_same
end

/-- the bag of a law: its cells, which is next, the seed, how many were stirred -/
structure Bag where
  cells : List Int
  at_ : Nat
  seed : Int
  cnt : Int
structure BagOk (b : Bag) : Prop where
  lo : 0 ≤ b.seed
  hi : b.seed < 2 ^ 31
abbrev Bc (B C : Addr) : Addr → Prop := fun a => a = B ∨ a = C
structure BagAt (F H : Hp) (B C : Addr) (b : Bag) : Prop where
  hB : H B = some (.lst [.ref C, .int (b.at_ : Nat), .int b.seed, .int b.cnt])
  hC : H C = some (.lst (b.cells.map V.int))
  ne : B ≠ C
  fB : F B = none
  fC : F C = none
section
variable {M : Addr → Prop} {F0 H0 F H F' H' : Hp} {p q B C : Addr} {o : HO} {b b' : Bag} {ws : List V}
theorem BagAt.frz (a : BagAt F H B C b) (hq : H q = none) : BagAt (upd F q o) (upd H q o) B C b :=
  have n1 := ne_of_none a.hB hq
  have n2 := ne_of_none a.hC hq
  ⟨(upd_ne n1).trans a.hB, (upd_ne n2).trans a.hC, a.ne, (upd_ne n1).trans a.fB, (upd_ne n2).trans a.fC⟩
theorem BagAt.own (a : BagAt F H B C b) (hq : H q = none) : BagAt F (upd H q o) B C b :=
  have n1 := ne_of_none a.hB hq
  have n2 := ne_of_none a.hC hq
  ⟨(upd_ne n1).trans a.hB, (upd_ne n2).trans a.hC, a.ne, a.fB, a.fC⟩
theorem BagAt.nb (a : BagAt F H B C b) (hq : H q = none) : ¬ Bc B C q := fun z => by
  rcases z with z | z
  · exact ne_of_none a.hB hq z.symm
  · exact ne_of_none a.hC hq z.symm
theorem BagAt.other (a : BagAt F H B C b) (m : ¬ Bc B C q) : BagAt F (upd H q o) B C b :=
  have n1 : B ≠ q := fun z => m (.inl z.symm)
  have n2 : C ≠ q := fun z => m (.inr z.symm)
  ⟨(upd_ne n1).trans a.hB, (upd_ne n2).trans a.hC, a.ne, a.fB, a.fC⟩
theorem BagAt.fz (a : BagAt F H B C b) (m : ¬ Bc B C q) : BagAt (upd F q o) H B C b :=
  have n1 : B ≠ q := fun z => m (.inl z.symm)
  have n2 : C ≠ q := fun z => m (.inr z.symm)
  ⟨a.hB, a.hC, a.ne, (upd_ne n1).trans a.fB, (upd_ne n2).trans a.fC⟩
theorem BagAt.gr0 (a : BagAt F H B C b) (g : Gr M0 F H F' H') : BagAt F' H' B C b :=
  ⟨g.keep _ _ id a.hB, g.keep _ _ id a.hC, a.ne, g.newL (by rw [a.hB]; simp) a.fB (fun ts z => by rw [g.keep _ _ id a.hB] at z; cases z), g.newL (by rw [a.hC]; simp) a.fC (fun ts z => by rw [g.keep _ _ id a.hC] at z; cases z)⟩
/-- a promise over the whole heap as what stays: the caller's own part stays apart -/
theorem Gr.apart (g : Gr M F0 H0 F H) (k : Gr M0 H H F' H') : Gr M F0 H0 F H' :=
  ⟨g.fh.trans fun a o e => k.keep a o id e, g.ff, fun a o m e => k.keep a o id (g.keep a o m e), fun a e => k.there a (g.there a e), fun a e n => (g.new a e n).imp id fun ⟨ts, z⟩ => ⟨ts, k.keep _ _ id z⟩⟩
theorem Ow.apart (w : Ow H0 F H p ws) (k : Gr M0 H H F' H') : Ow H0 F H' p ws := ⟨k.keep _ _ id w.h, w.nF, w.n0⟩
theorem BagAt.apart (a : BagAt F H B C b) (k : Gr M0 H H F' H') : BagAt F H' B C b := ⟨k.keep _ _ id a.hB, k.keep _ _ id a.hC, a.ne, a.fB, a.fC⟩
end
end G
namespace G
open PySem PySem.Spec PyProof.Rows L2 TL
/-! ### loops' ends in the makings -/
def lpK {S R T : Type} (l : Lp S R) (f : S → Option T) (g : R → Option T) : Option T := match l with
  | .go s => f s
  | .ret r => g r
def bindL0 {R T : Type} (o : Option (Lp Unit R)) (f : Option T) (g : R → Option T) : Option T := o.bind fun l => lpK l (fun _ => f) g
def bindL1 {α R T : Type} (o : Option (Lp α R)) (f : α → Option T) (g : R → Option T) : Option T := o.bind fun l => lpK l f g
def bindL2 {α β R T : Type} (o : Option (Lp (α × β) R)) (f : α → β → Option T) (g : R → Option T) : Option T := o.bind fun l => lpK l (fun s => f s.1 s.2) g
def bindL3 {α β γ R T : Type} (o : Option (Lp (α × β × γ) R)) (f : α → β → γ → Option T) (g : R → Option T) : Option T := o.bind fun l => lpK l (fun s => f s.1 s.2.1 s.2.2) g
def bindL4 {α β γ δ R T : Type} (o : Option (Lp (α × β × γ × δ) R)) (f : α → β → γ → δ → Option T) (g : R → Option T) : Option T := o.bind fun l => lpK l (fun s => f s.1 s.2.1 s.2.2.1 s.2.2.2) g
section
variable {α β γ δ R T : Type} {g : R → Option T} {r : R} {t : T}
theorem bndL0 {o : Option (Lp Unit R)} {f : Option T} (h : bindL0 o f g = some t) : ∃ l, o = some l ∧ lpK l (fun _ => f) g = some t := Option.bind_eq_some_iff.mp h
theorem bndL1 {o : Option (Lp α R)} {f : α → Option T} (h : bindL1 o f g = some t) : ∃ l, o = some l ∧ lpK l f g = some t := Option.bind_eq_some_iff.mp h
theorem bndL2 {o : Option (Lp (α × β) R)} {f : α → β → Option T} (h : bindL2 o f g = some t) : ∃ l, o = some l ∧ lpK l (fun s => f s.1 s.2) g = some t := Option.bind_eq_some_iff.mp h
theorem bndL3 {o : Option (Lp (α × β × γ) R)} {f : α → β → γ → Option T} (h : bindL3 o f g = some t) : ∃ l, o = some l ∧ lpK l (fun s => f s.1 s.2.1 s.2.2) g = some t := Option.bind_eq_some_iff.mp h
theorem bndL4 {o : Option (Lp (α × β × γ × δ) R)} {f : α → β → γ → δ → Option T} (h : bindL4 o f g = some t) : ∃ l, o = some l ∧ lpK l (fun s => f s.1 s.2.1 s.2.2.1 s.2.2.2) g = some t := Option.bind_eq_some_iff.mp h
theorem bgo0 {f : Option T} (h : lpK (.go ()) (fun _ => f) g = some t) : f = some t := h
theorem bgo1 {f : α → Option T} {a : α} (h : lpK (.go a) f g = some t) : f a = some t := h
theorem bgo2 {f : α → β → Option T} {a : α} {b : β} (h : lpK (.go (a, b)) (fun s => f s.1 s.2) g = some t) : f a b = some t := h
theorem bgo3 {f : α → β → γ → Option T} {a : α} {b : β} {c : γ} (h : lpK (.go (a, b, c)) (fun s => f s.1 s.2.1 s.2.2) g = some t) : f a b c = some t := h
theorem bgo4 {f : α → β → γ → δ → Option T} {a : α} {b : β} {c : γ} {d : δ} (h : lpK (.go (a, b, c, d)) (fun s => f s.1 s.2.1 s.2.2.1 s.2.2.2) g = some t) : f a b c d = some t := h
theorem bret {S : Type} {f : S → Option T} (h : lpK (.ret r) f g = some t) : g r = some t := h
end
/-- ranges -/
def rangeL (lo : Int) (n : Nat) : List Int := (List.range n).map fun k => lo + (k : Nat)
theorem rangeL_at {lo : Int} {n i : Nat} (h : i < n) : (rangeL lo n)[i]? = some (lo + (i : Nat)) := by
  unfold rangeL
  rw [List.getElem?_map, List.getElem?_range h]
  rfl
theorem rangeL_len (lo : Int) (n : Nat) : (rangeL lo n).length = n := by unfold rangeL; simp
def rangeO (lo hi : Int) : Option (List Int) := if (-(2 ^ 62) ≤ lo ∧ lo < 2 ^ 62 ∧ -(2 ^ 62) ≤ hi ∧ hi < 2 ^ 62) ∧ (hi - lo).toNat ≤ sizeLine then some (rangeL lo (hi - lo).toNat) else none
theorem rangeO_ok {lo hi : Int} {l : List Int} (h : rangeO lo hi = some l) : ((-(2 ^ 62) ≤ lo ∧ lo < 2 ^ 62 ∧ -(2 ^ 62) ≤ hi ∧ hi < 2 ^ 62) ∧ (hi - lo).toNat ≤ sizeLine) ∧ rangeL lo (hi - lo).toNat = l := by
  unfold rangeO at h
  split at h
  · exact ⟨by assumption, Option.some.inj h⟩
  · cases h
def appL {α : Type} (xs : List α) (x : α) : Option (List α) := if xs.length < sizeLine then some (xs ++ [x]) else none
theorem appL_ok {α : Type} {xs r : List α} {x : α} (h : appL xs x = some r) : xs.length < sizeLine ∧ xs ++ [x] = r := by
  unfold appL at h
  split at h
  · exact ⟨by assumption, Option.some.inj h⟩
  · cases h
def conL {α : Type} (xs ys : List α) : Option (List α) := if xs.length + ys.length ≤ sizeLine then some (xs ++ ys) else none
theorem conL_ok {α : Type} {xs ys r : List α} (h : conL xs ys = some r) : xs.length + ys.length ≤ sizeLine ∧ xs ++ ys = r := by
  unfold conL at h
  split at h
  · exact ⟨by assumption, Option.some.inj h⟩
  · cases h
def cutL {α : Type} (xs : List α) (lo hi : Option Int) : List α := (xs.drop (HT.sIx xs.length 0 lo)).take (HT.sIx xs.length xs.length hi - HT.sIx xs.length 0 lo)
theorem str_at {x : Str} {i c : Nat} (h : x.cps[i]? = some c) : (tl x)[i]? = some c := by simpa [tl] using h
theorem str_size {x : Str} : x.cps.size = (tl x).length := by simp [tl]
theorem lt_line {a i n : Nat} (h : a ≤ i) (h2 : i < n) (h3 : n ≤ sizeLine) : a < sizeLine := by omega
theorem snoc_rest {α : Type} {ds rest res : List α} {x : α} (h : ds ++ (x :: rest) = res) : (ds ++ [x]) ++ rest = res := by rw [← h, List.append_assoc]; rfl
theorem sjoin {α : Type} {a b : α} (h : some a = some b) : a = b := Option.some.inj h
end G
/-! My base, part 5: more peeling, walks over texts, lists' operations. -/
namespace G
open PySem PySem.Spec PyProof.Rows L2 TL

section
variable {D : Ends} {σ : L2.St} {H : Hp} {t u : TS} {te : TE} {g : TG} {c : TT} {wi : TI} {i : Nat} {v : V} {k : L2.St → Hp → Prop}
theorem p_next (h : D.nx σ H) : tNext D σ H := h
theorem p_cont (h : D.ct σ H) : tCont D σ H := h
theorem p_brk (h : D.bk σ H) : tBreak D σ H := h
theorem p_name (h : k (σ.set i (some v)) H) : gName i v σ H k := h
theorem p_nm {v' : V} (e : v = v') (h : k (σ.set i (some v')) H) : gName i v σ H k := by subst e; exact h
theorem p_nx {f : L2.St → Hp → Prop} {r : VK} {bk ct : L2.St → Hp → Prop} (h : f σ H) : (Ends.mk f r bk ct).nx σ H := h
theorem p_yes {A B : Hp → Prop} (h : A H) : tYes σ H (fun b H3 => if b = true then A H3 else B H3) := h
theorem p_for (h : tFor wi g t D σ H) : tFor wi g t D σ H := h
theorem p_id (h : t D σ H) : t D σ H := h
end
theorem pjoin {α β : Type} {a c : α} {b d : β} (h : some (a, b) = some (c, d)) : a = c ∧ b = d := by
  injection h with h
  injection h with h1 h2
  exact ⟨h1, h2⟩
theorem pjoin3 {α β γ : Type} {a a' : α} {b b' : β} {c c' : γ} (h : some (a, b, c) = some (a', b', c')) : a = a' ∧ b = b' ∧ c = c' := by
  injection h with h
  injection h with h1 h2
  injection h2 with h2 h3
  exact ⟨h1, h2, h3⟩
theorem pjoin4 {α β γ δ : Type} {a a' : α} {b b' : β} {c c' : γ} {d d' : δ} (h : some (a, b, c, d) = some (a', b', c', d')) : a = a' ∧ b = b' ∧ c = c' ∧ d = d' := by
  injection h with h
  injection h with h1 h2
  injection h2 with h2 h3
  injection h3 with h3 h4
  exact ⟨h1, h2, h3, h4⟩
theorem pjoin5 {α β γ δ ε : Type} {a a' : α} {b b' : β} {c c' : γ} {d d' : δ} {e e' : ε} (h : some (a, b, c, d, e) = some (a', b', c', d', e')) : a = a' ∧ b = b' ∧ c = c' ∧ d = d' ∧ e = e' := by
  injection h with h
  injection h with h1 h2
  injection h2 with h2 h3
  injection h3 with h3 h4
  injection h4 with h4 h5
  exact ⟨h1, h2, h3, h4, h5⟩

/-! ### parts whose value is told -/
def tVal (t : TE) : TE := fun σ H Q => ∃ v, (∀ Q' : VK, Q' v H → t σ H Q') ∧ Q v H
def tValT (t : TT) : TT := fun σ H Q => ∃ b, (∀ Q' : Bool → Hp → Prop, Q' b H → t σ H Q') ∧ Q b H
section
variable {X : Cx}
theorem pe_val {e : Expr} {t : TE} (h : PE X e t) : PE X e (tVal t) := ⟨fun pins s σ H Q I q => by
  obtain ⟨v, k, q⟩ := q
  exact h.run pins s σ H Q I (k Q q)⟩
theorem pt_valT {e : Expr} {t : TT} (h : PT X e t) : PT X e (tValT t) := ⟨fun pins s σ H Q I q => by
  obtain ⟨v, k, q⟩ := q
  exact h.run pins s σ H Q I (k Q q)⟩
end
section
variable {a b : Bool} {H : Hp}
theorem qTv {Q : VK} (h : a = true) (q : Q (.bl (a && b)) H) : Q (.bl b) H := by subst h; exact q
theorem qFv {Q : VK} (h : a = false) (q : Q (.bl (a && b)) H) : Q (.bl false) H := by subst h; exact q
theorem qTb {Q : Bool → Hp → Prop} (h : a = true) (q : Q (a && b) H) : Q b H := by subst h; exact q
theorem qFb {Q : Bool → Hp → Prop} (h : a = false) (q : Q (a && b) H) : Q false H := by subst h; exact q
end
section
variable {F H : Hp} {σ : L2.St} {ta tb : TE} {Q : VK} {a b : Bool}
theorem andV_t (h1 : EvB M0 F H (fun Q => ta σ H Q) a) (h2 : a = true → ∀ F1 H1, Gr M0 F H F1 H1 → EvB M0 F1 H1 (fun Q => tb σ H1 Q) b)
    (q : ∀ F' H', Gr M0 F H F' H' → Q (.bl (a && b)) H') : tAndV ta tb σ H Q :=
  andV_g (c := a && b) h1 (fun e F1 H1 g => by rw [e]; exact h2 e F1 H1 g) (fun e => by rw [e]; rfl) q
theorem orV_t (h1 : EvB M0 F H (fun Q => ta σ H Q) a) (h2 : a = false → ∀ F1 H1, Gr M0 F H F1 H1 → EvB M0 F1 H1 (fun Q => tb σ H1 Q) b)
    (q : ∀ F' H', Gr M0 F H F' H' → Q (.bl (a || b)) H') : tOrV ta tb σ H Q :=
  orV_g (c := a || b) h1 (fun e F1 H1 g => by rw [e]; exact h2 e F1 H1 g) (fun e => by rw [e]; rfl) q
theorem andT_t {ta tb : TT} {Q : Bool → Hp → Prop} (h1 : EvT M0 F H (fun Q => ta σ H Q) a) (h2 : a = true → ∀ F1 H1, Gr M0 F H F1 H1 → EvT M0 F1 H1 (fun Q => tb σ H1 Q) b)
    (q : ∀ F' H', Gr M0 F H F' H' → Q (a && b) H') : tAnd ta tb σ H Q :=
  andT_g (c := a && b) h1 (fun e F1 H1 g => by rw [e]; exact h2 e F1 H1 g) (fun e => by rw [e]; rfl) q
theorem orT_t {ta tb : TT} {Q : Bool → Hp → Prop} (h1 : EvT M0 F H (fun Q => ta σ H Q) a) (h2 : a = false → ∀ F1 H1, Gr M0 F H F1 H1 → EvT M0 F1 H1 (fun Q => tb σ H1 Q) b)
    (q : ∀ F' H', Gr M0 F H F' H' → Q (a || b) H') : tOr ta tb σ H Q :=
  orT_g (c := a || b) h1 (fun e F1 H1 g => by rw [e]; exact h2 e F1 H1 g) (fun e => by rw [e]; rfl) q
end

/-! ### e if c else e', behind its test -/
section
variable {M : Addr → Prop} {F H : Hp} {σ : L2.St} {ta tb : TE} {Q : VK} {c : Bool}
theorem ifJ {P : V → Hp → Hp → Prop} (h2 : c = true → ∀ Q : VK, (∀ v F' H', Gr M F H F' H' → P v F' H' → Q v H') → ta σ H Q)
    (h3 : c = false → ∀ Q : VK, (∀ v F' H', Gr M F H F' H' → P v F' H' → Q v H') → tb σ H Q)
    (q : ∀ v F' H', Gr M F H F' H' → P v F' H' → Q v H') : if c = true then ta σ H Q else tb σ H Q := by
  cases e : c with
  | true => exact iteT (h2 e Q q)
  | false => exact iteF (h3 e Q q)
end

section
variable {M : Addr → Prop} {F H : Hp} {σ : L2.St} {tb : TE} {ub : TT} {Q : VK} {U : Bool → Hp → Prop} {a c : Bool} {P : Hp → Hp → Prop}
theorem andJV (h2 : a = true → ∀ Q : VK, (∀ F' H', Gr M F H F' H' → P F' H' → Q (.bl c) H') → tb σ H Q) (h3 : a = false → c = false ∧ P F H) (fh : Same F H)
    (q : ∀ F' H', Gr M F H F' H' → P F' H' → Q (.bl c) H') : if a = true then tb σ H Q else Q (.bl false) H := by
  cases e : a with
  | true => exact iteT (h2 e Q q)
  | false =>
    obtain ⟨ec, p⟩ := h3 e
    subst ec
    exact iteF (q _ _ (Gr.refl fh) p)
theorem orJV (h2 : a = false → ∀ Q : VK, (∀ F' H', Gr M F H F' H' → P F' H' → Q (.bl c) H') → tb σ H Q) (h3 : a = true → c = true ∧ P F H) (fh : Same F H)
    (q : ∀ F' H', Gr M F H F' H' → P F' H' → Q (.bl c) H') : if a = true then Q (.bl true) H else tb σ H Q := by
  cases e : a with
  | false => exact iteF (h2 e Q q)
  | true =>
    obtain ⟨ec, p⟩ := h3 e
    subst ec
    exact iteT (q _ _ (Gr.refl fh) p)
theorem andJT (h2 : a = true → ∀ U : Bool → Hp → Prop, (∀ F' H', Gr M F H F' H' → P F' H' → U c H') → ub σ H U) (h3 : a = false → c = false ∧ P F H) (fh : Same F H)
    (q : ∀ F' H', Gr M F H F' H' → P F' H' → U c H') : if a = true then ub σ H U else U false H := by
  cases e : a with
  | true => exact iteT (h2 e U q)
  | false =>
    obtain ⟨ec, p⟩ := h3 e
    subst ec
    exact iteF (q _ _ (Gr.refl fh) p)
theorem orJT (h2 : a = false → ∀ U : Bool → Hp → Prop, (∀ F' H', Gr M F H F' H' → P F' H' → U c H') → ub σ H U) (h3 : a = true → c = true ∧ P F H) (fh : Same F H)
    (q : ∀ F' H', Gr M F H F' H' → P F' H' → U c H') : if a = true then U true H else ub σ H U := by
  cases e : a with
  | false => exact iteF (h2 e U q)
  | true =>
    obtain ⟨ec, p⟩ := h3 e
    subst ec
    exact iteT (q _ _ (Gr.refl fh) p)
end
theorem qOv {a b : Bool} {H : Hp} {Q : VK} (h : a = false) (q : Q (.bl (a || b)) H) : Q (.bl b) H := by subst h; exact q
theorem qOb {a b : Bool} {H : Hp} {Q : Bool → Hp → Prop} (h : a = false) (q : Q (a || b) H) : Q b H := by subst h; exact q
theorem anF {a b : Bool} (h : a = false) : (a && b) = false := by rw [h]; rfl
theorem orTt {a b : Bool} (h : a = true) : (a || b) = true := by rw [h]; rfl
theorem ifTr {c : Bool} {A B : Prop} (h : c = true) (q : A) : if c = true then A else B := by rw [if_pos h]; exact q
theorem ifFr {c : Bool} {A B : Prop} (h : c = false) (q : B) : if c = true then A else B := by rw [if_neg (by rw [h]; decide)]; exact q

/-! ### None -/
class NN (α : Type) [Enc α] : Prop where
  ne : ∀ x : α, Enc.d x ≠ .none
instance : NN Int := ⟨fun _ => nofun⟩
instance : NN Bool := ⟨fun _ => nofun⟩
instance : NN Str := ⟨fun _ => nofun⟩
instance {α : Type} [Enc α] : NN (List α) := ⟨fun _ => nofun⟩
instance {α : Type} [Enc α] : NN (VT α) := ⟨fun _ => nofun⟩
instance {α β : Type} [Enc α] [Enc β] : NN (α × β) := ⟨fun _ => nofun⟩
instance {α β γ : Type} [Enc α] [Enc β] [Enc γ] : NN (T3 α β γ) := ⟨fun _ => nofun⟩
instance {α β γ δ : Type} [Enc α] [Enc β] [Enc γ] [Enc δ] : NN (T4 α β γ δ) := ⟨fun _ => nofun⟩
instance {α β γ δ ε : Type} [Enc α] [Enc β] [Enc γ] [Enc δ] [Enc ε] : NN (T5 α β γ δ ε) := ⟨fun _ => nofun⟩
theorem isN_eq {α : Type} [Enc α] [NN α] {K : PySem.W.Frag} {F : Hp} {v : V} {o : Option α} (r : R K F v o) : decide (v = .non) = o.isNone := by
  cases o with
  | none =>
    have e := R.non_v r
    subst e
    rfl
  | some x =>
    have r' : Rp K F v (Enc.d x) := r
    have h : v ≠ .non := fun e => by
      subst e
      have n := NN.ne x
      revert r' n
      generalize Enc.d x = d
      intro r' n
      cases r'
      exact n rfl
    exact decide_eq_false h

/-! ### walks over texts -/
theorem str_lt {x : Str} {i c : Nat} (h : x.cps[i]? = some c) : i < x.cps.size := (Array.getElem?_eq_some_iff.mp h).1
theorem for_str {z : Str} {g : TG} {tb : TS} {D : Ends} {σ : L2.St} {H : Hp} (Pv : Nat → L2.St → Hp → Prop) (h0 : Pv 0 σ H)
    (hs : ∀ i c σ H, z.cps[i]? = some c → Pv i σ H → g (.str (sgn c)) σ H fun σ2 H2 => tb { D with nx := Pv (i + 1), ct := Pv (i + 1), bk := D.nx } σ2 H2) (hd : ∀ σ H, Pv z.cps.size σ H → D.nx σ H) :
    ∃ W : Nat → Nat → L2.St → Hp → Prop, (∃ m, W 0 m σ H) ∧ ∀ i m σ H, W i m σ H →
      ((Its z).stop i H ∧ D.nx σ H) ∨ ((Its z).go i H ∧ ∃ N : L2.St → Hp → Prop, (∀ σ' H', N σ' H' → ∃ m', m' < m ∧ W (i + 1) m' σ' H') ∧ ∀ x H', (Its z).yld i H x H' → g x σ H' fun σ2 H2 => tb { D with nx := N, ct := N, bk := D.nx } σ2 H2) :=
  for_it walk_str Pv h0 (fun _ _ _ _ _ => trivial) (fun i x σ H H' _ p y => by
    obtain ⟨rfl, c, hc, rfl⟩ := y
    exact hs i c σ _ hc p) hd
theorem lc_str {z : Str} {g : TG} {tt : TT} {te : TE} {vs : List Nat} {σ : L2.St} {H1 : Hp} {D : Addr} {Qd : Hp → Prop} (Pv : Nat → Hp → Prop) (h0 : Pv 0 (upd H1 D (.lst [])))
    (hs : ∀ i c H, z.cps[i]? = some c → Pv i H → g (.str (sgn c)) (wipe σ vs) H fun σ2 H2 => wipe σ2 vs = wipe σ vs ∧ tt σ2 H2 fun b H3 =>
      if b = true then te σ2 H3 fun y H4 => ∃ acc, H4 D = some (.lst acc) ∧ acc.length < sizeLine ∧ Pv (i + 1) (upd H4 D (.lst (acc ++ [y]))) else Pv (i + 1) H3) (hd : ∀ H, Pv z.cps.size H → Qd H) :
    ∃ W : Nat → Nat → Hp → Prop, (∃ m, W 0 m (upd H1 D (.lst []))) ∧ ∀ i m H, W i m H →
      ((Its z).stop i H ∧ Qd H) ∨ ((Its z).go i H ∧ ∃ Nx : Hp → Prop, (∀ H', Nx H' → ∃ m', m' < m ∧ W (i + 1) m' H') ∧ ∀ x H', (Its z).yld i H x H' → g x (wipe σ vs) H' fun σ2 H2 => wipe σ2 vs = wipe σ vs ∧ tt σ2 H2 fun b H3 =>
        if b = true then te σ2 H3 fun y H4 => ∃ acc, H4 D = some (.lst acc) ∧ acc.length < sizeLine ∧ Nx (upd H4 D (.lst (acc ++ [y]))) else Nx H3) :=
  lc_it walk_str Pv h0 (fun _ _ _ _ => trivial) (fun i x H H' _ p y => by
    obtain ⟨rfl, c, hc, rfl⟩ := y
    exact hs i c _ hc p) hd

/-! ### ranges from nought, lists -/
def rangeO1 (hi : Int) : Option (List Int) := if (-(2 ^ 62) ≤ hi ∧ hi < 2 ^ 62) ∧ hi.toNat ≤ sizeLine then some (rangeL 0 hi.toNat) else none
theorem rangeO1_ok {hi : Int} {l : List Int} (h : rangeO1 hi = some l) : ((-(2 ^ 62) ≤ hi ∧ hi < 2 ^ 62) ∧ hi.toNat ≤ sizeLine) ∧ rangeL 0 hi.toNat = l := by
  unfold rangeO1 at h
  split at h
  · exact ⟨by assumption, Option.some.inj h⟩
  · cases h
def setL {α : Type} (xs : List α) (i : Int) (x : α) : Option (List α) := (ixN xs.length i).map fun j => xs.set j x
theorem setL_ok {α : Type} {xs r : List α} {i : Int} {x : α} (h : setL xs i x = some r) : ∃ j, ixN xs.length i = some j ∧ xs.set j x = r := by
  unfold setL at h
  cases e : ixN xs.length i with
  | none => rw [e] at h; cases h
  | some j =>
    rw [e] at h
    exact ⟨j, rfl, Option.some.inj h⟩
/-- sorted whole numbers -/
def sortI (xs : List Int) : List Int := xs.mergeSort fun a b => decide (a ≤ b)
theorem sortI_perm (xs : List Int) : (sortI xs).Perm xs := List.mergeSort_perm _ _
theorem sortI_sorted (xs : List Int) : (sortI xs).Pairwise (· ≤ ·) := by
  have h := List.pairwise_mergeSort (le := fun a b : Int => decide (a ≤ b)) (fun a b c h1 h2 => decide_eq_true (Int.le_trans (of_decide_eq_true h1) (of_decide_eq_true h2)))
    (fun a b => by
      rcases Int.le_total a b with h | h
      · rw [decide_eq_true h]; rfl
      · rw [decide_eq_true h, Bool.or_true]) xs
  exact h.imp fun h => of_decide_eq_true h
theorem sortI_len (xs : List Int) : (sortI xs).length = xs.length := (sortI_perm xs).length_eq
theorem sorted_uniq : ∀ {xs ys : List Int}, xs.Perm ys → xs.Pairwise (· ≤ ·) → ys.Pairwise (· ≤ ·) → xs = ys
  | xs, ys, h, h1, h2 => h.eq_of_pairwise (le := (· ≤ ·)) (fun a b _ _ h3 h4 => Int.le_antisymm h3 h4) h1 h2
theorem sortI_uniq {ns ys : List Int} (h : ys.Perm ns) (h2 : ys.Pairwise (· ≤ ·)) : sortI ns = ys :=
  sorted_uniq ((sortI_perm ns).trans h.symm) (sortI_sorted ns) h2

/-! ### texts: what is stripped, joined -/
theorem GS.sub {x y : Str} (g : GS x) (h : ∀ c ∈ tl y, c ∈ tl x) (hl : (tl y).length ≤ (tl x).length) : GS y := GS.of (Nat.le_trans hl g.tll) fun c hc => g.mem c (h c hc)
theorem GS.join {sep r : Str} {ys : List Str} (gs : GS sep) (gy : ∀ y ∈ ys, GS y) (h : joinS sep ys = some r) : GS r := by
  obtain ⟨h1, rfl⟩ := joinS_ok h
  refine GS.of ?_ fun c hc => ?_
  · rw [← len_tl]
    have e : Txt.join sep ys = Str.join sep ys := by unfold Txt.join; exact StrLaws.glued_eq_join sep ys
    rw [e]
    refine Nat.le_trans (StrLaws.join_length_le sep ys) ?_
    rw [sizeLine_eq]
    exact h1
  · rw [tl_joinS] at hc
    have mem : ∀ (l : List (List Nat)), c ∈ joinL (tl sep) l → c ∈ tl sep ∨ ∃ p ∈ l, c ∈ p := by
      intro l
      induction l with
      | nil => intro h; cases h
      | cons p r ih =>
        cases r with
        | nil => intro h; exact .inr ⟨p, List.mem_singleton.mpr rfl, h⟩
        | cons q r =>
          intro h
          rcases List.mem_append.mp (show c ∈ p ++ (tl sep ++ joinL (tl sep) (q :: r)) from h) with h | h
          · exact .inr ⟨p, List.mem_cons_self .., h⟩
          · rcases List.mem_append.mp h with h | h
            · exact .inl h
            · rcases ih h with h | ⟨p', hp, h⟩
              · exact .inl h
              · exact .inr ⟨p', List.mem_cons_of_mem _ hp, h⟩
    rcases mem _ hc with h | ⟨p, hp, h⟩
    · exact gs.mem c h
    · obtain ⟨y, hy, rfl⟩ := List.mem_map.mp hp
      exact (gy y hy).mem c h
theorem GS.strip {x : Str} (g : GS x) (y : Str) : GS (Txt.stripChars x y) := by
  unfold Txt.stripChars Txt.stripBy
  split
  · exact g
  · have e : ∀ i j, tl (Builtin.Str.strSub x i j) = ((tl x).take j).drop i := fun i j => by
      show (x.cps.extract i j).toList = _
      rw [List.drop_take]
      simp [tl]
    refine g.sub (fun c hc => ?_) ?_
    · unfold stripped at hc
      rw [e] at hc
      exact List.mem_of_mem_take (List.mem_of_mem_drop hc)
    · unfold stripped
      rw [e, List.length_drop, List.length_take]
      omega
end G
/-! My base, part 6: defs by data. -/
namespace G
open PySem PySem.Spec PyProof.Rows L2 TL
abbrev FnP (K : PySem.W.Frag) (x : Str) (st : Stmt) (f : Addr) (fd : FuncData) : Prop := FunD K x x (defArgs st) (defBody st) (defScope st) [] [] f fd
section
variable {P : Program} {w : World} {K : PySem.W.Frag} {mg : Str → Option Value} {base : Heap} {x qual : Str} {params : Arguments} {body : List Stmt} {scope : Scope} {f : Addr} {fd : FuncData}
theorem fd_ok {N ps : List Str} {k : Nat} {sp : Sp} (F : FunD K x qual params body scope [] [] f fd) (S : FnScope N ps scope) (len : ∀ vs H Q E, sp vs H Q E → vs.length = ps.length)
    (hbody : ∀ (cdv : Value) (A : Around) (outer : List Env) (s : Shared) (H : Hp) (vs : List V) (Q : VK) (E : XK), Room k (A.deeper (envOfC qual scope s.heap.objs.size f cdv)) → sp vs H Q E →
      ∃ t, PSs (cxOf CX0 P w K mg base N qual scope f cdv A outer s H E).nox body t ∧ t { nx := fun _ H' => Q .non H', rt := Q } (start N vs) H) : FnOk P w K mg base CX0 (k + 1) f fd ps sp :=
  FunD.ok F S len fun cdv A outer s H vs Q E hr hsp =>
    let ⟨t, h, q⟩ := hbody cdv A outer s H vs Q E hr hsp
    ⟨t, h.nox, q⟩
theorem fd_plain (F : FunD K x qual params body scope [] [] f fd) : ∃ kV doc pm an cdv ct, fd = PySem.W.fnOf x qual params body scope .none kV doc pm an cdv ct := by
  obtain ⟨oc, od, dV, kV, doc, pm, an, cdv, ct, osl, rfl, lk, hcd, hD, hK⟩ := F.ex
  rcases hD with ⟨_, rfl⟩ | ⟨e, _⟩
  · exact ⟨kV, doc, pm, an, cdv, ct, rfl⟩
  · exact absurd rfl e
end
end G
/-! My base, part 7: a text turned round. -/
namespace G
open PySem PySem.Spec PyProof.Rows L2 TL
def revS (x : Str) : Str := ⟨(tl x).reverse.toArray⟩
theorem tl_revS (x : Str) : tl (revS x) = (tl x).reverse := by unfold revS tl; simp
theorem revS_len (x : Str) : (revS x).length = x.length := by rw [len_tl, tl_revS, List.length_reverse, ← len_tl]
theorem GS.rev {x : Str} (g : GS x) : GS (revS x) := g.sub (fun c hc => by rw [tl_revS] at hc; exact List.mem_reverse.mp hc) (by rw [tl_revS, List.length_reverse]; exact Nat.le_refl _)
theorem rev_pick (z : Str) : (⟨((Builtin.Str.strSliceIndices none none (-1) z.length).filterMap (z.cps[·]?)).toArray⟩ : Str) = revS z := by
  have h := step_rev_list z default
  unfold Txt.sliceBy slicePicked at h
  rw [if_neg (by intro h; exact absurd (Bool.and_eq_true_iff.mp h).1 (by decide))] at h
  unfold revS
  have e2 : (tl z).reverse = (List.range z.length).map fun k => z.cps.getD (z.length - 1 - k) 0 := by
    refine List.ext_getElem (by rw [List.length_reverse, List.length_map, List.length_range, ← len_tl]) fun i h1 h2 => ?_
    rw [List.getElem_reverse, List.getElem_map, List.getElem_range]
    have hi : i < z.length := by rw [List.length_reverse, ← len_tl] at h1; exact h1
    have hz : z.cps.size = z.length := rfl
    simp only [tl, Array.getElem_toList, Array.length_toList]
    rw [Array.getD, dif_pos (show z.length - 1 - i < z.cps.size by omega)]
    rfl
  rw [e2, ← h]
  rfl
def tRevS (te : TE) : TE := fun σ H Q => te σ H fun x H1 => ∃ z, x = .str z ∧ z.length ≤ sizeLine ∧ Q (.str (revS z)) H1
theorem pe_revS {X : Cx} {e : Expr} {te : TE} {k : Nat} {p1 p2 p3 pos : Pos} (he : PE X e te) : PE X (.Subscript e (.Slice none none (some (.UnaryOp .USub (.Constant (.int 1) k p1) p2)) p3) pos) (tRevS te) := by
  refine ⟨fun pins s σ H Q I h => ?_⟩
  refine Subscript_ (thn (he.run pins s σ H _ I h) fun v s1 ⟨x, H1, I1, r1, q1⟩ => ?_)
  obtain ⟨z, ex, hz, q⟩ := q1
  subst ex
  obtain ⟨t, rfl⟩ := r1
  have hst : PO X (some (.UnaryOp .USub (.Constant (.int 1) k p1) p2)) (tPart (tUn (rU fun i => .int (-i)) (tC (.int 1)))) := po_some (pe_un un_neg pe_int)
  refine wpAny_Slice (thn (po_none.run pins s1 σ H1 (fun o H2 => o = none ∧ H2 = H1) I1 ⟨rfl, rfl⟩) fun vl s2 ⟨l, H2, I2, pl, el, e2⟩ => ?_)
  subst el e2
  refine thn (po_none.run pins s2 σ H2 (fun o H3 => o = none ∧ H3 = H2) I2 ⟨rfl, rfl⟩) fun vu s3 ⟨u, H3, I3, pu, eu, e3⟩ => ?_
  subst eu e3
  refine thn (hst.run pins s3 σ H3 (fun o H4 => o = some (-1) ∧ H4 = H3) I3 ⟨1, rfl, -1, rfl, rfl, rfl⟩) fun vs s4 ⟨o, H4, I4, ps, eo, e4⟩ => ?_
  subst eo e4
  have I5 : Inv X pins σ H4 { s4 with heap := s4.heap.push { cls := .type "slice", data := .fields #[vl, vu, vs] } } := I4.kept (t' := s4.toks) fun b ob q => Heap.get?_push_of_some _ q
  cases pl
  cases pu
  cases ps with | int _ t2 => ?_
  show wpAny (model X.prog X.w) X.A (subscriptTail e (.Slice none none (some (.UnaryOp .USub (.Constant (.int 1) k p1) p2)) p3) (.str z t) (.ref s4.heap.objs.size)) (EP X pins σ Q) X.xe { s4 with heap := s4.heap.push { cls := .type "slice", data := .fields #[.none, .none, .int (-1) t2] } }
  refine tail_any (ops := [.str z t, .ref s4.heap.objs.size]) (typeIs_str _ _ _) F.slot_str_getitem.lookup ?_ (by with_unfolding_all rfl)
  obtain ⟨os, hos, hcs, hds⟩ := Heap.IsSliceOf.new s4.heap Value.none Value.none (Value.int (-1) t2)
  refine wpAny_getItem_str_slice (l := none) (u := none) (st := some (-1, t2)) ⟨os, hos, hcs, hds⟩ rfl ?_
  have e1 : sliceMade z t none none (some (-1, t2)) = .str (revS z) := by
    unfold sliceMade
    rw [if_neg (by intro h; exact absurd (show ((-1 : Int) == 1) = true from (Bool.and_eq_true_iff.mp h).1) (by decide))]
    exact congrArg Made.str (rev_pick z)
  rw [e1]
  have hl : (revS z).length ≤ sizeLine := by rw [revS_len]; exact hz
  exact ⟨hl, .str _, _, I5.tok _, ⟨_, rfl⟩, q⟩
end G
/-! My base, part 8: which type a thing is of; alike. -/
namespace G
open PySem PySem.Spec PyProof.Rows L2 TL
def tyD : PyData → String
  | .none => "NoneType"
  | .bool _ => "bool"
  | .int _ => "int"
  | .str _ => "str"
  | .list _ => "list"
  | .tuple _ => "tuple"
  | .dict _ => "dict"
def isSq (d : PyData) : Bool := tyD d == "list" || tyD d == "tuple"
section
variable {K : PySem.W.Frag} {F H : Hp} {v : V} {d : PyData} {a : Addr} {xs : List V}
theorem SqL.ty (h : SqL K H a xs) : TyX K H (.ref a) (.type "list") := by
  rcases h with (h | ⟨o, h⟩) | ⟨o, its, n, e, c, _⟩
  · exact .base (.lst h)
  · exact .base (.frz h)
  · exact .kList e c
theorem SqT.ty (h : SqT K H a xs) : TyX K H (.ref a) (.type "tuple") := by
  rcases h with (h | ⟨o, h⟩) | ⟨o, its, n, e, c, _⟩
  · exact .base (.tup h)
  · exact .fTuple h
  · exact .kTuple e c
theorem Rp.ty (h : Rp K H v d) : TyX K H v (.type (tyD d)) := by
  cases h with
  | non => exact .base .non
  | bl b => exact .base (.bl b)
  | int i => exact .base (.int i)
  | str x _ => exact .base (.str x)
  | lst hs _ _ => exact SqL.ty hs
  | tup hs _ _ => exact .base (.tup hs)
/-- the six kinds -/
def Knd (s : String) : Prop := s = "NoneType" ∨ s = "bool" ∨ s = "int" ∨ s = "str" ∨ s = "list" ∨ s = "tuple"
theorem Rp.knd (h : Rp K H v d) : Knd (tyD d) := by
  cases h with
  | non => exact .inl rfl
  | bl _ => exact .inr (.inl rfl)
  | int _ => exact .inr (.inr (.inl rfl))
  | str _ _ => exact .inr (.inr (.inr (.inl rfl)))
  | lst _ _ _ => exact .inr (.inr (.inr (.inr (.inl rfl))))
  | tup _ _ _ => exact .inr (.inr (.inr (.inr (.inr rfl))))
theorem kit_two (s : String) (b c : Bool) (h1 : kitB s "list" = some b) (h2 : kitB s "tuple" = some c) : PySem.W.kitAny K (.type s) [.type "list", .type "tuple"] = some (b || c) := by
  refine kitAny_cons (b := b) (kit_ty h1) (fun hb => ?_) (fun hb => by rw [hb]; rfl)
  refine kitAny_cons (b := c) (kit_ty h2) (fun hc => ?_) (fun hc => by rw [hc, Bool.or_true])
  rw [hb, hc]
  exact kitAny_nil
theorem kit_lt {s : String} (h : Knd s) : PySem.W.kitAny K (.type s) [.type "list", .type "tuple"] = some (s == "list" || s == "tuple") := by
  rcases h with rfl | rfl | rfl | rfl | rfl | rfl <;> exact kit_two _ _ _ (by decide +kernel) (by decide +kernel)
theorem kit_one {s : String} (h : Knd s) (t : String) (ht : t = "list" ∨ t = "bool" ∨ t = "str") : PySem.W.kitOne K (.type s) (.type t) = some (s == t) := by
  rcases ht with rfl | rfl | rfl <;> rcases h with rfl | rfl | rfl | rfl | rfl | rfl <;> exact kit_ty (by decide +kernel)
theorem kit_int {s : String} (h : Knd s) : PySem.W.kitOne K (.type s) (.type "int") = some (s == "int" || s == "bool") := by
  rcases h with rfl | rfl | rfl | rfl | rfl | rfl <;> exact kit_ty (by decide +kernel)
end
/-- no value of the data is deeper than n -/
theorem depth_list {n : Nat} {ds : List PyData} (h : PyData.depthAll ds + 1 ≤ n + 1) {d : PyData} (hd : d ∈ ds) : d.depth ≤ n := by
  have : ∀ (l : List PyData), d ∈ l → d.depth ≤ PyData.depthAll l := by
    intro l
    induction l with
    | nil => intro h; cases h
    | cons x l ih =>
      intro h
      simp only [PyData.depthAll]
      rcases List.mem_cons.mp h with rfl | h
      · omega
      · have := ih h
        omega
  have := this ds hd
  omega
def sp_alike (n : Nat) (K : PySem.W.Frag) : Sp := fun vs H Q _ => ∃ (v1 v2 : V) (d : PyData), vs = [v1, v2] ∧ Rp K H v1 d ∧ Rp K H v2 d ∧ d.depth ≤ n ∧ (∀ F' H', Gr M0 H H F' H' → Q (.bl true) H')
theorem al_sc {K : PySem.W.Frag} {H : Hp} {v1 v2 : V} {d : PyData} (r1 : Rp K H v1 d) (r2 : Rp K H v2 d) (hc : (tyD d == "list" || tyD d == "tuple") = false) : v1 = v2 ∧ scal v1 v2 = true := by
  cases r1 with
  | non => cases r2; exact ⟨rfl, rfl⟩
  | bl b => cases r2; exact ⟨rfl, rfl⟩
  | int i => cases r2; exact ⟨rfl, rfl⟩
  | str x _ => cases r2; exact ⟨rfl, rfl⟩
  | lst h1 h2 h3 => exact absurd hc (by simp [tyD])
  | tup h1 h2 h3 => exact absurd hc (by simp [tyD])
theorem ix_go {K : PySem.W.Frag} {H : Hp} {p : Addr} {xs : List V} {i : Nat} {v : V} {Q : VK} (h : SqL K H p xs ∨ SqT K H p xs) (e : xs[i]? = some v) (q : Q v H) : rIx K (.ref p) (.int (0 + (i : Nat))) H Q := by
  have ha : atI xs (0 + (i : Nat)) = some v := by rw [Int.zero_add]; exact atI_nat e
  rcases h with h | h
  · exact .inl ⟨p, xs, _, v, rfl, rfl, h, ha, q⟩
  · exact .inr (.inl ⟨p, xs, _, v, rfl, rfl, h, ha, q⟩)
theorem sq_up {K : PySem.W.Frag} {H H' : Hp} {p : Addr} {xs : List V} (h : SqL K H p xs ∨ SqT K H p xs) (e : Same H H') : SqL K H' p xs ∨ SqT K H' p xs := by
  rcases h with h | h
  · exact .inl (e.seq h)
  · exact .inr (SqT_mono e h)
def spA : Nat → PySem.W.Frag → Sp
  | 0, _ => fun _ _ _ _ => False
  | n + 1, K => sp_alike n K
theorem al_sq {K : PySem.W.Frag} {H : Hp} {v1 v2 : V} {d : PyData} {n : Nat} (r1 : Rp K H v1 d) (r2 : Rp K H v2 d) (hc : (tyD d == "list" || tyD d == "tuple") = true) (hd : d.depth ≤ n) :
    ∃ a1 ws1 a2 ws2 ds m, v1 = .ref a1 ∧ v2 = .ref a2 ∧ (SqL K H a1 ws1 ∨ SqT K H a1 ws1) ∧ (SqL K H a2 ws2 ∨ SqT K H a2 ws2) ∧ ws1.length ≤ sizeLine ∧ ws2.length ≤ sizeLine ∧ RpA K H ws1 ds ∧ RpA K H ws2 ds ∧ n = m + 1 ∧ ∀ d ∈ ds, d.depth ≤ m := by
  cases r1 with
  | non => exact absurd hc (by decide)
  | bl b => exact absurd hc (by simp [tyD])
  | int i => exact absurd hc (by simp [tyD])
  | str x _ => exact absurd hc (by simp [tyD])
  | lst h1 h2 h3 =>
    cases r2 with
    | lst k1 k2 k3 =>
      cases n with
      | zero => exact absurd hd (Nat.not_succ_le_zero _)
      | succ m => exact ⟨_, _, _, _, _, m, rfl, rfl, .inl h1, .inl k1, h2, k2, h3, k3, rfl, fun d hd2 => depth_list hd hd2⟩
  | tup h1 h2 h3 =>
    cases r2 with
    | tup k1 k2 k3 =>
      cases n with
      | zero => exact absurd hd (Nat.not_succ_le_zero _)
      | succ m => exact ⟨_, _, _, _, _, m, rfl, rfl, .inr (.inl (.inl h1)), .inr (.inl (.inl k1)), h2, k2, h3, k3, rfl, fun d hd2 => depth_list hd hd2⟩
theorem R.of_eq {α : Type} [Enc α] {K : PySem.W.Frag} {F : Hp} {v : V} {x y : α} (h : x = y) (r : R K F v y) : R K F v x := by rw [h]; exact r
theorem retQ {e : Bool} {Q : VK} {H : Hp} (h : e = true) (q : Q (.bl true) H) : Q (.bl e) H := by rw [h]; exact q
def m_l_alike {α : Type} [DecidableEq α] (x y : α) : Option Bool := if x = y then some true else none
theorem alike_ok {α : Type} [DecidableEq α] {x y : α} {r : Bool} (h : m_l_alike x y = some r) : x = y ∧ true = r := by
  unfold m_l_alike at h
  split at h
  · exact ⟨by assumption, Option.some.inj h⟩
  · cases h
theorem op_powW {X : Cx} : OpR X (binaryOp .Pow) (rI (fun i j => 0 ≤ j ∧ (Builtin.Int.intBits i : Int) * j ≤ 2 ^ 27) fun i j => .int (i ^ j.toNat)) := opI fun _ _ _ _ _ _ _ hc q => pow_int hc.1 hc.2 q
end G
/-! My base, part 9: parts of a text. -/
namespace G
open PySem PySem.Spec PyProof.Rows L2 TL
theorem GS.sub_ {x : Str} (g : GS x) (i j : Nat) : GS (Builtin.Str.strSub x i j) := by
  have e : tl (Builtin.Str.strSub x i j) = ((tl x).take j).drop i := by
    show (x.cps.extract i j).toList = _
    rw [List.drop_take]
    simp [tl]
  refine g.sub (fun c hc => ?_) ?_
  · rw [e] at hc
    exact List.mem_of_mem_take (List.mem_of_mem_drop hc)
  · rw [e, List.length_drop, List.length_take]
    omega
theorem GS.empty : GS Str.empty := ⟨Nat.zero_le _, by decide +kernel⟩
theorem GS.part {x y : Str} (gx : GS x) (gy : GS y) : GS (Txt.partition x y).1 ∧ GS (Txt.partition x y).2.1 ∧ GS (Txt.partition x y).2.2 := by
  unfold Txt.partition
  split
  · exact ⟨gx.sub_ _ _, gy, gx.sub_ _ _⟩
  · exact ⟨gx, .empty, .empty⟩
def partS (x y : Str) : T3 Str Str Str := ⟨(Txt.partition x y).1, (Txt.partition x y).2.1, (Txt.partition x y).2.2⟩
theorem lpgo {S R T : Type} {s : S} {f : S → Option T} {g : R → Option T} {t : T} (h : lpK (.go s) f g = some t) : f s = some t := h
end G
/-! My base, part 10: sorted(set(a list of whole numbers)). -/
namespace G
open PySem PySem.Spec PyProof.Rows L2 TL
section
variable {P : Program} {w : World} {A : Around} {E : Value → Shared → Prop} {s : Shared}
/-- the empty set, as it is laid -/
abbrev newS (w : World) : Obj := { cls := .type "set", dict := none, data := .set #[] 0 (.fresh 0 0 (!w.params.followText "set-order")) }
theorem set_of_list {l : Addr} {xs : Array Value} (ks : List Int) {Q : Value → Shared → Prop} (hh : A.handled = none) (hl : s.heap.IsList l xs) (hk : IntsAre xs.toList ks) (hb : ks.length + 1 < scanBound)
    (hq : ∀ (h' : Heap) (tk c : Nat), SetR w h' s.heap.objs.size (fun j => decide (j ∈ ks)) c → c ≤ ks.length → (∀ b o, s.heap.get? b = some o → h'.get? b = some o) → Q (.ref s.heap.objs.size) { s with heap := h', toks := tk }) :
    wpAny (model P w) A (call (.type "set") [.ref l]) Q E s := by
  have hsz : xs.size = ks.length := (Array.length_toList (xs := xs)).symm.trans (IntsAre.length hk)
  obtain ⟨c0, tl0, hmro⟩ := F.called_set.mro
  have hmade := F.called_set.made; have hsub := F.called_set.sub
  refine wpAny_call (codeAny_of_tree ?_); show wpAny _ _ (callAny (.type "set") _) _ _ _
  refine wpAny_pure ⟨Code.quiet_builtin _ (by decide +kernel), codeAny_builtin F.entry_type_call ?_⟩; rw [Around.under_plain (weight_type_call_type "set" [.ref l] []) rfl]
  have n1 := F.called_set.notType; have n2 := F.called_set.canCreate; have n3 := F.typeCall_set_1 (.ref l)
  repeat (any_goals (first | assumption | wp_step))
  refine codeAny_mono (code_set_led1 (A := A.in1) (.ref l) (E := E) (Q₁ := fun ob s₁ => ob = .ref s.heap.objs.size ∧ s₁ = { s with heap := s.heap.push (newS w) }) ⟨rfl, rfl⟩) fun r s₁ hr => ?_
  cases r with
  | error e => exact hr
  | ok fl =>
    cases fl with
    | next => exact hr.elim
    | brk => exact hr.elim
    | cont => exact hr.elim
    | ret ob =>
      obtain ⟨rfl, rfl⟩ := hr
      have hS : (s.heap.push (newS w)).get? s.heap.objs.size = some (newS w) := Heap.get?_push_size _ rfl
      have hT : Shared.TypeIs { s with heap := s.heap.push (newS w) } (.ref s.heap.objs.size) "set" := ⟨_, hS, rfl⟩
      have hli := F.called_set.init.lookup; have hbi := F.called_set.init.bind (.ref s.heap.objs.size)
      repeat (any_goals (first | assumption | wp_step))
      refine codeAny_mono (codeAny_call_builtin (R := wants (fun rr s₂ => rr = .none ∧ ∃ h' tk c, s₂ = { s with heap := h', toks := tk } ∧ SetR w h' s.heap.objs.size (fun j => decide (j ∈ ks)) c ∧ c ≤ ks.length ∧ (∀ b o, s.heap.get? b = some o → h'.get? b = some o)) E)
        F.called_set.init.plain F.entry_set_init (check_set_init_1 hT ?_)) fun r2 s2 hr2 => ?_
      · obtain ⟨⟨lc, ld, lt, ls⟩, hol, hcl, nl, hdl⟩ := hl
        simp only at hcl hdl; subst hcl; subst hdl
        have hol' : (s.heap.push (newS w)).get? l = some { cls := .type "list", dict := ld, data := .seq xs nl, slots := ls } := Heap.get?_push_of_some _ hol
        have b1 := F.sub_list_set; have b2 := F.sub_list_frozenset
        have b3 : (Value.type "list" == Value.type "dict") = false := by decide
        have hl1 : (s.heap.push (newS w)).IsList l xs := ⟨_, hol', rfl, nl, rfl⟩
        unfold Builtin.«set.__init__» noKeywords Builtin.Frozenset.updateFrom; generalize hPI : pyIter = PI
        wp_walk
        subst hPI; refine wpAny_pyIter_list hl1 ?_
        refine wpAny_bind (wpAny_runValue ?_); have lS : l < s.heap.objs.size := Heap.lt_size hol
        have hh3 : A.in1.in1.in1.handled = none := by simp [hh]
        have lI : l ≠ (s.heap.push (newS w)).objs.size := by rw [Heap.size_push]; exact Nat.ne_of_lt (Nat.lt_succ_of_lt lS)
        have sI : s.heap.objs.size ∉ [(s.heap.push (newS w)).objs.size, l] := by
          rw [Heap.size_push]
          intro z
          rcases List.mem_cons.mp z with z | z
          · exact absurd z (Nat.ne_of_lt (Nat.lt_succ_self _))
          · exact absurd (List.mem_singleton.mp z) (Nat.ne_of_gt lS)
        have each : ∀ (i : Nat) (v : Value), xs[i]? = some v → ∃ k t, ks[i]? = some k ∧ v = .int k t := fun i v hv => by
          have hi : i < ks.length := by rw [← hsz]; exact (Array.getElem?_eq_some_iff.mp hv).1
          obtain ⟨t, e⟩ := PyProof.Rows.IntsAre.int_at hk i v (by rw [Array.getElem?_toList]; exact hv)
          exact ⟨ks[i], t, List.getElem?_eq_getElem hi, by rw [e, List.getD_eq_getElem?_getD, List.getElem?_eq_getElem hi]; rfl⟩
        refine set_update_ints ((Walks.list hh3 _ l lI xs).toS) s.heap.objs.size sI ks hsz hb each (xs.size - 0) 0 _ (by omega) (Nat.zero_le _) ⟨⟨_, Heap.get?_push_size _ rfl, rfl, rfl⟩, (hl1.push _)⟩ ⟨0, Nat.le_refl 0, setR_new_at (Heap.get?_push_of_some _ hS)⟩ (fun s' c' hm hc' hS' => ?_)
        obtain ⟨h', g2, d', tk', os'⟩ := s'
        have eg : g2 = s.gens := hm.gens; have ed : d' = s.drawn := hm.drawn
        have eo : os' = s.os := hm.os; subst eg; subst ed; subst eo
        show wpAny _ _ _ _ _ _; refine wpAny_pure ?_
        show wpAny _ _ (ret Value.none) _ _ _; rw [hsz] at hc'
        refine wpAny_pure ⟨rfl, h', tk', c', rfl, hS', hc', fun b o e => ?_⟩
        have m0 : b < s.heap.objs.size := Heap.lt_size e
        refine hm.heap b o (fun z => ?_) (Heap.get?_push_of_some _ (Heap.get?_push_of_some _ e))
        rcases List.mem_cons.mp z with z | z
        · exact absurd z (Nat.ne_of_lt m0)
        · have z := List.mem_singleton.mp z
          rw [Heap.size_push] at z
          exact absurd z (Nat.ne_of_lt (Nat.lt_succ_of_lt m0))
      · cases r2 with
        | error e => exact hr2
        | ok fl2 =>
          cases fl2 with
          | next => exact hr2.elim
          | brk => exact hr2.elim
          | cont => exact hr2.elim
          | ret rr =>
            obtain ⟨rfl, h', tk, c, rfl, hS', hc', hk'⟩ := hr2
            repeat (any_goals (first | assumption | wp_step))
            exact hq _ _ _ hS' hc' hk'
end
end G
/-! My base, part 11: the set sorted. -/
namespace G
open PySem PySem.Spec PyProof.Rows L2 TL
section
variable {P : Program} {w : World} {A : Around} {E : Value → Shared → Prop} {s : Shared} {a : Addr}
theorem set_sorted {S : Int → Bool} {n : Nat} {Q : Value → Shared → Prop} (R : SetR w s.heap a S n) (hh : A.handled = none)
    (hq : ∀ s' p (out : List Value) (c : Nat) (ns : List Int), (∀ b o, s.heap.get? b = some o → s'.heap.get? b = some o) → s'.gens = s.gens → s'.os = s.os → s.heap.objs.size ≤ p →
      s'.heap.get? p = some (seqObj "list" out.toArray c) → IntsAre out ns → ns.Pairwise (· < ·) → (∀ k, k ∈ ns ↔ S k = true) → ns.length ≤ n → Q (.ref p) s') :
    wpAny (model P w) A (call (.builtin "sorted") [.ref a]) Q E s := by
  obtain ⟨o, es, ep, t, ho, hex, hd, good, nd, hm, hb, hf, hn, hr, hl⟩ := R
  refine Calls.call_function_entry kind_sorted plain_sorted entry_sorted (args_sorted1 _) ?_; unfold Builtin.«sorted»
  refine wpAny_bind (m := checkCount "sorted" 1 1 _) (wpAny_pure ?_)
  refine wpAny_bind (collect_set (A := A.in1) hh ⟨o, ho, hex.1, hd⟩ hf hb hr hl fun s1 vs k1 hz g1 o1 pm => ?_)
  have hvl : vs.length = n := by rw [pm.length_eq, List.length_map, Array.length_toList]; exact hn
  have hI : IntsAre vs (vs.map Builtin.Re.reRawOf) := ints_of vs fun v hv => by
    obtain ⟨e, he, q⟩ := List.mem_map.mp (pm.mem_iff.mp hv)
    obtain ⟨k, tk, h1, _⟩ := good e he
    exact ⟨k, tk, q ▸ h1⟩
  have pk : (vs.map Builtin.Re.reRawOf).Perm (es.toList.map keyOf) := by
    have q := pm.map Builtin.Re.reRawOf
    rwa [List.map_map] at q
  have hsl : vs.length ≤ sizeLine := by
    rw [hvl, ← hn, sizeLine_eq]
    have := hb
    unfold scanBound at this
    omega
  refine wpAny_bind (wpAny_newList ?_ hsl)
  have hoL : (s1.heap.push (seqObj "list" vs.toArray 0)).get? s1.heap.objs.size = some (seqObj "list" vs.toArray 0) := Heap.get?_push_size _ rfl
  refine wpAny_bind (wpAny_holding (wpAny_call_entry slot_list_sort ⟨_, hoL, rfl⟩ entry_list_sort (SrtO.list_sort_ord SrtO.swo_int hoL hsl (fun h2 => SrtO.ints_sortable hI h2) fun out h1 h2 => ⟨_, rfl, ?_⟩) (args_list_sort _)))
  obtain ⟨z1, z2, z3⟩ := SrtO.ints_out hI h1 h2
  obtain ⟨c, hc⟩ := sortedHeap_at (vs := vs) (out := out.toArray) hoL
  have pn := z2.trans pk
  refine wpAny_pure ⟨_, rfl, hq _ s1.heap.objs.size out c _ (fun b u e => ?_) g1 o1 hz hc z1 (lt_of_le_nodup _ z3 (pn.nodup_iff.mpr nd)) (fun k => by rw [pn.mem_iff, ← hm k]) (by rw [pn.length_eq, List.length_map, Array.length_toList, hn]; exact Nat.le_refl _)⟩
  have q := k1 b u e
  have hlt := Heap.lt_size q
  show (sortedHeap (s1.heap.push (seqObj "list" vs.toArray 0)) s1.heap.objs.size vs out.toArray).get? b = some u
  rw [sortedHeap_old (Nat.ne_of_lt hlt) (by rw [Heap.size_push]; exact Nat.lt_succ_of_lt hlt)]
  exact Heap.get?_push_of_some _ q
end
end G
/-! My base, part 12: the rule. -/
namespace G
open PySem PySem.Spec PyProof.Rows L2 TL
section
variable {X : Cx}
/-- sorted(set(a list of whole numbers)) -/
def tSSet (K : PySem.W.Frag) (ta : TE) : TE := fun σ H Q => ta σ H fun x H1 => ∃ (l : Addr) (ks : List Int), x = V.ref l ∧ SqL K H1 l (ks.map V.int) ∧ ks.length < 4000 ∧
  ∀ (ns : List Int) (p : Addr), ns.Pairwise (· < ·) → (∀ k, k ∈ ns ↔ k ∈ ks) → ns.length ≤ ks.length → H1 p = none → Q (.ref p) (upd H1 p (.lst (ns.map V.int)))
theorem pe_sset {a : Expr} {ta : TE} {p p2 q pos : Pos} (hc : X.calm = true) (hg : Gl X "sorted") (hm : X.mg "sorted" = none) (hg2 : Gl X "set") (hm2 : X.mg "set" = none) (ha : PE X a ta)
    (na : starEach [a] X.env = (false, eval a X.env) :: starEach [] X.env := by rfl) : PE X (.Call (.Name "sorted" p) [.Call (.Name "set" p2) [a] [] q] [] pos) (tSSet X.K ta) := by
  refine ⟨fun pins s σ H Q I h => ?_⟩
  refine Call_ (ld_blt I hg hm (u := .builtin "sorted") (by decide +kernel) ?_)
  refine PyProof.Rows.callWith_builtin1 (PyProof.Rows.args_cons ?_ rfl) rfl rfl
  refine Call_ (ld_blt I hg2 hm2 PyProof.Rows.boot_set ?_)
  refine PyProof.Rows.callWith_type1 (PyProof.Rows.args_cons (thn (ha.run pins s σ H _ I h) fun v s1 ⟨x, H1, I1, r1, q1⟩ => PyProof.Rows.args_nil ?_) na) na rfl
  obtain ⟨l, ks, rfl, hq, h4, q1⟩ := q1
  cases r1
  obtain ⟨its, r, pl, hz⟩ := I1.list hq
  refine set_of_list ks (I1.ok.hd hc) pl.isList (by simpa using r.ints) (by unfold scanBound; omega) fun h' tk c hS hck hk => ?_
  refine PyProof.Rows.args_nil ?_
  have I2 : Inv X pins σ H1 { s1 with heap := h', toks := tk } := I1.kept fun b o e => hk b o e
  refine set_sorted hS (I2.ok.hd hc) fun s' p out c2 ns k g o hp hgt hi hs hmem hlen => ?_
  have hlen2 : ns.length ≤ ks.length := Nat.le_trans hlen hck
  have hlz : (ns.map V.int).length ≤ sizeLine := by rw [List.length_map, sizeLine_eq]; omega
  have hn : H1 p = none := I2.hok.fresh hp
  have J : Inv X pins σ (upd H1 p (.lst (ns.map V.int))) s' := Inv.call' (ch := []) I2 o (Un.laid k hp hn) (I2.hok.laid k hp ⟨hlz, out, c2, vals_of_ints hi, hgt⟩) (by rw [g]; exact I2.bare) (fun _ z => nomatch z)
  exact ⟨.ref p, _, J, rfl, q1 ns p hs (fun k => by rw [hmem k, decide_eq_true_iff]) hlen2 hn⟩
end
end G
/-! My base, part 13: what sorted(set(..)) comes to. -/
namespace G
open PySem PySem.Spec PyProof.Rows L2 TL
/-- x put into a rising list, once -/
def ins (x : Int) : List Int → List Int
  | [] => [x]
  | y :: ys => if x < y then x :: y :: ys else if x = y then y :: ys else y :: ins x ys
def ssort (xs : List Int) : List Int := xs.foldr ins []
theorem ins_mem {x k : Int} : ∀ {l : List Int}, k ∈ ins x l ↔ k = x ∨ k ∈ l
  | [] => by simp [ins]
  | y :: ys => by
    unfold ins
    split
    · simp
    · split
      · rename_i h
        subst h
        simp
      · rw [List.mem_cons, ins_mem, List.mem_cons]
        constructor
        · rintro (h | h | h)
          · exact .inr (.inl h)
          · exact .inl h
          · exact .inr (.inr h)
        · rintro (h | h | h)
          · exact .inr (.inl h)
          · exact .inl h
          · exact .inr (.inr h)
theorem ins_sorted {x : Int} : ∀ {l : List Int}, l.Pairwise (· < ·) → (ins x l).Pairwise (· < ·)
  | [], _ => List.pairwise_singleton _ _
  | y :: ys, h => by
    obtain ⟨h1, h2⟩ := List.pairwise_cons.mp h
    unfold ins
    split
    · rename_i hx
      exact List.pairwise_cons.mpr ⟨fun z hz => by
        rcases List.mem_cons.mp hz with rfl | hz
        · exact hx
        · exact Int.lt_trans hx (h1 z hz), h⟩
    · split
      · exact h
      · refine List.pairwise_cons.mpr ⟨fun z hz => ?_, ins_sorted h2⟩
        rcases ins_mem.mp hz with rfl | hz
        · omega
        · exact h1 z hz
theorem ssort_mem {k : Int} : ∀ {l : List Int}, k ∈ ssort l ↔ k ∈ l
  | [] => Iff.rfl
  | x :: l => by
    show k ∈ ins x (ssort l) ↔ _
    rw [ins_mem, ssort_mem, List.mem_cons]
theorem ssort_sorted : ∀ l : List Int, (ssort l).Pairwise (· < ·)
  | [] => List.Pairwise.nil
  | x :: l => ins_sorted (ssort_sorted l)
theorem rise_uniq : ∀ {a b : List Int}, a.Pairwise (· < ·) → b.Pairwise (· < ·) → (∀ k, k ∈ a ↔ k ∈ b) → a = b
  | [], [], _, _, _ => rfl
  | [], y :: _, _, _, h => absurd ((h y).mpr (List.mem_cons_self ..)) (fun z => nomatch z)
  | x :: _, [], _, _, h => absurd ((h x).mp (List.mem_cons_self ..)) (fun z => nomatch z)
  | x :: a, y :: b, ha, hb, h => by
    obtain ⟨a1, a2⟩ := List.pairwise_cons.mp ha
    obtain ⟨b1, b2⟩ := List.pairwise_cons.mp hb
    have e : x = y := by
      rcases List.mem_cons.mp ((h x).mp (List.mem_cons_self ..)) with z | z
      · exact z
      · rcases List.mem_cons.mp ((h y).mpr (List.mem_cons_self ..)) with z2 | z2
        · exact z2.symm
        · have := b1 x z
          have := a1 y z2
          omega
    subst e
    rw [rise_uniq a2 b2 fun k => ?_]
    constructor
    · intro hk
      rcases List.mem_cons.mp ((h k).mp (List.mem_cons_of_mem _ hk)) with z | z
      · have := a1 k hk; omega
      · exact z
    · intro hk
      rcases List.mem_cons.mp ((h k).mpr (List.mem_cons_of_mem _ hk)) with z | z
      · have := b1 k hk; omega
      · exact z
theorem ssort_uniq {xs ns : List Int} (h1 : ns.Pairwise (· < ·)) (h2 : ∀ k, k ∈ ns ↔ k ∈ xs) : ssort xs = ns :=
  rise_uniq (ssort_sorted xs) h1 fun k => by rw [ssort_mem, h2]
def ssetO (xs : List Int) : Option (List Int) := if xs.length < 4000 then some (ssort xs) else none
theorem ssetO_ok {xs r : List Int} (h : ssetO xs = some r) : xs.length < 4000 ∧ ssort xs = r := by
  unfold ssetO at h
  split at h
  · exact ⟨by assumption, Option.some.inj h⟩
  · cases h
end G
/-! My base, part 14: list(zip(two lists)). -/
namespace G
open PySem PySem.Spec PyProof.Rows L2 TL
theorem zip_nolen : typeLookup (.type "zip") "__len__" = pure none := by rw [typeLookup_type, builtinLookup_eq_fast]; kernel_rfl
theorem zip_nohint : typeLookup (.type "zip") "__length_hint__" = pure none := by rw [typeLookup_type, builtinLookup_eq_fast]; kernel_rfl
/-- where the gathering of a zip stands: Ts are the pairs handed out, all of them still there -/
structure ZSt (z TI TO i1 i2 l1 l2 : Addr) (lo : Nat) (xs ys : Array Value) (h : Heap) (Ts : List Addr) : Prop where
  ti : IsPair h TI (.ref i1) (.ref i2)
  z : (Ts = [] ∧ IsZip h z TI TO .none ∧ ∃ a b, IsPair h TO a b) ∨ ∃ T f, T ∈ Ts ∧ IsZipHeld h z TI TO T f
  a1 : h.IsListIter i1 l1 Ts.length
  a2 : h.IsListIter i2 l2 Ts.length
  b1 : h.IsList l1 xs
  b2 : h.IsList l2 ys
  prs : ∀ (j : Nat) (T : Addr), Ts[j]? = some T → ∃ x y, xs[j]? = some x ∧ ys[j]? = some y ∧ IsPair h T x y
  fr : ∀ T ∈ Ts, lo ≤ T
  nd : Ts.Nodup
theorem ne_lo {a b lo : Nat} (h : a < lo) (h2 : lo ≤ b) : b ≠ a := fun e => absurd (e ▸ h2) (Nat.not_le_of_lt h)
section
variable {P : Program} {w : World} {A : Around} {E : Value → Shared → Prop} {s : Shared} {z TI TO i1 i2 l1 l2 S : Addr} {lo : Nat} {xs ys : Array Value} {h h' : Heap} {Ts : List Addr}
theorem ZSt.at_T (Z : ZSt z TI TO i1 i2 l1 l2 lo xs ys h Ts) {T : Addr} (hT : T ∈ Ts) : ∃ o, h.get? T = some o := by
  obtain ⟨j, hj⟩ := List.getElem?_of_mem hT
  obtain ⟨x, y, _, _, p⟩ := Z.prs j T hj
  exact ⟨_, p⟩
/-- what is kept of it by a write elsewhere -/
theorem ZSt.keep (Z : ZSt z TI TO i1 i2 l1 l2 lo xs ys h Ts) (hS : S < lo) (S1 : S ≠ z) (S2 : S ≠ TI) (S3 : S ≠ TO) (S4 : S ≠ i1) (S5 : S ≠ i2) (S6 : S ≠ l1) (S7 : S ≠ l2) (k : ∀ b o, b ≠ S → h.get? b = some o → h'.get? b = some o) : ZSt z TI TO i1 i2 l1 l2 lo xs ys h' Ts := by
  refine ⟨k _ _ S2.symm Z.ti, ?_, Z.a1.at fun o e => k _ o S4.symm e, Z.a2.at fun o e => k _ o S5.symm e, Z.b1.at fun o e => k _ o S6.symm e, Z.b2.at fun o e => k _ o S7.symm e, fun j T hj => ?_, Z.fr, Z.nd⟩
  · rcases Z.z with ⟨e, q, a, b, r⟩ | ⟨T, f, hT, q⟩
    · exact .inl ⟨e, k _ _ S1.symm q, a, b, k _ _ S3.symm r⟩
    · exact .inr ⟨T, f, hT, k _ _ S1.symm q⟩
  · obtain ⟨x, y, e1, e2, p⟩ := Z.prs j T hj
    have hT := Z.fr T (List.mem_of_getElem? hj)
    exact ⟨x, y, e1, e2, k _ _ (ne_lo hS hT) p⟩
/-- one pair more -/
theorem ZSt.more (Z : ZSt z TI TO i1 i2 l1 l2 lo xs ys h Ts) (D : ZipApart z TI TO i1 i2 l1 l2) (hlo : lo ≤ h.objs.size) (hl : z < lo ∧ TO < lo ∧ i1 < lo ∧ i2 < lo) {f : Bool} {x y : Value} (c1 : IsZipHeld h' z TI TO h.objs.size f ∨ ∃ T, T ∈ Ts ∧ IsZipHeld h' z TI TO T f)
    (c2 : h'.IsListIter i1 l1 (Ts.length + 1)) (c3 : h'.IsListIter i2 l2 (Ts.length + 1)) (c4 : IsPair h' h.objs.size x y) (e1 : xs[Ts.length]? = some x) (e2 : ys[Ts.length]? = some y)
    (k : ∀ c o, c ≠ z → c ≠ TO → c ≠ i1 → c ≠ i2 → h.get? c = some o → h'.get? c = some o) : ZSt z TI TO i1 i2 l1 l2 lo xs ys h' (Ts ++ [h.objs.size]) := by
  have hn : h.objs.size ∉ Ts := fun m => by
    obtain ⟨o, e⟩ := Z.at_T m
    exact absurd (Heap.lt_size e) (Nat.lt_irrefl _)
  refine ⟨k _ _ D.TIz D.TITO D.TIi1 D.TIi2 Z.ti, .inr ?_, ?_, ?_, Z.b1.at fun o e => k _ o D.l1z D.l1TO D.l1i1 D.l1i2 e, Z.b2.at fun o e => k _ o D.l2z D.l2TO D.l2i1 D.l2i2 e, fun j T hj => ?_, fun T hT => ?_, ?_⟩
  · rcases c1 with c1 | ⟨T, hT, c1⟩
    · exact ⟨_, f, List.mem_append.mpr (.inr (List.mem_singleton.mpr rfl)), c1⟩
    · exact ⟨T, f, List.mem_append.mpr (.inl hT), c1⟩
  · rw [List.length_append]; exact c2
  · rw [List.length_append]; exact c3
  · by_cases hjl : j < Ts.length
    · rw [List.getElem?_append_left hjl] at hj
      obtain ⟨x', y', f1, f2, p⟩ := Z.prs j T hj
      have hT := Z.fr T (List.mem_of_getElem? hj)
      exact ⟨x', y', f1, f2, k _ _ (ne_lo hl.1 hT) (ne_lo hl.2.1 hT) (ne_lo hl.2.2.1 hT) (ne_lo hl.2.2.2 hT) p⟩
    · rw [List.getElem?_append_right (by omega)] at hj
      have hj0 : j - Ts.length = 0 := by
        cases q : j - Ts.length with
        | zero => rfl
        | succ m => rw [q] at hj; simp at hj
      rw [hj0] at hj
      have eT : h.objs.size = T := Option.some.inj hj
      have ej : j = Ts.length := by omega
      subst ej
      subst eT
      exact ⟨x, y, e1, e2, c4⟩
  · rcases List.mem_append.mp hT with m | m
    · exact Z.fr T m
    · rw [List.mem_singleton.mp m]; exact hlo
  · exact List.nodup_append.mpr ⟨Z.nd, by simp, fun a ha b hb => by
      rw [List.mem_singleton.mp hb]
      intro e
      rw [e] at ha
      exact hn ha⟩
theorem zip_gather {R : Result → Shared → Prop} (hh : A.in1.handled = none) (D : ZipApart z TI TO i1 i2 l1 l2) (hl : z < lo ∧ TO < lo ∧ i1 < lo ∧ i2 < lo) (hS : S < lo) (S1 : S ≠ z) (S2 : S ≠ TI) (S3 : S ≠ TO) (S4 : S ≠ i1) (S5 : S ≠ i2) (S6 : S ≠ l1) (S7 : S ≠ l2) (hn : min xs.size ys.size ≤ sizeLine) (res : Value) :
    ∀ (k : Nat) (s : Shared) (Ts : List Addr) (c : Nat), min xs.size ys.size - Ts.length = k → Ts.length ≤ min xs.size ys.size → lo ≤ s.heap.objs.size → ZSt z TI TO i1 i2 l1 l2 lo xs ys s.heap Ts →
    s.heap.get? S = some { cls := .type "list", dict := none, data := .seq (Ts.map Value.ref).toArray c, slots := #[] } →
    (∀ (s' : Shared) (Ts' : List Addr) (c' : Nat), s'.gens = s.gens → s'.os = s.os → (∀ (j : Nat) (T : Addr), Ts'[j]? = some T → ∃ x y, xs[j]? = some x ∧ ys[j]? = some y ∧ IsPair s'.heap T x y) → (∀ T ∈ Ts', lo ≤ T) → Ts'.Nodup → Ts'.length = min xs.size ys.size → s'.heap.get? S = some { cls := .type "list", dict := none, data := .seq (Ts'.map Value.ref).toArray c', slots := #[] } →
      (∀ b o, b ≠ S → b ≠ z → b ≠ TO → b ≠ i1 → b ≠ i2 → s.heap.get? b = some o → s'.heap.get? b = some o) → R (.ok (.ret res)) s') →
    codeAny (model P w) A (.builtin "list.extend.loop" ⟨[.ref S, .ref z, res], []⟩) R s := by
  intro k
  induction k with
  | zero =>
    intro s Ts c hk hle hlo Z hSo hR
    have hlen : Ts.length = min xs.size ys.size := by omega
    refine codeAny_builtin F.entry_extend_loop ?_; rw [Around.under_plainId F.plain_extend_loop _]
    show wpAny _ A.in1 (pyNext (.ref z) >>= _) _ _ s
    have hend : xs[Ts.length]? = none ∨ ys[Ts.length]? = none := by
      rcases Nat.le_total xs.size ys.size with q | q
      · exact .inl (Array.getElem?_eq_none (by omega))
      · exact .inr (Array.getElem?_eq_none (by omega))
    have fin : ∀ h' : Heap, (∀ c o, c ≠ z → c ≠ TO → c ≠ i1 → c ≠ i2 → s.heap.get? c = some o → h'.get? c = some o) → R (.ok (.ret res)) { s with heap := h' } := fun h' kk => by
      refine hR { s with heap := h' } Ts c rfl rfl (fun j T hj => ?_) Z.fr Z.nd hlen (kk _ _ S1 S3 S4 S5 hSo) (fun b o _ b2 b3 b4 b5 e => kk b o b2 b3 b4 b5 e)
      obtain ⟨x, y, e1, e2, p⟩ := Z.prs j T hj
      have hT := Z.fr T (List.mem_of_getElem? hj)
      exact ⟨x, y, e1, e2, kk _ _ (ne_lo hl.1 hT) (ne_lo hl.2.1 hT) (ne_lo hl.2.2.1 hT) (ne_lo hl.2.2.2 hT) p⟩
    rcases Z.z with ⟨e, q, a, b, r⟩ | ⟨T, f, hT, q⟩
    · refine wpAny_bind (wpAny_pyNext_zip_end hh D q Z.ti r Z.a1 Z.a2 Z.b1 Z.b2 hend fun h' kk => ?_)
      exact wpAny_pure (fin h' kk)
    · obtain ⟨oT, eT⟩ := Z.at_T hT
      refine wpAny_bind (wpAny_pyNext_zip_end_held hh D q eT Z.ti Z.a1 Z.a2 Z.b1 Z.b2 hend fun h' kk => ?_)
      exact wpAny_pure (fin h' fun c o c1 _ c3 c4 e => kk c o c1 c3 c4 e)
  | succ k ih =>
    intro s Ts c hk hle hlo Z hSo hR
    have hlt : Ts.length < min xs.size ys.size := by omega
    have hx : Ts.length < xs.size := by omega
    have hy : Ts.length < ys.size := by omega
    have e1 : xs[Ts.length]? = some xs[Ts.length] := Array.getElem?_eq_getElem hx
    have e2 : ys[Ts.length]? = some ys[Ts.length] := Array.getElem?_eq_getElem hy
    refine codeAny_builtin F.entry_extend_loop ?_; rw [Around.under_plainId F.plain_extend_loop _]
    show wpAny _ A.in1 (pyNext (.ref z) >>= _) _ _ s
    have go : ∀ h' : Heap, h'.objs.size = s.heap.objs.size + 1 → ZSt z TI TO i1 i2 l1 l2 lo xs ys h' (Ts ++ [s.heap.objs.size]) → (∀ c o, c ≠ z → c ≠ TO → c ≠ i1 → c ≠ i2 → s.heap.get? c = some o → h'.get? c = some o) →
        wpAny (model P w) A.in1 (updateSeq S (·.push (Value.ref s.heap.objs.size)) >>= fun _ => again (.builtin "list.extend.loop" ⟨[.ref S, .ref z, res], []⟩)) (fun fin s' => match fin with | .done f => R (.ok f) s' | .again c' => c'.quiet = true ∧ codeAny (model P w) A c' R s') (fun e s' => R (.error e) s') { s with heap := h' } := fun h' hsz Z' kk => by
      have hS' : h'.get? S = some { cls := .type "list", dict := none, data := .seq (Ts.map Value.ref).toArray c, slots := #[] } := kk _ _ S1 S3 S4 S5 hSo
      have hlen1 : ((Ts.map Value.ref).toArray).size = Ts.length := by simp
      refine wpAny_bind ?_
      refine wpAny_updateSeq (s := { s with heap := h' }) hS' rfl (wpAny_pure ⟨plainId_quiet F.plain_extend_loop _, ?_⟩) (by rw [hlen1]; omega) (by show ((Ts.map Value.ref).toArray.push _).size ≤ sizeLine + 1; rw [Array.size_push, hlen1]; omega)
      have hS2 := Heap.get?_update_self (Obj.mapSeq (·.push (Value.ref s.heap.objs.size))) hS' rfl
      have kS : ∀ b o, b ≠ S → h'.get? b = some o → (h'.update S (Obj.mapSeq (·.push (Value.ref s.heap.objs.size)))).get? b = some o := fun b o hb e => (Heap.get?_update_other _ _ (Ne.symm hb)).trans e
      have eA : (Ts.map Value.ref).toArray.push (Value.ref s.heap.objs.size) = ((Ts ++ [s.heap.objs.size]).map Value.ref).toArray := by simp
      refine ih _ (Ts ++ [s.heap.objs.size]) _ (by rw [List.length_append]; show _ - (Ts.length + 1) = k; omega) (by rw [List.length_append]; show Ts.length + 1 ≤ _; omega) ?_ (Z'.keep hS S1 S2 S3 S4 S5 S6 S7 kS) (by rw [← eA]; exact hS2) (fun s' Ts' c' g1 g2 g3 g4 g5 g6 g7 g8 => ?_)
      · show lo ≤ (h'.update S _).objs.size
        rw [(Heap.SameBut.update h' S _).1, hsz]
        omega
      · exact hR s' Ts' c' g1 g2 g3 g4 g5 g6 g7 fun b o b1 b2 b3 b4 b5 e => g8 b o b1 b2 b3 b4 b5 (kS b o b1 (kk b o b2 b3 b4 b5 e))
    rcases Z.z with ⟨e, q, a, b, r⟩ | ⟨T, f, hT, q⟩
    · refine wpAny_bind (wpAny_pyNext_zip_item D q Z.ti r Z.a1 Z.a2 Z.b1 Z.b2 e1 e2 fun h' d1 d2 d3 d4 d5 d6 kk => ?_)
      exact go h' d6 (Z.more D hlo hl (f := false) (.inl d1) d3 d4 d5 e1 e2 kk) kk
    · obtain ⟨oT, eT⟩ := Z.at_T hT
      refine wpAny_bind (wpAny_pyNext_zip_item_held D q eT Z.ti Z.a1 Z.a2 Z.b1 Z.b2 e1 e2 fun h' d1 d3 d4 d5 d6 kk => ?_)
      exact go h' d6 (Z.more D hlo hl (f := true) (.inr ⟨T, hT, d1⟩) d3 d4 d5 e1 e2 fun c o c1 _ c3 c4 e => kk c o c1 c3 c4 e) fun c o c1 _ c3 c4 e => kk c o c1 c3 c4 e
end
end G
/-! My base, part 15: list(zip(..)), the call. -/
namespace G
open PySem PySem.Spec PyProof.Rows L2 TL
section
variable {P : Program} {w : World} {A : Around} {E : Value → Shared → Prop} {s : Shared} {z TI TO i1 i2 l1 l2 S : Addr} {lo : Nat} {xs ys : Array Value}
theorem zip_extend {R : Result → Shared → Prop} (hh : A.handled = none) (D : ZipApart z TI TO i1 i2 l1 l2) (hl : z < lo ∧ TO < lo ∧ i1 < lo ∧ i2 < lo) (hS : S < lo) (S1 : S ≠ z) (S2 : S ≠ TI) (S3 : S ≠ TO) (S4 : S ≠ i1) (S5 : S ≠ i2) (S6 : S ≠ l1) (S7 : S ≠ l2) (hn : min xs.size ys.size ≤ sizeLine) (res : Value)
    (c0 : Nat) (hlo : lo ≤ s.heap.objs.size) (Z : ZSt z TI TO i1 i2 l1 l2 lo xs ys s.heap []) (hSo : s.heap.get? S = some { cls := .type "list", dict := none, data := .seq #[] c0, slots := #[] })
    (hR : ∀ (s' : Shared) (Ts' : List Addr) (c' : Nat), s'.gens = s.gens → s'.os = s.os → (∀ (j : Nat) (T : Addr), Ts'[j]? = some T → ∃ x y, xs[j]? = some x ∧ ys[j]? = some y ∧ IsPair s'.heap T x y) → (∀ T ∈ Ts', lo ≤ T) → Ts'.Nodup → Ts'.length = min xs.size ys.size → s'.heap.get? S = some { cls := .type "list", dict := none, data := .seq (Ts'.map Value.ref).toArray c', slots := #[] } →
      (∀ b o, b ≠ S → b ≠ z → b ≠ TO → b ≠ i1 → b ≠ i2 → s.heap.get? b = some o → s'.heap.get? b = some o) → R (.ok (.ret res)) s') :
    wpAny (model P w) A.in1 (Builtin.List.listExtendWith (.ref S) (.ref z) res) (fun fin s' => match fin with | .done f => R (.ok f) s' | .again c' => c'.quiet = true ∧ codeAny (model P w) A c' R s') (fun e s' => R (.error e) s') s := by
  have hh1 : A.in1.handled = none := by simp [hh]
  obtain ⟨q0, q, ta, tb, tr⟩ : ([] : List Addr) = [] ∧ IsZip s.heap z TI TO .none ∧ ∃ a b, IsPair s.heap TO a b := by
    rcases Z.z with h | ⟨T, f, hT, _⟩
    · exact h
    · exact nomatch hT
  have hT : s.TypeIs (.ref z) "zip" := ⟨_, q, rfl⟩
  unfold Builtin.List.listExtendWith; refine wpAny_bind (wpAny_typeOf hT ?_)
  have m1 : Builtin.List.listSameRef (.ref S) (.ref z) = false := by simp [Builtin.List.listSameRef, S1]
  have m2 : (Value.type "zip" == Value.type "list") = false := by decide
  have m3 : (Value.type "zip" == Value.type "tuple") = false := by decide
  simp only [m1, m2, m3, Bool.or_false, Bool.false_eq_true, if_false]
  refine wpAny_bind (wpAny_pyIter_zip q ?_)
  refine wpAny_bind (wpAny_holding ?_); unfold Builtin.List.listLengthHint
  refine wpAny_bind (wpAny_specialOf hT zip_nolen ?_)
  show wpAny _ A.in1 (specialOf (Value.ref z) (Str.ofString "__length_hint__") >>= _) _ _ _
  refine wpAny_bind (wpAny_specialOf hT zip_nohint ?_); refine wpAny_pure ?_
  show wpAny _ A.in1 (rule "list.extend.makes-room" >>= fun _ => Builtin.List.listTouch (.ref S) >>= fun _ => again (.builtin "list.extend.loop" ⟨[.ref S, .ref z, res], []⟩)) _ _ _
  refine wpAny_bind (wpAny_rule ?_); refine wpAny_bind ?_
  show wpAny _ A.in1 (updateSeq S (·.push .none) >>= fun _ => updateSeq S (·.pop)) _ _ _
  refine wpAny_bind (wpAny_updateSeq hSo rfl ?_)
  have hS2 := Heap.get?_update_self (Obj.mapSeq (·.push Value.none)) hSo rfl
  refine wpAny_updateSeq (hz := by seq_fits) hS2 rfl ?_
  have hS3 := Heap.get?_update_self (Obj.mapSeq (·.pop)) hS2 rfl
  have oth : ∀ b o, b ≠ S → s.heap.get? b = some o → ((s.heap.update S (Obj.mapSeq (·.push Value.none))).update S (Obj.mapSeq (·.pop))).get? b = some o := fun b o hb e => (Heap.get?_update_other _ _ (Ne.symm hb)).trans ((Heap.get?_update_other _ _ (Ne.symm hb)).trans e)
  refine wpAny_pure ⟨plainId_quiet F.plain_extend_loop _, zip_gather hh1 D hl hS S1 S2 S3 S4 S5 S6 S7 hn res (min xs.size ys.size) _ [] _ rfl (Nat.zero_le _) ?_ (Z.keep hS S1 S2 S3 S4 S5 S6 S7 oth) hS3 fun s' Ts' c' g1 g2 g3 g4 g5 g6 g7 g8 => ?_⟩
  · show lo ≤ ((s.heap.update S _).update S _).objs.size
    rw [(Heap.SameBut.update _ S _).1, (Heap.SameBut.update _ S _).1]
    exact hlo
  · exact hR s' Ts' c' g1 g2 g3 g4 g5 g6 g7 fun b o b1 b2 b3 b4 b5 e => g8 b o b1 b2 b3 b4 b5 (oth b o b1 e)
theorem list_zip {Q : Value → Shared → Prop} (hh : A.handled = none) (D : ZipApart z TI TO i1 i2 l1 l2) (hl : z < s.heap.objs.size ∧ TO < s.heap.objs.size ∧ i1 < s.heap.objs.size ∧ i2 < s.heap.objs.size ∧ TI < s.heap.objs.size ∧ l1 < s.heap.objs.size ∧ l2 < s.heap.objs.size) (hn : min xs.size ys.size ≤ sizeLine)
    (hz : IsZip s.heap z TI TO .none) (hTI : IsPair s.heap TI (.ref i1) (.ref i2)) {a b : Value} (hTO : IsPair s.heap TO a b) (a1 : s.heap.IsListIter i1 l1 0) (a2 : s.heap.IsListIter i2 l2 0) (b1 : s.heap.IsList l1 xs) (b2 : s.heap.IsList l2 ys)
    (hq : ∀ (s' : Shared) (Ts' : List Addr) (c' : Nat), s'.gens = s.gens → s'.os = s.os → (∀ (j : Nat) (T : Addr), Ts'[j]? = some T → ∃ x y, xs[j]? = some x ∧ ys[j]? = some y ∧ IsPair s'.heap T x y) → (∀ T ∈ Ts', s.heap.objs.size + 1 ≤ T) → Ts'.Nodup → Ts'.length = min xs.size ys.size → s'.heap.get? s.heap.objs.size = some { cls := .type "list", dict := none, data := .seq (Ts'.map Value.ref).toArray c', slots := #[] } →
      (∀ b o, b ≠ z → b ≠ TO → b ≠ i1 → b ≠ i2 → s.heap.get? b = some o → s'.heap.get? b = some o) → Q (.ref s.heap.objs.size) s') :
    wpAny (model P w) A (call (.type "list") [.ref z]) Q E s := by
  obtain ⟨z1, z2, z3, z4, z5, z6, z7⟩ := hl
  refine callType_codes (Q₁ := fun ob s₁ => ob = .ref s.heap.objs.size ∧ s₁ = { s with heap := s.heap.push { cls := .type "list", data := .seq #[] } }) F.called_list (F.typeCall_list_1 _) F.entry_list_init (code_list_new _ ⟨rfl, rfl⟩) fun ob s₁ h₁ => ?_
  obtain ⟨rfl, rfl⟩ := h₁
  have hSo : (s.heap.push { cls := .type "list", data := .seq #[] }).get? s.heap.objs.size = some { cls := .type "list", data := .seq #[] } := Heap.get?_push_size _ rfl
  have hsz : (s.heap.push { cls := .type "list", data := .seq #[] }).objs.size = s.heap.objs.size + 1 := Heap.size_push ..
  have up : ∀ b o, s.heap.get? b = some o → (s.heap.push { cls := .type "list", data := .seq #[] }).get? b = some o := fun b o e => Heap.get?_push_of_some _ e
  refine ⟨⟨_, hSo, rfl⟩, F.args_list_init_2 _ _, ?_⟩
  show wpAny _ _ (do let old ← Builtin.List.listItems (.ref s.heap.objs.size); Builtin.List.listUpdate (.ref s.heap.objs.size) (fun _ => #[]); letGo old.toList.reverse; Builtin.List.listExtendWith (.ref s.heap.objs.size) (.ref z) .none) _ _ _
  refine wpAny_bind ?_; unfold Builtin.List.listItems
  refine wpAny_bind (wpAny_seqItems hSo rfl (wpAny_pure ?_))
  show wpAny _ _ (updateSeq s.heap.objs.size (fun _ => #[]) >>= fun _ => letGo (#[] : Array Value).toList.reverse >>= fun _ => Builtin.List.listExtendWith (.ref s.heap.objs.size) (.ref z) .none) _ _ _
  refine wpAny_bind (wpAny_updateSeq hSo rfl ?_)
  have hS2 := Heap.get?_update_self (Obj.mapSeq (fun _ => (#[] : Array Value))) hSo rfl
  have oth : ∀ b o, b ≠ s.heap.objs.size → s.heap.get? b = some o → ((s.heap.push { cls := .type "list", data := .seq #[] }).update s.heap.objs.size (Obj.mapSeq (fun _ => (#[] : Array Value)))).get? b = some o := fun b o hb e => (Heap.get?_update_other _ _ (Ne.symm hb)).trans (up b o e)
  refine wpAny_bind (wpAny_letGo ?_)
  have ne : ∀ {b : Addr}, b < s.heap.objs.size → b ≠ s.heap.objs.size := fun hb => Nat.ne_of_lt hb
  refine zip_extend (lo := s.heap.objs.size + 1) (by simp [hh]) D ⟨Nat.lt_succ_of_lt z1, Nat.lt_succ_of_lt z2, Nat.lt_succ_of_lt z3, Nat.lt_succ_of_lt z4⟩ (Nat.lt_succ_self _) (ne z1).symm (ne z5).symm (ne z2).symm (ne z3).symm (ne z4).symm (ne z6).symm (ne z7).symm hn .none _ ?_
    ⟨oth _ _ (ne z5) hTI, .inl ⟨rfl, oth _ _ (ne z1) hz, a, b, oth _ _ (ne z2) hTO⟩, a1.at fun o e => oth _ o (ne z3) e, a2.at fun o e => oth _ o (ne z4) e, b1.at fun o e => oth _ o (ne z6) e, b2.at fun o e => oth _ o (ne z7) e, (fun j T hj => by simp at hj), (fun T hT => nomatch hT), List.nodup_nil⟩ hS2 (fun s' Ts' c' g1 g2 g3 g4 g5 g6 g7 g8 => ?_)
  · show _ ≤ ((s.heap.push _).update _ _).objs.size
    rw [(Heap.SameBut.update _ _ _).1, hsz]
    exact Nat.le_refl _
  · exact ⟨rfl, hq s' Ts' c' g1 g2 g3 g4 g5 g6 g7 fun b o b2 b3 b4 b5 e => g8 b o (Nat.ne_of_lt (Heap.lt_size e)) b2 b3 b4 b5 (oth b o (Nat.ne_of_lt (Heap.lt_size e)) e)⟩
end
end G
/-! My base, part 16: list(zip(..)), the rule; many new pairs. -/
namespace G
open PySem PySem.Spec PyProof.Rows L2 TL
/-- pairs that are laid, one behind another -/
def tupsU (H : Hp) : List (Addr × V × V) → Hp
  | [] => H
  | q :: l => tupsU (upd H q.1 (.tup [q.2.1, q.2.2])) l
structure NewP (H : Hp) (l : List (Addr × V × V)) : Prop where
  none : ∀ q ∈ l, H q.1 = none
  nd : (l.map (·.1)).Nodup
theorem NewP.tail {H : Hp} {q : Addr × V × V} {l : List (Addr × V × V)} (n : NewP H (q :: l)) {o : HO} : NewP (upd H q.1 o) l := by
  have hd := List.nodup_cons.mp (show (q.1 :: l.map (·.1)).Nodup from n.nd)
  refine ⟨fun r hr => ?_, hd.2⟩
  rw [upd_ne (fun e => hd.1 (by rw [← e]; exact List.mem_map.mpr ⟨r, hr, rfl⟩))]
  exact n.none r (List.mem_cons_of_mem _ hr)
theorem tupsU_at : ∀ {l : List (Addr × V × V)} {H : Hp} {a : Addr}, (∀ q ∈ l, q.1 ≠ a) → tupsU H l a = H a
  | [], _, _, _ => rfl
  | q :: l, H, a, h => by
    show tupsU _ l a = _
    rw [tupsU_at fun r hr => h r (List.mem_cons_of_mem _ hr), upd_ne (h q (List.mem_cons_self ..)).symm]
theorem tupsU_in : ∀ {l : List (Addr × V × V)} {H : Hp} {q : Addr × V × V}, (l.map (·.1)).Nodup → q ∈ l → tupsU H l q.1 = some (.tup [q.2.1, q.2.2])
  | r :: l, H, q, hn, hq => by
    have hd := List.nodup_cons.mp (show (r.1 :: l.map (·.1)).Nodup from hn)
    show tupsU _ l q.1 = _
    rcases List.mem_cons.mp hq with rfl | hq
    · rw [tupsU_at fun z hz e => hd.1 (by rw [← e]; exact List.mem_map.mpr ⟨z, hz, rfl⟩), upd_same]
    · exact tupsU_in hd.2 hq
theorem tupsU_gr {M : Addr → Prop} : ∀ {l : List (Addr × V × V)} {F0 H0 F H : Hp}, Gr M F0 H0 F H → NewP H l → Gr M F0 H0 (tupsU F l) (tupsU H l)
  | [], _, _, _, _, g, _ => g
  | q :: l, F0, H0, F, H, g, n => by
    show Gr M F0 H0 (tupsU (upd F q.1 (.tup [q.2.1, q.2.2])) l) (tupsU (upd H q.1 (.tup [q.2.1, q.2.2])) l)
    exact tupsU_gr (g.frz (n.none q (List.mem_cons_self ..))) n.tail
theorem tupsU_RL {α β : Type} [Enc α] [Enc β] {K : PySem.W.Frag} {F : Hp} : ∀ {l : List (Addr × V × V)} {xs : List α} {ys : List β}, (l.map (·.1)).Nodup → (∀ q ∈ l, F q.1 = some (.tup [q.2.1, q.2.2])) → RL K F (l.map (·.2.1)) xs → RL K F (l.map (·.2.2)) ys →
    RL K F (l.map fun q => V.ref q.1) (xs.zip ys)
  | [], _, _, _, _, h1, h2 => by
    have e1 := RL.len h1
    have e3 : ∀ {γ : Type} (z : List γ), ([] : List V).length = z.length → z = [] := fun z h => List.eq_nil_of_length_eq_zero h.symm
    rw [e3 _ e1]
    exact RpA.nil
  | q :: l, [], _, _, _, h1, _ => by cases h1
  | q :: l, _ :: _, [], _, _, _, h2 => by cases h2
  | q :: l, x :: xs, y :: ys, hn, hF, h1, h2 => by
    cases h1 with
    | cons r1 h1 =>
      cases h2 with
      | cons r2 h2 =>
        have hd := List.nodup_cons.mp (show (q.1 :: l.map (·.1)).Nodup from hn)
        exact RL.cons (R.mk2 (hF q (List.mem_cons_self ..)) r1 r2) (tupsU_RL hd.2 (fun z hz => hF z (List.mem_cons_of_mem _ hz)) h1 h2)
theorem HOk.track {P : Program} {w : World} {H : Hp} {h : Heap} {a : Addr} {o : HO} (x : HOk P w H h) (hn : H a = none) (new : ObjOk P w (upd H a o) h a o) : HOk P w (upd H a o) h := fun b u e => by
  by_cases hb : b = a
  · subst hb; rw [upd_same] at e; cases e; exact new
  · rw [upd_ne hb] at e
    exact (x b u e).stay (fun c v _ q => q) (fun c q => by rw [upd_ne (ne_of_none q hn)]; exact q) fun c zs q => by rw [upd_ne (ne_of_none q hn)]; exact q
theorem HOk.tracks {P : Program} {w : World} {h : Heap} : ∀ {l : List (Addr × V × V)} {H : Hp}, HOk P w H h → NewP H l → (∀ q ∈ l, ∃ x y, IsPair h q.1 x y ∧ RelV q.2.1 x ∧ RelV q.2.2 y) → HOk P w (tupsU H l) h
  | [], _, x, _, _ => x
  | q :: l, H, x, n, hp => by
    obtain ⟨a, b, p, r1, r2⟩ := hp q (List.mem_cons_self ..)
    refine HOk.tracks (l := l) (H := upd H q.1 (.tup [q.2.1, q.2.2])) (HOk.track x (n.none q (List.mem_cons_self ..)) ⟨by show 2 ≤ sizeLine; decide, [a, b], .cons r1 (.cons r2 .nil), ⟨_, p, rfl, _, rfl⟩⟩) n.tail fun z hz => hp z (List.mem_cons_of_mem _ hz)
theorem vals_refs : ∀ Ts : List Addr, Vals (Ts.map V.ref) (Ts.map Value.ref)
  | [] => .nil
  | _ :: Ts => .cons rfl (vals_refs Ts)
section
variable {X : Cx}
/-- list(zip(xs, ys)) of two lists -/
def tLZip (K : PySem.W.Frag) (ta : TA) : TE := fun σ H Q => ta σ H fun vs H1 => ∃ (a b : Addr) (xs ys : List V), vs = [.ref a, .ref b] ∧ SqL K H1 a xs ∧ SqL K H1 b ys ∧
  ∀ (l : List (Addr × V × V)) (p : Addr), NewP H1 l → l.map (·.2.1) = xs.take (min xs.length ys.length) → l.map (·.2.2) = ys.take (min xs.length ys.length) → tupsU H1 l p = none → Q (.ref p) (upd (tupsU H1 l) p (.lst (l.map fun q => V.ref q.1)))
theorem pe_lzip {e e2 : Expr} {ta : TA} {p p2 q pos : Pos} (hc : X.calm = true) (hg : Gl X "list") (hm : X.mg "list" = none) (hg2 : Gl X "zip") (hm2 : X.mg "zip" = none) (ha : PA X [e, e2] ta)
    (hs : starEach [e, e2] X.env = (false, eval e X.env) :: starEach [e2] X.env := by rfl) (hpl : (backTo q (starEach [e2] X.env)).any (·.1) = false := by rfl) :
    PE X (.Call (.Name "list" p) [.Call (.Name "zip" p2) [e, e2] [] q] [] pos) (tLZip X.K ta) := by
  refine ⟨fun pins s σ H Q I h => ?_⟩
  refine Call_ (ld_blt I hg hm (u := .type "list") (by decide +kernel) ?_)
  refine PyProof.Rows.callWith_type1 (PyProof.Rows.args_cons ?_ rfl) rfl rfl
  refine Call_ (ld_blt I hg2 hm2 PyProof.Rows.boot_zip (PyProof.Rows.callWith_type1 (thn (ha.run q pins s σ H _ I h) fun us s1 ⟨vs, H1, I1, r1, q1⟩ => ?_) hs hpl))
  obtain ⟨a, b, xs, ys, ex, hqx, hqy, q1⟩ := q1
  subst ex
  obtain ⟨u1, u2, rfl, ra, rb⟩ := vals2 r1
  cases (show u1 = Value.ref a from ra)
  cases (show u2 = Value.ref b from rb)
  obtain ⟨its, rv, p1, hz1⟩ := I1.list hqx
  obtain ⟨its2, rv2, pq2, hz2⟩ := I1.list hqy
  have la : a < s1.heap.objs.size := p1.lt
  have lb : b < s1.heap.objs.size := pq2.lt
  refine call_zip_2 p1.isList pq2.isList fun h' hz hTI hTO h1 h2 hsz hk => ?_
  refine PyProof.Rows.args_nil ?_
  have hmin : min its.toArray.size its2.toArray.size = min xs.length ys.length := by simp [← rv.length, ← rv2.length]
  refine list_zip (s := { s1 with heap := h' }) (I1.ok.hd hc) (PySem.W.ktu_apart s1.heap.objs.size a b la lb) ?_ (by rw [hmin]; exact Nat.le_trans (Nat.min_le_left _ _) hz1) hz hTI hTO h1 h2 (p1.isList.at fun o e => hk a o e) (pq2.isList.at fun o e => hk b o e) fun s' Ts c g1 g2 g3 g4 g5 g6 g7 g8 => ?_
  · show _ < h'.objs.size ∧ _ < h'.objs.size ∧ _ < h'.objs.size ∧ _ < h'.objs.size ∧ _ < h'.objs.size ∧ a < h'.objs.size ∧ b < h'.objs.size
    rw [hsz]
    have la' : (a : Nat) < s1.heap.objs.size := la
    have lb' : (b : Nat) < s1.heap.objs.size := lb
    refine ⟨?_, ?_, ?_, ?_, ?_, ?_, ?_⟩ <;> (first | exact Nat.lt_succ_self _ | exact Nat.add_lt_add_left (by decide) _ | exact Nat.lt_of_lt_of_le la (Nat.le_add_right _ _) | exact Nat.lt_of_lt_of_le lb (Nat.le_add_right _ _) | exact Nat.lt_add_of_pos_right (by decide))
  · have hsz' : h'.objs.size = s1.heap.objs.size + 5 := hsz
    have kept : ∀ b o, s1.heap.get? b = some o → s'.heap.get? b = some o := fun b o e => by
      have hb := Heap.lt_size e
      exact g8 b o (Nat.ne_of_lt (Nat.lt_of_lt_of_le hb (Nat.le_add_right _ _))) (Nat.ne_of_lt (Nat.lt_of_lt_of_le hb (Nat.le_add_right _ _))) (Nat.ne_of_lt hb) (Nat.ne_of_lt (Nat.lt_of_lt_of_le hb (Nat.le_add_right _ _))) (hk b o e)
    generalize hn : min xs.length ys.length = n at hmin
    have hl1 : (xs.take n).length = n := by rw [List.length_take]; omega
    have hl2 : (ys.take n).length = n := by rw [List.length_take]; omega
    have hT : Ts.length = n := g6.trans hmin
    have hz2' : ((xs.take n).zip (ys.take n)).length = n := by rw [List.length_zip, hl1, hl2, Nat.min_self]
    obtain ⟨l, hl⟩ : ∃ l, l = Ts.zip ((xs.take n).zip (ys.take n)) := ⟨_, rfl⟩
    have m1 : l.map (·.1) = Ts := by rw [hl]; exact List.map_fst_zip (by rw [hT, hz2']; exact Nat.le_refl _)
    have m2 : l.map (·.2) = (xs.take n).zip (ys.take n) := by rw [hl]; exact List.map_snd_zip (by rw [hT, hz2']; exact Nat.le_refl _)
    have m3 : l.map (·.2.1) = xs.take n := by
      have : (l.map (·.2)).map (·.1) = xs.take n := by rw [m2]; exact List.map_fst_zip (by rw [hl1, hl2]; exact Nat.le_refl _)
      rwa [List.map_map] at this
    have m4 : l.map (·.2.2) = ys.take n := by
      have : (l.map (·.2)).map (·.2) = ys.take n := by rw [m2]; exact List.map_snd_zip (by rw [hl1, hl2]; exact Nat.le_refl _)
      rwa [List.map_map] at this
    have m5 : (l.map fun q => V.ref q.1) = Ts.map V.ref := by rw [← m1, List.map_map]; rfl
    have hTlo : ∀ T ∈ Ts, s1.heap.objs.size + 6 ≤ T := fun T hm => by
      have := g4 T hm
      have e : h'.objs.size + 1 = s1.heap.objs.size + 6 := by rw [hsz']
      rw [← e]
      exact this
    have newp : NewP H1 l := ⟨fun q hq => I1.hok.fresh (Nat.le_trans (Nat.le_add_right _ 6) (hTlo q.1 (by rw [← m1]; exact List.mem_map.mpr ⟨q, hq, rfl⟩))), by rw [m1]; exact g5⟩
    have hp0 : ∀ q ∈ l, q.1 ≠ h'.objs.size := fun q hq e => by
      have := g4 q.1 (by rw [← m1]; exact List.mem_map.mpr ⟨q, hq, rfl⟩)
      rw [e] at this
      exact absurd this (Nat.not_succ_le_self _)
    have hpn : tupsU H1 l h'.objs.size = none := by
      rw [tupsU_at hp0]
      exact I1.hok.fresh (by rw [hsz']; exact Nat.le_add_right _ _)
    have prs : ∀ q ∈ l, ∃ x y, IsPair s'.heap q.1 x y ∧ RelV q.2.1 x ∧ RelV q.2.2 y := fun q hq => by
      obtain ⟨j, hj⟩ := List.getElem?_of_mem hq
      have j1 : Ts[j]? = some q.1 := by rw [← m1, List.getElem?_map, hj]; rfl
      have j2 : (xs.take n)[j]? = some q.2.1 := by rw [← m3, List.getElem?_map, hj]; rfl
      have j3 : (ys.take n)[j]? = some q.2.2 := by rw [← m4, List.getElem?_map, hj]; rfl
      obtain ⟨x, y, e1, e2, pr⟩ := g3 j q.1 j1
      have k2 : xs[j]? = some q.2.1 := by
        have := List.getElem?_take_of_lt (l := xs) (show j < n by rw [← hT]; exact (List.getElem?_eq_some_iff.mp j1).1)
        rw [← this]
        exact j2
      have k3 : ys[j]? = some q.2.2 := by
        have := List.getElem?_take_of_lt (l := ys) (show j < n by rw [← hT]; exact (List.getElem?_eq_some_iff.mp j1).1)
        rw [← this]
        exact j3
      obtain ⟨w1, f1, r1⟩ := rv.get k2
      obtain ⟨w2, f2, r2⟩ := rv2.get k3
      have x1 : w1 = x := by
        have : its[j]? = some x := by simpa using e1
        rw [f1] at this
        exact Option.some.inj this
      have x2 : w2 = y := by
        have : its2[j]? = some y := by simpa using e2
        rw [f2] at this
        exact Option.some.inj this
      exact ⟨x, y, pr, x1 ▸ r1, x2 ▸ r2⟩
    have old : ∀ b, b < s1.heap.objs.size → upd (tupsU H1 l) h'.objs.size (.lst (l.map fun q => V.ref q.1)) b = H1 b := fun b hb => by
      rw [upd_ne (Nat.ne_of_lt (Nat.lt_of_lt_of_le hb (by rw [hsz']; exact Nat.le_add_right _ _)))]
      refine tupsU_at fun q hq e => ?_
      have := hTlo q.1 (by rw [← m1]; exact List.mem_map.mpr ⟨q, hq, rfl⟩)
      rw [e] at this
      exact absurd (Nat.lt_of_lt_of_le hb (Nat.le_trans (Nat.le_add_right _ 6) this)) (Nat.lt_irrefl _)
    have oldS : ∀ {b : Addr} {o : HO}, H1 b = some o → upd (tupsU H1 l) h'.objs.size (.lst (l.map fun q => V.ref q.1)) b = some o := fun e => by rw [old _ (I1.hok.lt e)]; exact e
    have hok : HOk X.prog X.w (upd (tupsU H1 l) h'.objs.size (.lst (l.map fun q => V.ref q.1))) s'.heap :=
      HOk.track (HOk.tracks (I1.hok.kept kept) newp prs) hpn ⟨by rw [m5, List.length_map, hT, ← hn]; exact Nat.le_trans (Nat.min_le_left _ _) hz1, Ts.map Value.ref, c, by rw [m5]; exact vals_refs Ts, g7⟩
    have un : Un (frs X.stack) [] H1 (upd (tupsU H1 l) h'.objs.size (.lst (l.map fun q => V.ref q.1))) s1.heap s'.heap :=
      ⟨fun b o e _ _ _ => kept b o e, fun b o e _ _ _ => ⟨o.slots, kept b o e⟩, fun b o e n _ => by rw [old b (Heap.lt_size e)]; exact n, fun b o e _ => ⟨o, kept b o e⟩, fun b zs e => oldS e, fun b o u e => oldS e, fun b ps e => ⟨#[], by rw [oldS e]; simp⟩⟩
    have J : Inv X pins σ (upd (tupsU H1 l) h'.objs.size (.lst (l.map fun q => V.ref q.1))) s' := Inv.call' (ch := []) I1 g2 un hok (by rw [g1]; exact I1.bare) (fun _ z => nomatch z)
    exact ⟨.ref h'.objs.size, _, J, rfl, q1 l h'.objs.size newp (by rw [m3, hn]) (by rw [m4, hn]) hpn⟩
end
end G
/-! My base, part 17: xs.extend(a tuple). -/
namespace G
open PySem PySem.Spec PyProof.Rows L2 TL
theorem ext_tup (l : Addr) (xs : Array Value) (n : Nat) (b : Addr) (ys : Array Value) (n2 : Nat) (dd : Option Addr) (sl : Array (Option Value)) (h0 : ¬(!xs.isEmpty && Builtin.List.listTooLong (xs.size + ys.size)) = true) (h1 : xs.size ≤ sizeLine) (h2 : xs.size + ys.size ≤ sizeLine + 1) :
    Meets (Builtin.«list.extend» ⟨[.ref l, .ref b], []⟩) (fun _ R s => s.heap.get? l = some { cls := .type "list", dict := none, data := .seq xs n, slots := #[] } ∧ s.heap.get? b = some { cls := .type "tuple", dict := dd, data := .seq ys n2, slots := sl } ∧ R (.ok (.ret Value.none)) { s with heap := s.heap.update l (Obj.mapSeq fun x => x ++ ys), toks := s.toks }) :=
  .of_wp fun prog w A R s h => by
    obtain ⟨hp, g, d, tk, os⟩ := s; obtain ⟨hl, hb, h⟩ := h; have q1 := AutoSeq1.idx_int; have q2 := AutoSeq1.sub_tuple_tuple; have q3 := AutoSeq1.sub_list_list; have q4 := AutoSeq1.sub_tuple_list; have q5 := AutoSeq1.sub_list_tuple
    have hz : (xs ++ ys).size ≤ sizeLine + 1 := by rw [Array.size_append]; exact h2
    wp_walk using (wpAny_updateSeq hl rfl (hz := h1) (_hz' := hz)), AutoSeq1.wpAny_loadPart' hl, AutoSeq1.wpAny_loadPart' hb; exact ⟨_, rfl, h⟩
section
variable {X : Cx}
def rExtT (K : PySem.W.Frag) : V → List V → Hp → VK → Prop := fun x vs H Q => ∃ l b xs zs, x = .ref l ∧ vs = [.ref b] ∧ H l = some (.lst xs) ∧ SqT K H b zs ∧ xs.length + zs.length ≤ sizeLine ∧ Q .non (upd H l (.lst (xs ++ zs)))
theorem mt_extT : MtM X "list.extend" (rExtT X.K) := by
  intro pins s σ H x vs v us Q I rx rv h
  obtain ⟨l, b, xs, zs, rfl, rfl, hH, hB, hz, q⟩ := h
  cases rx
  obtain ⟨u, rfl, ru⟩ := rv.one
  cases ru
  obtain ⟨z, its, n, r, hl, e⟩ := I.lstM hH
  obtain ⟨its2, r2, ⟨⟨oc, od, dt, sl⟩, ho, hc, n2, hd⟩, hz2⟩ := I.tuple hB
  simp only at hc hd
  subst hc; subst hd
  have hl2 := r2.length
  have hsz : its.toArray.size + its2.toArray.size ≤ sizeLine := by rw [List.size_toArray, List.size_toArray]; omega
  have hlong : ¬ (!its.toArray.isEmpty && Builtin.List.listTooLong (its.toArray.size + its2.toArray.size)) = true := by rw [notLongL hsz, Bool.and_false]; exact Bool.false_ne_true
  refine call_meets F.slot_list_extend ⟨_, e, rfl⟩ F.entry_list_extend (F.args_list_extend_2 _ _) (ext_tup l its.toArray n b its2.toArray n2 od sl hlong (by rw [List.size_toArray]; omega) (by omega)) ⟨e, ho, ?_⟩
  exact ⟨.non, _, I.lset (its' := its ++ its2) hH e (by simp) (r.append r2) (by rw [List.length_append]; omega), rfl, q⟩
end
end G
/-! My base, part 18: what list(zip(..)) stands for; extend. -/
namespace G
open PySem PySem.Spec PyProof.Rows L2 TL
theorem zip_tk {α β : Type} : ∀ (xs : List α) (ys : List β) (n : Nat), n = min xs.length ys.length → (xs.take n).zip (ys.take n) = xs.zip ys
  | [], ys, n, h => by simp
  | x :: xs, [], n, h => by simp
  | x :: xs, y :: ys, n, h => by
    have e : n = min xs.length ys.length + 1 := by rw [h, List.length_cons, List.length_cons]; omega
    subst e
    rw [List.take_succ_cons, List.take_succ_cons, List.zip_cons_cons, List.zip_cons_cons, zip_tk xs ys _ rfl]
section
variable {α β : Type} [Enc α] [Enc β] {K : PySem.W.Frag} {F H : Hp} {l : List (Addr × V × V)} {ws ws2 : List V} {xs : List α} {ys : List β}
theorem RL.tk (n : Nat) (h : RL K F ws xs) : RL K F (ws.take n) (xs.take n) := by
  show RpA K F _ _
  rw [List.map_take]
  exact RpA.take n h
theorem lz_RL (nw : NewP H l) (sm : Same F (tupsU F l)) (e1 : l.map (·.2.1) = ws.take (min ws.length ws2.length)) (e2 : l.map (·.2.2) = ws2.take (min ws.length ws2.length)) (h1 : RL K F ws xs) (h2 : RL K F ws2 ys) :
    RL K (tupsU F l) (l.map fun q => V.ref q.1) (List.zip xs ys) := by
  rw [← zip_tk xs ys (min ws.length ws2.length) (by rw [h1.len, h2.len])]
  refine tupsU_RL nw.nd (fun q hq => tupsU_in nw.nd hq) ?_ ?_
  · rw [e1]
    exact RpA.up (RL.tk _ h1) sm
  · rw [e2]
    exact RpA.up (RL.tk _ h2) sm
theorem lz_len (e1 : l.map (·.2.1) = ws.take (min ws.length ws2.length)) (hl : ws.length ≤ sizeLine) : (l.map fun q => V.ref q.1).length ≤ sizeLine := by
  have h := congrArg List.length e1
  rw [List.length_map, List.length_take] at h
  rw [List.length_map, h]
  exact Nat.le_trans (Nat.min_le_right _ _) hl
end
def extL {α : Type} (xs ys : List α) : Option (List α) := conL xs ys
end G
/-! My base, part 19: rules that name K. -/
namespace G
open PySem PySem.Spec PyProof.Rows L2 TL
theorem RL.re {α : Type} [Enc α] {K : PySem.W.Frag} {F : Hp} {ws : List V} {x y : List α} (h : x = y) (r : RL K F ws x) : RL K F ws y := h ▸ r
section
variable {X : Cx} {K : PySem.W.Frag}
theorem ix_listK (h : X.K = K := by rfl) : IxR X (rIxL K) := h ▸ ix_list
theorem ix_tupK (h : X.K = K := by rfl) : IxR X (rIxT K) := h ▸ ix_tup
theorem sl_listK (h : X.K = K := by rfl) : SlR X (rSlL K) := h ▸ sl_list
theorem call_lenLK (h : X.K = K := by rfl) : CallR X (.builtin "len") (fun xs H Q => ∃ p ys n, xs = [.ref p] ∧ (SqL K H p ys ∨ SqT K H p ys) ∧ ys.length = n ∧ Q (.int (n : Nat)) H) := by subst h; exact call_lenL
theorem call_isi_ (h : X.K = K := by rfl) : CallR X (.builtin "isinstance") (rIsi K) := by subst h; exact call_isi
theorem call_list_of_ (h : X.K = K := by rfl) : CallR X (.type "list") (fun xs H Q => ∃ p ys, xs = [.ref p] ∧ (SqL K H p ys ∨ SqT K H p ys) ∧ ∀ l, H l = none → Q (.ref l) (upd H l (.lst ys))) := by subst h; exact call_list_of
theorem cr_all_ (hc : X.calm = true) (h : X.K = K := by rfl) : CallR X (.builtin "all") (rAll K) := by subst h; exact cr_all hc
theorem cr_any_ (hc : X.calm = true) (h : X.K = K := by rfl) : CallR X (.builtin "any") (rAny K) := by subst h; exact cr_any hc
theorem cr_sortedI_ (h : X.K = K := by rfl) : CallR X (.builtin "sorted") (rSortedI K) := by subst h; exact cr_sortedI
theorem op_catLK (h : X.K = K := by rfl) : OpR X (binaryOp .Add) (rCatL K) := by subst h; exact op_catL
theorem op_eqDK (hu : X.A.units + 64 < cLine) (h : X.K = K := by rfl) : OpR X (compareOp .Eq) (rEqD K) := by subst h; exact op_eqD hu
theorem op_neDK (hu : X.A.units + 64 < cLine) (h : X.K = K := by rfl) : OpR X (compareOp .NotEq) (rNeD K) := by subst h; exact op_neD hu
theorem pi_listK {tg l : Expr} {tl : TE} (hl : PE X l tl) (h : X.K = K := by rfl) : PI X tg l (iList K tl) := by subst h; exact pi_list hl
theorem pi_tupK {tg l : Expr} {tl : TE} (hl : PE X l tl) (h : X.K = K := by rfl) : PI X tg l (iTup K tl) := by subst h; exact pi_tup hl
theorem pg_tupK {es : List Expr} {k : Nat} {pos : Pos} {t : TGs} (n : Nat) (hc : X.calm = true) (ht : PGs X es t) (h : X.K = K := by rfl)
    (hn : (assignEach es X.env).length = n := by rfl) (hst : (assignEach es X.env).findIdx? (·.1) = none := by rfl) : PG X (.Tuple es k pos) (gTup K n t) := by subst h; exact pg_tup hc ht hn hst
theorem pe_bmK {o e : Expr} {es : List Expr} {to : TE} {t : TA} {name : Str} {apos cpos : Pos} {T id : String} {r : V → List V → Hp → VK → Prop} (pa : PlainAttrs T) (slot : Slot T name id) (hty : typeOf (.builtin id) = pure (.type "method_descriptor")) (hm : MtR X id r) (ho : PE X o to) (ha : PA X (e :: es) t) (h : X.K = K := by rfl)
    (hbase : attributeBase o name X.env (eval o X.env) = eval o X.env := by rfl)
    (hfew : ((backTo cpos (starEach (e :: es) X.env)).all (fun x => !x.1) && (backToKw cpos (keywordEach [] X.env)).all (fun x => x.1.isSome) && decide ((e :: es).length + ([] : List Keyword).length + (if ([] : List Keyword).isEmpty then 0 else 1) < 30)) = true := by rfl)
    (hline : (apos.endLine == cpos.line) = true := by rfl) (hs : starEach (e :: es) X.env = (false, eval e X.env) :: starEach es X.env := by rfl) (hplain : (backTo cpos (starEach es X.env)).any (·.1) = false := by rfl) :
    PE X (.Call (.Attribute o name apos) (e :: es) [] cpos) (tBM K T r to t) := by subst h; exact pe_bm pa slot hty hm ho ha hbase hfew hline hs hplain
theorem pe_bm0K {o : Expr} {to : TE} {name : Str} {apos cpos : Pos} {T id : String} {r : V → List V → Hp → VK → Prop} (pa : PlainAttrs T) (slot : Slot T name id) (hty : typeOf (.builtin id) = pure (.type "method_descriptor")) (hm : MtR X id r) (ho : PE X o to) (h : X.K = K := by rfl)
    (hbase : attributeBase o name X.env (eval o X.env) = eval o X.env := by rfl) (hline : (apos.endLine == cpos.line) = true := by rfl) : PE X (.Call (.Attribute o name apos) [] [] cpos) (tBM0 K T r to) := by subst h; exact pe_bm0 pa slot hty hm ho hbase hline
def rJoin (K : PySem.W.Frag) : V → List V → Hp → VK → Prop := fun x xs H Q => ∃ a p, ∃ ys : List Str, x = .str a ∧ xs = [.ref p] ∧ (SqL K H p (ys.map V.str) ∨ SqT K H p (ys.map V.str)) ∧
  (ys.map (·.length)).sum + ys.length * a.length ≤ 16777216 ∧ Q (.str (Txt.join a ys)) H
theorem pe_joinK {o e : Expr} {to te : TE} {apos pos : Pos} (ho : PE X o to) (he : PE X e te) (h : X.K = K := by rfl) (hs : starEach [e] X.env = [(false, eval e X.env)] := by rfl) (hbase : attributeBase o "join" X.env (eval o X.env) = eval o X.env := by rfl) (hline : (apos.endLine == pos.line) = true := by rfl) :
    PE X (.Call (.Attribute o "join" apos) [e] [] pos) (tM1 (rJoin K) to te) := by subst h; exact pe_join ho he hs hbase hline
theorem pe_revLK {e : Expr} {te : TE} {k : Nat} {p1 p2 p3 pos : Pos} (he : PE X e te) (h : X.K = K := by rfl) : PE X (.Subscript e (.Slice none none (some (.UnaryOp .USub (.Constant (.int 1) k p1) p2)) p3) pos) (tRevL K te) := by subst h; exact pe_revL he
theorem pe_ssetK {a : Expr} {ta : TE} {p p2 q pos : Pos} (hc : X.calm = true) (hg : Gl X "sorted") (hm : X.mg "sorted" = none) (hg2 : Gl X "set") (hm2 : X.mg "set" = none) (ha : PE X a ta) (h : X.K = K := by rfl)
    (na : starEach [a] X.env = (false, eval a X.env) :: starEach [] X.env := by rfl) : PE X (.Call (.Name "sorted" p) [.Call (.Name "set" p2) [a] [] q] [] pos) (tSSet K ta) := by subst h; exact pe_sset hc hg hm hg2 hm2 ha na
theorem pe_lzipK {e e2 : Expr} {ta : TA} {p p2 q pos : Pos} (hc : X.calm = true) (hg : Gl X "list") (hm : X.mg "list" = none) (hg2 : Gl X "zip") (hm2 : X.mg "zip" = none) (ha : PA X [e, e2] ta) (h : X.K = K := by rfl)
    (hs : starEach [e, e2] X.env = (false, eval e X.env) :: starEach [e2] X.env := by rfl) (hpl : (backTo q (starEach [e2] X.env)).any (·.1) = false := by rfl) :
    PE X (.Call (.Name "list" p) [.Call (.Name "zip" p2) [e, e2] [] q] [] pos) (tLZip K ta) := by subst h; exact pe_lzip hc hg hm hg2 hm2 ha hs hpl
theorem mt_extTK (h : X.K = K := by rfl) : MtM X "list.extend" (rExtT K) := by subst h; exact mt_extT
end
end G
/-! sorted(texts), any number; sorted(pairs of ints), any number. -/
namespace G
open PySem PySem.Spec PyProof.Rows L2 TL
def leT (a b : Str) : Bool := decide (tl a ≤ tl b)
def sortT (xs : List Str) : List Str := xs.mergeSort leT
theorem leT_trans (a b c : Str) (h1 : leT a b = true) (h2 : leT b c = true) : leT a c = true := decide_eq_true (List.le_trans (of_decide_eq_true h1) (of_decide_eq_true h2))
theorem leT_total (a b : Str) : (leT a b || leT b a) = true := by
  unfold leT
  rcases List.le_total (tl a) (tl b) with h | h
  · rw [decide_eq_true h]; rfl
  · rw [decide_eq_true h, Bool.or_true]
theorem sortT_perm (xs : List Str) : (sortT xs).Perm xs := List.mergeSort_perm _ _
theorem sortT_sorted (xs : List Str) : (sortT xs).Pairwise fun a b => leT a b = true := List.pairwise_mergeSort leT_trans leT_total xs
theorem sortT_len (xs : List Str) : (sortT xs).length = xs.length := (sortT_perm xs).length_eq
theorem tl_eq {x y : Str} (h : tl x = tl y) : x = y := by
  cases x; cases y
  simp only [tl] at h
  congr
  exact Array.toList_inj.mp h
theorem rising_pw : ∀ (r : List Str) (p : Str), risingS p r = true → (p :: r).Pairwise fun a b => leT a b = true
  | [], p, _ => List.pairwise_singleton _ _
  | x :: r, p, h => by
    have h' : (!ltCps x.cps.toList p.cps.toList && risingS x r) = true := h
    rw [Bool.and_eq_true, ltCps_eq, Bool.not_eq_true', decide_eq_false_iff_not] at h'
    have ih := rising_pw r x h'.2
    have hx : leT p x = true := decide_eq_true h'.1
    refine List.pairwise_cons.mpr ⟨fun z hz => ?_, ih⟩
    rcases List.mem_cons.mp hz with rfl | hz
    · exact hx
    · exact leT_trans _ _ _ hx ((List.pairwise_cons.mp ih).1 z hz)
theorem sortedS_pw : ∀ l : List Str, sortedS l = true → l.Pairwise fun a b => leT a b = true
  | [], _ => List.Pairwise.nil
  | x :: r, h => rising_pw r x h
theorem sortT_uniq {xs ys : List Str} (h : ys.Perm xs) (h2 : sortedS ys = true) : sortT xs = ys :=
  ((sortT_perm xs).trans h.symm).eq_of_pairwise (le := fun a b => leT a b = true) (fun a b _ _ h3 h4 => tl_eq (List.le_antisymm (of_decide_eq_true h3) (of_decide_eq_true h4))) (sortT_sorted xs) (sortedS_pw ys h2)
def rSortedSA (K : PySem.W.Frag) : List V → Hp → VK → Prop := fun vs H Q => ∃ (a : Addr) (xs : List Str), vs = [V.ref a] ∧ SqL K H a (xs.map V.str) ∧
  ∀ (p : Addr), H p = none → Q (.ref p) (upd H p (.lst ((sortT xs).map V.str)))
section
variable {X : Cx} {K : PySem.W.Frag}
theorem cr_sortedSA : CallR X (.builtin "sorted") (rSortedSA X.K) := by
  intro pins s σ H vs us Q I r h
  obtain ⟨a, xs, rfl, hs, q⟩ := h
  obtain ⟨its, rv, hl, hz⟩ := I.list hs
  rw [Vals.ref1 r]
  have hlen0 := rv.length
  refine PyProof.Rows.sorted_strsAny hl.isList rv.strs (by rw [← hlen0]; exact hz) fun out ys h1 h2 h3 => ?_
  obtain rfl := sortT_uniq h2 h3
  obtain ⟨ep, he'⟩ := PyProof.Rows.sortedAll_at s.heap its out
  have hlen : ((sortT xs).map V.str).length ≤ sizeLine := by rw [List.length_map, sortT_len]; rw [List.length_map] at hz; exact hz
  exact ⟨.ref _, upd H (s.heap.objs.size + 1) (.lst ((sortT xs).map V.str)), I.laid (t' := s.toks) (fun _ _ => PyProof.Rows.sortedAll_old) (Nat.le_succ _) ⟨hlen, out.toList, ep, vals_of_strs h1, he'⟩, rfl, q _ (I.hok.fresh (Nat.le_succ _))⟩
theorem cr_sortedSA_ (h : X.K = K := by rfl) : CallR X (.builtin "sorted") (rSortedSA K) := by subst h; exact cr_sortedSA
end
/-! ### pairs -/
def leP (p q : Int × Int) : Bool := decide (p.1 < q.1 ∨ (p.1 = q.1 ∧ p.2 ≤ q.2))
def sortP (xs : List (Int × Int)) : List (Int × Int) := xs.mergeSort leP
theorem leP_trans (a b c : Int × Int) (h1 : leP a b = true) (h2 : leP b c = true) : leP a c = true := by
  have h1 := of_decide_eq_true h1
  have h2 := of_decide_eq_true h2
  exact decide_eq_true (by omega)
theorem leP_total (a b : Int × Int) : (leP a b || leP b a) = true := by
  unfold leP
  by_cases h : a.1 < b.1 ∨ (a.1 = b.1 ∧ a.2 ≤ b.2)
  · rw [decide_eq_true h]; rfl
  · rw [decide_eq_true (p := b.1 < a.1 ∨ (b.1 = a.1 ∧ b.2 ≤ a.2)) (by omega), Bool.or_true]
theorem sortP_perm (xs : List (Int × Int)) : (sortP xs).Perm xs := List.mergeSort_perm _ _
theorem sortP_sorted (xs : List (Int × Int)) : (sortP xs).Pairwise fun a b => leP a b = true := List.pairwise_mergeSort leP_trans leP_total xs
theorem sortP_len (xs : List (Int × Int)) : (sortP xs).length = xs.length := (sortP_perm xs).length_eq
theorem sortP_uniq {xs ys : List (Int × Int)} (h : ys.Perm xs) (h2 : ys.Pairwise fun a b => leP a b = true) : sortP xs = ys :=
  ((sortP_perm xs).trans h.symm).eq_of_pairwise (le := fun a b => leP a b = true) (fun a b _ _ h3 h4 => by
    have h3 := of_decide_eq_true h3
    have h4 := of_decide_eq_true h4
    exact Prod.ext (by omega) (by omega)) (sortP_sorted xs) h2
open Classical in
noncomputable def keyV (K : PySem.W.Frag) (H : Hp) (v : V) : Int × Int := if h : ∃ x : Int × Int, R K H v x then h.choose else (0, 0)
theorem keyV_spec {K : PySem.W.Frag} {H : Hp} {v : V} {x : Int × Int} (h : R K H v x) : R K H v (keyV K H v) := by
  unfold keyV
  rw [dif_pos ⟨x, h⟩]
  exact Exists.choose_spec (⟨x, h⟩ : ∃ x : Int × Int, R K H v x)
def rSortedPK (K : PySem.W.Frag) : List V → Hp → VK → Prop := fun vs H Q => ∃ (a : Addr) (xs : List V) (ds : List (Int × Int)), vs = [V.ref a] ∧ SqL K H a xs ∧ RL K H xs ds ∧
  ∀ (ys : List V) (p : Addr), ys.length = xs.length → (∀ F, RL K F xs ds → RL K F ys (sortP ds)) → H p = none → Q (.ref p) (upd H p (.lst ys))
section
variable {X : Cx} {K : PySem.W.Frag}
theorem cr_sortedPK : CallR X (.builtin "sorted") (rSortedPK X.K) := by
  intro pins s σ H vs us Q I r h
  obtain ⟨a, xs, ds, rfl, hs, hA, q⟩ := h
  have hkey : ∀ i v x, xs[i]? = some v → ds[i]? = some x → keyV X.K H v = x ∧ ∃ t, v = .ref t ∧ SqT X.K H t [.int x.1, .int x.2] := fun i v x hv hx => by
    obtain ⟨x', hx', r⟩ := RL.get hA hv
    rw [hx] at hx'
    cases hx'
    have r2 := keyV_spec r
    obtain ⟨p, v1, v2, e, h1, r3, r4⟩ := R.p2_v r
    obtain ⟨p', w1, w2, e', h2, r5, r6⟩ := R.p2_v r2
    subst e
    cases e'
    obtain rfl := R.int_v r3
    obtain rfl := R.int_v r4
    obtain rfl := R.int_v r5
    obtain rfl := R.int_v r6
    have := I.tuple_inj h1 h2
    simp only [List.cons.injEq, V.int.injEq, and_true] at this
    exact ⟨Prod.ext this.1.symm this.2.symm, p, rfl, h1⟩
  have hlen : xs.length = ds.length := RL.len hA
  have hmem : ∀ v ∈ xs, ∃ t, v = .ref t ∧ SqT X.K H t [.int (keyV X.K H v).1, .int (keyV X.K H v).2] := fun v hv => by
    obtain ⟨i, hi, rfl⟩ := List.getElem_of_mem hv
    obtain ⟨k1, k2⟩ := hkey i xs[i] (ds[i]'(by omega)) (List.getElem?_eq_getElem hi) (List.getElem?_eq_getElem (by omega))
    rw [k1]
    exact k2
  obtain ⟨its, rv, hl, hz⟩ := I.list hs
  obtain ⟨u, rfl, ru⟩ := vals1 r
  obtain rfl : u = Value.ref a := ru
  obtain ⟨e1, e2⟩ := refs_back rv fun x m => by
    obtain ⟨t, e, _⟩ := hmem x m
    exact ⟨t, e⟩
  refine SrtO.sorted_pairsO (k := fun u => keyV X.K H (backV u)) hl.isList (by rw [← rv.length]; exact hz) (fun v hv => ?_) fun h' d out h1 h2 kp hd hn => ?_
  · obtain ⟨t, rfl⟩ := e2 v hv
    have hm : V.ref t ∈ xs := by rw [e1]; exact List.mem_map.mpr ⟨_, hv, rfl⟩
    obtain ⟨t', e, ht⟩ := hmem _ hm
    cases e
    obtain ⟨its2, r2, ⟨o, ho, hc, n, hd⟩, _⟩ := I.tuple ht
    obtain ⟨u1, u2, rfl, ri, rj⟩ := vals2 r2
    obtain ⟨t1, rfl⟩ := ri
    obtain ⟨t2, rfl⟩ := rj
    exact ⟨t, o, t1, t2, n, rfl, ho, hc, hd⟩
  · have h3 : ∀ u ∈ out, ∃ a, u = Value.ref a := fun u hu => e2 u (h2.perm.mem_iff.mp hu)
    obtain ⟨n, hn⟩ := hn
    have hb : SrtO.Stb (ltP (keyV X.K H)) (out.map backV) xs := by
      rw [e1]
      exact SrtO.Stb.map (ltP_swo (keyV X.K H)) backV h2
    have hsr : SrtO.Srtd (ltP (keyV X.K H)) (out.map backV) := SrtO.srtd_map h1
    have hds : xs.map (keyV X.K H) = ds := List.ext_getElem? fun i => by
      rw [List.getElem?_map]
      by_cases hi : i < xs.length
      · rw [List.getElem?_eq_getElem hi, List.getElem?_eq_getElem (by omega)]
        exact congrArg some (hkey i xs[i] (ds[i]'(by omega)) (List.getElem?_eq_getElem hi) (List.getElem?_eq_getElem (by omega))).1
      · rw [List.getElem?_eq_none (by omega), List.getElem?_eq_none (by omega)]
        rfl
    have hso : sortP ds = (out.map backV).map (keyV X.K H) := by
      refine sortP_uniq (by rw [← hds]; exact hb.perm.map _) (List.pairwise_map.mpr (hsr.imp fun {x y} h => ?_))
      have := SrtO.lexB_no.mp h
      exact decide_eq_true (by omega)
    refine ⟨.ref d, upd H d (.lst (out.map backV)), I.laid (t' := s.toks) kp hd ⟨?_, out, n, vals_back h3, hn⟩, rfl, q _ d hb.len (fun F hF => ?_) (I.hok.fresh hd)⟩
    · rw [hb.len]
      exact hz
    · rw [hso]
      have hall : ∀ v ∈ out.map backV, R X.K F v (keyV X.K H v) := fun v hv => by
        obtain ⟨i, hi, rfl⟩ := List.getElem_of_mem (hb.perm.mem_iff.mp hv)
        obtain ⟨x, hx, rx⟩ := RL.get hF (List.getElem?_eq_getElem hi)
        rw [(hkey i xs[i] x (List.getElem?_eq_getElem hi) hx).1]
        exact rx
      have go : ∀ l : List V, (∀ v ∈ l, R X.K F v (keyV X.K H v)) → RL X.K F l (l.map (keyV X.K H)) := fun l => by
        induction l with
        | nil => exact fun _ => .nil
        | cons v l ih => exact fun h => .cons (h v (List.mem_cons_self ..)) (ih fun u hu => h u (List.mem_cons_of_mem _ hu))
      exact go _ hall
theorem cr_sortedPK_ (h : X.K = K := by rfl) : CallR X (.builtin "sorted") (rSortedPK K) := by subst h; exact cr_sortedPK
end
/-! ### lists lent, walked over -/
def Lent {α : Type} [Enc α] (K : PySem.W.Frag) (H F : Hp) (M : Addr → Prop) (v : V) (e : List α) : Prop := ∃ p ws, v = .ref p ∧ SqL K H p ws ∧ ws.length ≤ sizeLine ∧ RL K F ws e ∧ ¬ M p
inductive LentL {α : Type} [Enc α] (K : PySem.W.Frag) (H F : Hp) (M : Addr → Prop) : List V → List (List α) → Prop
  | nil : LentL K H F M [] []
  | cons {v e vs es} : Lent K H F M v e → LentL K H F M vs es → LentL K H F M (v :: vs) (e :: es)
theorem LentL.len {α : Type} [Enc α] {K : PySem.W.Frag} {H F : Hp} {M : Addr → Prop} : ∀ {vs : List V} {es : List (List α)}, LentL K H F M vs es → vs.length = es.length
  | _, _, .nil => rfl
  | _, _, .cons _ t => congrArg (· + 1) t.len
theorem LentL.get {α : Type} [Enc α] {K : PySem.W.Frag} {H F : Hp} {M : Addr → Prop} : ∀ {vs : List V} {es : List (List α)} {i : Nat} {v : V}, LentL K H F M vs es → vs[i]? = some v → ∃ e, es[i]? = some e ∧ Lent K H F M v e
  | _, _, _, _, .nil, h => by simp at h
  | _, _, 0, _, .cons r _, h => ⟨_, rfl, by simp at h; exact h ▸ r⟩
  | _, _, i + 1, _, .cons _ t, h => by
    obtain ⟨e, h1, h2⟩ := LentL.get t (i := i) (by simpa using h)
    exact ⟨e, by simpa using h1, h2⟩
end G
/-! zip and enumerate walked over; a text looked up in a written table. -/
namespace G
open PySem PySem.Spec PyProof.Rows L2 TL
section
variable {K : PySem.W.Frag}
theorem pi_zipK {X : Cx} {e e2 : Expr} {ta : TA} {p pos tpos : Pos} {elts : List Expr} {kk : Nat} (hg : Gl X "zip") (hm : X.mg "zip" = none) (ha : PA X [e, e2] ta) (h : X.K = K := by rfl)
    (hs : starEach [e, e2] X.env = (false, eval e X.env) :: starEach [e2] X.env := by rfl) (hpl : (backTo pos (starEach [e2] X.env)).any (·.1) = false := by rfl) :
    PI X (.Tuple elts kk tpos) (.Call (.Name "zip" p) [e, e2] [] pos) (iZip K ta) := by subst h; exact pi_zip hg hm ha hs hpl
theorem pi_enumK {X : Cx} {e : Expr} {ta : TA} {p pos tpos : Pos} {elts : List Expr} {kk : Nat} (hg : Gl X "enumerate") (hm : X.mg "enumerate" = none) (ha : PA X [e] ta) (h : X.K = K := by rfl) (hs : starEach [e] X.env = [(false, eval e X.env)] := by rfl) :
    PI X (.Tuple elts kk tpos) (.Call (.Name "enumerate" p) [e] [] pos) (iEnum K ta) := by subst h; exact pi_enum hg hm ha hs
theorem for_zip {a b : Addr} {xs ys : List V} {g : TG} {tb : TS} {D : Ends} {σ : L2.St} {H : Hp} (Pv : Nat → L2.St → Hp → Prop) (h0 : Pv 0 σ H)
    (hl : ∀ i σ H, i ≤ min xs.length ys.length → Pv i σ H → SqL K H a xs ∧ SqL K H b ys)
    (hs : ∀ i x y T σ H, xs[i]? = some x → ys[i]? = some y → H T = none → Pv i σ H → g (.ref T) σ (upd H T (.tup [x, y])) fun σ2 H2 => tb { D with nx := Pv (i + 1), ct := Pv (i + 1), bk := D.nx } σ2 H2) (hd : ∀ σ H, Pv (min xs.length ys.length) σ H → D.nx σ H) :
    ∃ W : Nat → Nat → L2.St → Hp → Prop, (∃ m, W 0 m σ H) ∧ ∀ i m σ H, W i m σ H →
      ((Itz K a b).stop i H ∧ D.nx σ H) ∨ ((Itz K a b).go i H ∧ ∃ N : L2.St → Hp → Prop, (∀ σ' H', N σ' H' → ∃ m', m' < m ∧ W (i + 1) m' σ' H') ∧ ∀ x H', (Itz K a b).yld i H x H' → g x σ H' fun σ2 H2 => tb { D with nx := N, ct := N, bk := D.nx } σ2 H2) :=
  for_it (walk_zip rfl) Pv h0 hl (fun i v σ H H' _ p ⟨T, x, y, e1, e2, e3, e4, e5⟩ => by subst e1 e3; exact hs i x y T σ H e4 e5 e2 p) hd
theorem for_enum {a : Addr} {xs : List V} {g : TG} {tb : TS} {D : Ends} {σ : L2.St} {H : Hp} (Pv : Nat → L2.St → Hp → Prop) (h0 : Pv 0 σ H)
    (hl : ∀ i σ H, i ≤ xs.length → Pv i σ H → SqL K H a xs)
    (hs : ∀ i x T σ H, xs[i]? = some x → H T = none → Pv i σ H → g (.ref T) σ (upd H T (.tup [.int (i : Nat), x])) fun σ2 H2 => tb { D with nx := Pv (i + 1), ct := Pv (i + 1), bk := D.nx } σ2 H2) (hd : ∀ σ H, Pv xs.length σ H → D.nx σ H) :
    ∃ W : Nat → Nat → L2.St → Hp → Prop, (∃ m, W 0 m σ H) ∧ ∀ i m σ H, W i m σ H →
      ((Ite K a).stop i H ∧ D.nx σ H) ∨ ((Ite K a).go i H ∧ ∃ N : L2.St → Hp → Prop, (∀ σ' H', N σ' H' → ∃ m', m' < m ∧ W (i + 1) m' σ' H') ∧ ∀ x H', (Ite K a).yld i H x H' → g x σ H' fun σ2 H2 => tb { D with nx := N, ct := N, bk := D.nx } σ2 H2) :=
  for_it walk_enum Pv h0 hl (fun i v σ H H' _ p ⟨T, x, y, e1, e2, e3, e4, e5⟩ => by
    subst e1 e3
    cases e4
    exact hs i y T σ H e5 e2 p) hd
theorem lc_zip {a b : Addr} {xs ys : List V} {g : TG} {tt : TT} {te : TE} {vs : List Nat} {σ : L2.St} {H1 : Hp} {D : Addr} {Qd : Hp → Prop} (Pv : Nat → Hp → Prop) (h0 : Pv 0 (upd H1 D (.lst [])))
    (hl : ∀ i H, i ≤ min xs.length ys.length → Pv i H → SqL K H a xs ∧ SqL K H b ys)
    (hs : ∀ i x y T H, xs[i]? = some x → ys[i]? = some y → H T = none → Pv i H → g (.ref T) (wipe σ vs) (upd H T (.tup [x, y])) fun σ2 H2 => wipe σ2 vs = wipe σ vs ∧ tt σ2 H2 fun b H3 =>
      if b = true then te σ2 H3 fun y H4 => ∃ acc, H4 D = some (.lst acc) ∧ acc.length < sizeLine ∧ Pv (i + 1) (upd H4 D (.lst (acc ++ [y]))) else Pv (i + 1) H3) (hd : ∀ H, Pv (min xs.length ys.length) H → Qd H) :
    ∃ W : Nat → Nat → Hp → Prop, (∃ m, W 0 m (upd H1 D (.lst []))) ∧ ∀ i m H, W i m H →
      ((Itz K a b).stop i H ∧ Qd H) ∨ ((Itz K a b).go i H ∧ ∃ Nx : Hp → Prop, (∀ H', Nx H' → ∃ m', m' < m ∧ W (i + 1) m' H') ∧ ∀ x H', (Itz K a b).yld i H x H' → g x (wipe σ vs) H' fun σ2 H2 => wipe σ2 vs = wipe σ vs ∧ tt σ2 H2 fun b H3 =>
        if b = true then te σ2 H3 fun y H4 => ∃ acc, H4 D = some (.lst acc) ∧ acc.length < sizeLine ∧ Nx (upd H4 D (.lst (acc ++ [y]))) else Nx H3) :=
  lc_it (walk_zip rfl) Pv h0 hl (fun i v H H' _ p ⟨T, x, y, e1, e2, e3, e4, e5⟩ => by subst e1 e3; exact hs i x y T H e4 e5 e2 p) hd
theorem lc_enum {a : Addr} {xs : List V} {g : TG} {tt : TT} {te : TE} {vs : List Nat} {σ : L2.St} {H1 : Hp} {D : Addr} {Qd : Hp → Prop} (Pv : Nat → Hp → Prop) (h0 : Pv 0 (upd H1 D (.lst [])))
    (hl : ∀ i H, i ≤ xs.length → Pv i H → SqL K H a xs)
    (hs : ∀ i x T H, xs[i]? = some x → H T = none → Pv i H → g (.ref T) (wipe σ vs) (upd H T (.tup [.int (i : Nat), x])) fun σ2 H2 => wipe σ2 vs = wipe σ vs ∧ tt σ2 H2 fun b H3 =>
      if b = true then te σ2 H3 fun y H4 => ∃ acc, H4 D = some (.lst acc) ∧ acc.length < sizeLine ∧ Pv (i + 1) (upd H4 D (.lst (acc ++ [y]))) else Pv (i + 1) H3) (hd : ∀ H, Pv xs.length H → Qd H) :
    ∃ W : Nat → Nat → Hp → Prop, (∃ m, W 0 m (upd H1 D (.lst []))) ∧ ∀ i m H, W i m H →
      ((Ite K a).stop i H ∧ Qd H) ∨ ((Ite K a).go i H ∧ ∃ Nx : Hp → Prop, (∀ H', Nx H' → ∃ m', m' < m ∧ W (i + 1) m' H') ∧ ∀ x H', (Ite K a).yld i H x H' → g x (wipe σ vs) H' fun σ2 H2 => wipe σ2 vs = wipe σ vs ∧ tt σ2 H2 fun b H3 =>
        if b = true then te σ2 H3 fun y H4 => ∃ acc, H4 D = some (.lst acc) ∧ acc.length < sizeLine ∧ Nx (upd H4 D (.lst (acc ++ [y]))) else Nx H3) :=
  lc_it walk_enum Pv h0 hl (fun i v H H' _ p ⟨T, x, y, e1, e2, e3, e4, e5⟩ => by
    subst e1 e3
    cases e4
    exact hs i y T H e5 e2 p) hd
theorem gzip_get {α β : Type} {xs : List α} {ys : List β} {i : Nat} {x : α} {y : β} (h1 : xs[i]? = some x) (h2 : ys[i]? = some y) : (List.zip xs ys)[i]? = some (x, y) := by
  rw [List.zip, List.getElem?_zipWith, h1, h2]
theorem enum_get {α : Type} {xs : List α} {i : Nat} {x : α} (h : xs[i]? = some x) : (List.zip (rangeL 0 xs.length) xs)[i]? = some (((i : Nat) : Int), x) := by
  have hi : i < xs.length := (List.getElem?_eq_some_iff.mp h).1
  have := rangeL_at (lo := 0) hi
  rw [Int.zero_add] at this
  exact gzip_get this h
theorem zip_lenV {α β γ δ : Type} {xs : List α} {ys : List β} {vs : List γ} {ws : List δ} (h1 : vs.length = xs.length) (h2 : ws.length = ys.length) : min vs.length ws.length = (List.zip xs ys).length := by rw [List.length_zip, h1, h2]
theorem enum_lenV {α γ : Type} {xs : List α} {vs : List γ} (h1 : vs.length = xs.length) : vs.length = (List.zip (rangeL 0 xs.length) xs).length := by rw [List.length_zip, rangeL_len, h1]; exact (Nat.min_self _).symm
end
/-! ### texts looked up in a written table -/
def dgetI (kvs : List (Str × Str)) (k : Str) : Option Str := (kvs.find? fun kv => decide (kv.1 = k)).map (·.2)
theorem rd_dgetI {ty : TE} {σ : L2.St} {H : Hp} {Q : VK} {k v : Str} (trs : List (TE × TE)) (kvs : List (Str × Str)) (he : trs = kvs.map fun kv => (tC (.str kv.1), tC (.str kv.2))) (h15 : kvs.length ≤ 15) (hm : mergeK [] (kvS kvs) = kvS kvs)
    (hk : dgetI kvs k = some v) (hy : ∀ H1 Q', Q' (.str k) H1 → ty σ H1 Q') (q : ∀ p, H p = none → Q (.str v) (upd H p (.dK (kvS kvs)))) : tDGet (tDisp trs) ty σ H Q := by
  intro p hp
  have walk : ∀ (l : List (Str × Str)) (R : List (V × V) → Hp → Prop) (H1 : Hp), R (l.map fun kv => (V.str kv.1, V.str kv.2)) H1 → tPairs (l.map fun kv => (tC (.str kv.1), tC (.str kv.2))) σ H1 R := by
    intro l
    induction l with
    | nil => intro R H1 h; exact h
    | cons kv l ih => intro R H1 h; exact ih (fun ps H3 => R ((V.str kv.1, V.str kv.2) :: ps) H3) H1 h
  rw [he]
  refine walk kvs _ _ ⟨upd_same, kvS kvs, ?_, ?_, ?_⟩
  · unfold kvS
    rw [List.map_map]
    rfl
  · unfold kvS
    rw [List.length_map]
    exact h15
  · rw [hm, upd_upd]
    have e : valV (kvS kvs) (Sum.inr k) = some (.str v) := by
      rw [valS]
      unfold dgetI at hk
      rw [hk]
      rfl
    exact hy _ _ ⟨p, .str v, rfl, e ▸ DGet.k (k := Sum.inr k) upd_same, q p hp⟩
theorem GS.di {kvs : List (Str × Str)} {k v : Str} (h : ∀ kv ∈ kvs, GS kv.2) (hk : dgetI kvs k = some v) : GS v := by
  unfold dgetI at hk
  cases e : (kvs.find? fun kv => decide (kv.1 = k)) with
  | none => rw [e] at hk; cases hk
  | some kv =>
    rw [e] at hk
    cases hk
    exact h kv (List.mem_of_find?_eq_some e)
end G
/-! tuples of one, things of either type; the bag of five; membership, pop, tuples. -/
namespace G
open PySem PySem.Spec PyProof.Rows L2 TL
structure T1 (α : Type) where
  a : α
  deriving DecidableEq
instance {α : Type} [Enc α] : Enc (T1 α) := ⟨fun p => .tuple [Enc.d p.a]⟩
instance {α : Type} [Enc α] [Dep α] : Dep (T1 α) := ⟨Dep.n α + 1, fun p => by
  have h1 := Dep.le p.a
  show PyData.depthAll [Enc.d p.a] + 1 ≤ _
  simp only [PyData.depthAll]
  omega⟩
instance {α : Type} [Enc α] : NN (T1 α) := ⟨fun _ => nofun⟩
instance {α β : Type} [Enc α] [Enc β] : Enc (α ⊕ β) := ⟨fun s => match s with | .inl x => Enc.d x | .inr y => Enc.d y⟩
instance {α β : Type} [Enc α] [Enc β] [Dep α] [Dep β] : Dep (α ⊕ β) := ⟨max (Dep.n α) (Dep.n β), fun s => match s with
  | .inl x => Nat.le_trans (Dep.le x) (Nat.le_max_left _ _)
  | .inr y => Nat.le_trans (Dep.le y) (Nat.le_max_right _ _)⟩
instance {α β : Type} [Enc α] [Enc β] [NN α] [NN β] : NN (α ⊕ β) := ⟨fun s => match s with
  | .inl x => NN.ne x
  | .inr y => NN.ne y⟩
section
variable {K : PySem.W.Frag} {F : Hp} {v : V} {p : Addr} {α β γ : Type} [Enc α] [Enc β] [Enc γ]
theorem R.p1_v {x : T1 α} (h : R K F v x) : ∃ p v1, v = .ref p ∧ SqT K F p [v1] ∧ R K F v1 x.a := by
  have h' : Rp K F v (.tuple [Enc.d x.a]) := h
  cases h' with
  | tup hs hl ha =>
    cases ha with
    | cons h1 h2 =>
      cases h2
      exact ⟨_, _, rfl, .inl (.inl hs), h1⟩
theorem R.p1_s {x : T1 α} (h : R K F v x) : ∃ p v1, v = .ref p ∧ F p = some (.tup [v1]) ∧ R K F v1 x.a := by
  have h' : Rp K F v (.tuple [Enc.d x.a]) := h
  cases h' with
  | tup hs hl ha =>
    cases ha with
    | cons h1 h2 =>
      cases h2
      exact ⟨_, _, rfl, hs, h1⟩
theorem R.mk1 {v1 : V} {x : α} (h1 : F p = some (.tup [v1])) (r1 : R K F v1 x) : R K F (.ref p) (T1.mk x) := .tup h1 (by show 1 ≤ sizeLine; decide) (.cons r1 .nil)
theorem R.inl {x : α} (r : R K F v x) : R K F v (Sum.inl x : α ⊕ β) := r
theorem R.inr {y : β} (r : R K F v y) : R K F v (Sum.inr y : α ⊕ β) := r
theorem R.some_ {x : α} (r : R K F v x) : R K F v (some x) := r
theorem R.omap {x : Option α} {f : α → β} (h : ∀ a, (Enc.d (f a) : PyData) = Enc.d a) (r : R K F v x) : R K F v (x.map f) := by
  cases x with
  | none => exact r
  | some a => show Rp K F v (Enc.d (f a)); rw [h]; exact r
def getL {α β : Type} : α ⊕ β → Option α
  | .inl x => some x
  | .inr _ => none
def getR {α β : Type} : α ⊕ β → Option β
  | .inr y => some y
  | .inl _ => none
theorem getL_ok {s : α ⊕ β} {x : α} (h : getL s = some x) (r : R K F v s) : R K F v x := by
  cases s with
  | inl a => cases h; exact r
  | inr b => cases h
theorem getR_ok {s : α ⊕ β} {y : β} (h : getR s = some y) (r : R K F v s) : R K F v y := by
  cases s with
  | inr a => cases h; exact r
  | inl b => cases h
theorem getO_ok {s : Option α} {x : α} (h : s = some x) (r : R K F v s) : R K F v x := by subst h; exact r
end
/-- the bag of five: cells, which is next, what is left of the last, the stir, how many were stirred -/
structure Bag2 where
  cells : List Int
  at_ : Nat
  left : Int
  stir : Int
  cnt : Int
structure BagAt2 (F H : Hp) (B C : Addr) (b : Bag2) : Prop where
  hB : H B = some (.lst [.ref C, .int (b.at_ : Nat), .int b.left, .int b.stir, .int b.cnt])
  hC : H C = some (.lst (b.cells.map V.int))
  ne : B ≠ C
  fB : F B = none
  fC : F C = none
section
variable {M : Addr → Prop} {F0 H0 F H F' H' : Hp} {p q B C : Addr} {o : HO} {b b' : Bag2} {ws : List V}
theorem BagAt2.frz (a : BagAt2 F H B C b) (hq : H q = none) : BagAt2 (upd F q o) (upd H q o) B C b :=
  have n1 := ne_of_none a.hB hq
  have n2 := ne_of_none a.hC hq
  ⟨(upd_ne n1).trans a.hB, (upd_ne n2).trans a.hC, a.ne, (upd_ne n1).trans a.fB, (upd_ne n2).trans a.fC⟩
theorem BagAt2.own (a : BagAt2 F H B C b) (hq : H q = none) : BagAt2 F (upd H q o) B C b :=
  have n1 := ne_of_none a.hB hq
  have n2 := ne_of_none a.hC hq
  ⟨(upd_ne n1).trans a.hB, (upd_ne n2).trans a.hC, a.ne, a.fB, a.fC⟩
theorem BagAt2.nb (a : BagAt2 F H B C b) (hq : H q = none) : ¬ Bc B C q := fun z => by
  rcases z with z | z
  · exact ne_of_none a.hB hq z.symm
  · exact ne_of_none a.hC hq z.symm
theorem BagAt2.other (a : BagAt2 F H B C b) (m : ¬ Bc B C q) : BagAt2 F (upd H q o) B C b :=
  have n1 : B ≠ q := fun z => m (.inl z.symm)
  have n2 : C ≠ q := fun z => m (.inr z.symm)
  ⟨(upd_ne n1).trans a.hB, (upd_ne n2).trans a.hC, a.ne, a.fB, a.fC⟩
theorem BagAt2.fz (a : BagAt2 F H B C b) (m : ¬ Bc B C q) : BagAt2 (upd F q o) H B C b :=
  have n1 : B ≠ q := fun z => m (.inl z.symm)
  have n2 : C ≠ q := fun z => m (.inr z.symm)
  ⟨a.hB, a.hC, a.ne, (upd_ne n1).trans a.fB, (upd_ne n2).trans a.fC⟩
theorem BagAt2.gr0 (a : BagAt2 F H B C b) (g : Gr M0 F H F' H') : BagAt2 F' H' B C b :=
  ⟨g.keep _ _ id a.hB, g.keep _ _ id a.hC, a.ne, g.newL (by rw [a.hB]; simp) a.fB (fun ts z => by rw [g.keep _ _ id a.hB] at z; cases z), g.newL (by rw [a.hC]; simp) a.fC (fun ts z => by rw [g.keep _ _ id a.hC] at z; cases z)⟩
theorem BagAt2.apart (a : BagAt2 F H B C b) (k : Gr M0 H H F' H') : BagAt2 F H' B C b := ⟨k.keep _ _ id a.hB, k.keep _ _ id a.hC, a.ne, a.fB, a.fC⟩
theorem BagAt2.put (a : BagAt2 F H B C b) (e : b'.cells = b.cells) : BagAt2 F (upd H B (.lst [.ref C, .int (b'.at_ : Nat), .int b'.left, .int b'.stir, .int b'.cnt])) B C b' :=
  ⟨upd_same, by rw [upd_ne a.ne.symm, a.hC, e], a.ne, a.fB, a.fC⟩
end
/-! ### membership -/
def rInI (K : PySem.W.Frag) : R2 := fun x y H Q => ∃ (k : Int) (p : Addr) (ns : List Int), x = .int k ∧ y = .ref p ∧ (SqL K H p (ns.map V.int) ∨ SqT K H p (ns.map V.int)) ∧ Q (.bl (decide (k ∈ ns))) H
def rNotInI (K : PySem.W.Frag) : R2 := fun x y H Q => ∃ (k : Int) (p : Addr) (ns : List Int), x = .int k ∧ y = .ref p ∧ (SqL K H p (ns.map V.int) ∨ SqT K H p (ns.map V.int)) ∧ Q (.bl (!decide (k ∈ ns))) H
theorem inV_ints (k : Int) (ns : List Int) : inV (.int k) (ns.map V.int) = decide (k ∈ ns) := by
  rw [Bool.eq_iff_iff, decide_eq_true_iff]
  unfold inV
  rw [List.any_map, List.any_eq_true]
  constructor
  · rintro ⟨x, hx, e⟩
    have e' : (x == k) = true := e
    rw [← beq_iff_eq.mp e']
    exact hx
  · intro h
    exact ⟨k, h, beq_iff_eq.mpr rfl⟩
theorem flat_ints (ns : List Int) : (ns.map V.int).all flatV = true := by
  rw [List.all_map, List.all_eq_true]
  intro x _
  rfl
section
variable {X : Cx} {K : PySem.W.Frag}
theorem op_inI (h : X.K = K := by rfl) : OpR X (compareOp .In) (rInI K) := by
  subst h
  intro pins s σ H x y v u Q I rx ry ⟨k, p, ns, e1, e2, hs, q⟩
  exact op_in_seq pins s σ H x y v u Q I rx ry ⟨p, _, e2, hs, by rw [e1]; rfl, flat_ints ns, by rw [e1, inV_ints]; exact q⟩
theorem op_notInI (h : X.K = K := by rfl) : OpR X (compareOp .NotIn) (rNotInI K) := by
  subst h
  intro pins s σ H x y v u Q I rx ry ⟨k, p, ns, e1, e2, hs, q⟩
  exact op_notIn_seq pins s σ H x y v u Q I rx ry ⟨p, _, e2, hs, by rw [e1]; rfl, flat_ints ns, by rw [e1, inV_ints]; exact q⟩
theorem op_inDK (hu : X.A.units + 65 < cLine) (h : X.K = K := by rfl) : OpR X (compareOp .In) (rInD K) := by subst h; exact op_inD hu
theorem op_notInDK (hu : X.A.units + 65 < cLine) (h : X.K = K := by rfl) : OpR X (compareOp .NotIn) (rNotInD K) := by subst h; exact op_notInD hu
theorem sl_tupK (h : X.K = K := by rfl) : SlR X (rSlA K) := by subst h; exact sl_tupA
theorem op_catTK (h : X.K = K := by rfl) : OpR X (binaryOp .Add) (rCatA K) := by subst h; exact op_catA
theorem cr_maxK (hc : X.calm = true) (h : X.K = K := by rfl) : CallR X (.builtin "max") (rMax K) := by subst h; exact cr_max hc
theorem cr_minK' (hc : X.calm = true) (h : X.K = K := by rfl) : CallR X (.builtin "min") (rMin K) := by subst h; exact cr_min hc
theorem pe_tupleOfK {a : Expr} {ta : TE} {p pos : Pos} (hg : Gl X "tuple") (hm : X.mg "tuple" = none) (ha : PE X a ta) (h : X.K = K := by rfl) (na : starEach [a] X.env = (false, eval a X.env) :: starEach [] X.env := by rfl) :
    PE X (.Call (.Name "tuple" p) [a] [] pos) (tThen ta (kTup K)) := by subst h; exact pe_tupleOf hg hm ha na
end
def inD {α : Type} [Enc α] (x : α) (xs : List α) : Bool := (xs.map Enc.d).any fun z => PyData.eqv z (Enc.d x)
/-! ### the least, the greatest -/
def maxO : List Int → Option Int
  | [] => none
  | x :: r => some (r.foldl max x)
def minO : List Int → Option Int
  | [] => none
  | x :: r => some (r.foldl min x)
theorem foldl_max (r : List Int) : ∀ x : Int, (r.foldl max x ∈ x :: r) ∧ ∀ y ∈ x :: r, y ≤ r.foldl max x := by
  induction r with
  | nil => intro x; exact ⟨List.mem_cons_self .., fun y hy => by rw [List.mem_singleton.mp hy]; exact Int.le_refl _⟩
  | cons z r ih =>
    intro x
    obtain ⟨h1, h2⟩ := ih (max x z)
    refine ⟨?_, fun y hy => ?_⟩
    · show List.foldl max (max x z) r ∈ _
      rcases List.mem_cons.mp h1 with e | e
      · rw [e]
        by_cases h : x ≤ z
        · rw [Int.max_eq_right h]; exact List.mem_cons_of_mem _ (List.mem_cons_self ..)
        · rw [Int.max_eq_left (by omega)]; exact List.mem_cons_self ..
      · exact List.mem_cons_of_mem _ (List.mem_cons_of_mem _ e)
    · show y ≤ List.foldl max (max x z) r
      have h3 := h2 (max x z) (List.mem_cons_self ..)
      rcases List.mem_cons.mp hy with e | hy
      · omega
      · rcases List.mem_cons.mp hy with e | hy
        · omega
        · exact h2 y (List.mem_cons_of_mem _ hy)
theorem foldl_min (r : List Int) : ∀ x : Int, (r.foldl min x ∈ x :: r) ∧ ∀ y ∈ x :: r, r.foldl min x ≤ y := by
  induction r with
  | nil => intro x; exact ⟨List.mem_cons_self .., fun y hy => by rw [List.mem_singleton.mp hy]; exact Int.le_refl _⟩
  | cons z r ih =>
    intro x
    obtain ⟨h1, h2⟩ := ih (min x z)
    refine ⟨?_, fun y hy => ?_⟩
    · show List.foldl min (min x z) r ∈ _
      rcases List.mem_cons.mp h1 with e | e
      · rw [e]
        by_cases h : x ≤ z
        · rw [Int.min_eq_left h]; exact List.mem_cons_self ..
        · rw [Int.min_eq_right (by omega)]; exact List.mem_cons_of_mem _ (List.mem_cons_self ..)
      · exact List.mem_cons_of_mem _ (List.mem_cons_of_mem _ e)
    · show List.foldl min (min x z) r ≤ y
      have h3 := h2 (min x z) (List.mem_cons_self ..)
      rcases List.mem_cons.mp hy with e | hy
      · omega
      · rcases List.mem_cons.mp hy with e | hy
        · omega
        · exact h2 y (List.mem_cons_of_mem _ hy)
theorem maxO_ok {xs : List Int} {m : Int} (h : maxO xs = some m) : 0 < xs.length ∧ m ∈ xs ∧ ∀ y ∈ xs, y ≤ m := by
  cases xs with
  | nil => cases h
  | cons x r =>
    cases h
    exact ⟨Nat.succ_pos _, (foldl_max r x).1, (foldl_max r x).2⟩
theorem minO_ok {xs : List Int} {m : Int} (h : minO xs = some m) : 0 < xs.length ∧ m ∈ xs ∧ ∀ y ∈ xs, m ≤ y := by
  cases xs with
  | nil => cases h
  | cons x r =>
    cases h
    exact ⟨Nat.succ_pos _, (foldl_min r x).1, (foldl_min r x).2⟩
theorem max_uniq {xs : List Int} {m k : Int} (h : maxO xs = some m) (hk : k ∈ xs) (hl : ∀ y, y ∈ xs → y ≤ k) : k = m := by
  obtain ⟨_, h1, h2⟩ := maxO_ok h
  have := h2 k hk
  have := hl m h1
  omega
theorem min_uniq {xs : List Int} {m k : Int} (h : minO xs = some m) (hk : k ∈ xs) (hl : ∀ y, y ∈ xs → k ≤ y) : k = m := by
  obtain ⟨_, h1, h2⟩ := minO_ok h
  have := h2 k hk
  have := hl m h1
  omega
/-! ### pop -/
def popI {α : Type} (xs : List α) (i : Int) : Option (α × List α) := (ixN xs.length i).bind fun j => xs[j]?.map fun x => (x, xs.eraseIdx j)
theorem popI_ok {α : Type} {xs r : List α} {i : Int} {x : α} (h : popI xs i = some (x, r)) : ∃ j, ixN xs.length i = some j ∧ xs[j]? = some x ∧ xs.eraseIdx j = r := by
  unfold popI at h
  obtain ⟨j, h1, h2⟩ := Option.bind_eq_some_iff.mp h
  obtain ⟨y, h3, h4⟩ := Option.map_eq_some_iff.mp h2
  cases h4
  exact ⟨j, h1, h3, rfl⟩
theorem popI_at {i : Int} {n j : Nat} (h : ixN n i = some j) (hn : n ≤ sizeLine) : (-(2 ^ 63) ≤ i ∧ i < 2 ^ 63) ∧ seqIndex? i n = some j := by
  obtain ⟨h1, h2, h3, h4⟩ := ixN_seq h
  rw [sizeLine_eq] at hn
  exact ⟨by omega, h1⟩
theorem RpA.erase {K : PySem.W.Frag} {F : Hp} : ∀ {vs : List V} {ds : List PyData} (j : Nat), RpA K F vs ds → RpA K F (vs.eraseIdx j) (ds.eraseIdx j)
  | _, _, _, .nil => .nil
  | _, _, 0, .cons _ t => t
  | _, _, j + 1, .cons h t => .cons h (RpA.erase j t)
theorem map_er {α β : Type} (f : α → β) : ∀ (l : List α) (j : Nat), (l.eraseIdx j).map f = (l.map f).eraseIdx j
  | [], _ => rfl
  | _ :: _, 0 => rfl
  | x :: l, j + 1 => congrArg (f x :: ·) (map_er f l j)
theorem RL.erase {α : Type} [Enc α] {K : PySem.W.Frag} {F : Hp} {vs : List V} {xs : List α} (j : Nat) (h : RL K F vs xs) : RL K F (vs.eraseIdx j) (xs.eraseIdx j) := by
  have := RpA.erase j h
  rw [← map_er] at this
  exact this
theorem erase_le {α : Type} {xs : List α} {j n : Nat} (h : xs.length ≤ n) : (xs.eraseIdx j).length ≤ n := Nat.le_trans (List.length_eraseIdx_le _ _) h
/-! ### a list so many times -/
def repL {α : Type} (xs : List α) (k : Int) : Option (List α) := if -(2 ^ 63) ≤ k ∧ k < 2 ^ 63 ∧ xs.length * k.toNat ≤ sizeLine then some (List.replicate k.toNat xs).flatten else none
theorem repL_ok {α : Type} {xs r : List α} {k : Int} (h : repL xs k = some r) : (-(2 ^ 63) ≤ k ∧ k < 2 ^ 63 ∧ xs.length * k.toNat ≤ sizeLine) ∧ (List.replicate k.toNat xs).flatten = r := by
  unfold repL at h
  split at h
  · exact ⟨by assumption, Option.some.inj h⟩
  · cases h
theorem RL.rep {α : Type} [Enc α] {K : PySem.W.Frag} {F : Hp} {vs : List V} {xs : List α} (h : RL K F vs xs) : ∀ n : Nat, RL K F (List.replicate n vs).flatten (List.replicate n xs).flatten
  | 0 => RpA.nil
  | n + 1 => by rw [List.replicate_succ, List.replicate_succ, List.flatten_cons, List.flatten_cons]; exact RL.app h (RL.rep h n)
theorem rep_len {α : Type} (xs : List α) (n : Nat) : (List.replicate n xs).flatten.length = xs.length * n := by
  rw [List.length_flatten, List.map_replicate, List.sum_replicate_nat, Nat.mul_comm]
theorem units65 {k : Nat} {A : Around} (r : Room k A) : A.units + 65 < cLine := by have := r.un; omega
def rSlF (K : PySem.W.Frag) : V → Option Int → Option Int → Hp → VK → Prop := fun x lo hi H Q => ∃ (F : Hp) (a : Addr) (xs : List V), x = .ref a ∧ F a = some (.tup xs) ∧ Same F H ∧
  ∀ q F' H', Gr M0 F H F' H' → F' q = some (.tup (cutV xs lo hi)) → Q (.ref q) H'
theorem sl_tupF {X : Cx} {K : PySem.W.Frag} (h : X.K = K := by rfl) : SlR X (rSlF K) := by
  subst h
  intro pins s σ H x v vl vu lo hi sl Q I rx hs pl pu ⟨F, a, xs, e, hx, hF, q⟩
  refine sl_tupA pins s σ H x v vl vu lo hi sl Q I rx hs pl pu ⟨a, xs, e, .inl (.inl (hF _ _ hx)), fun hfull => ?_, fun _ p hp => ?_⟩
  · refine q a F H (Gr.refl hF) ?_
    unfold cutV
    rw [hfull.1, hfull.2, List.drop_zero, Nat.sub_zero, List.take_length]
    exact hx
  · exact q p _ _ ((Gr.refl hF).frz (o := .tup (cutV xs lo hi)) hp) fzT
def popL {α : Type} (xs : List α) : Option (α × List α) := xs[xs.length - 1]?.map fun x => (x, xs.dropLast)
theorem popL_ok {α : Type} {xs r : List α} {x : α} (h : popL xs = some (x, r)) : xs[xs.length - 1]? = some x ∧ xs.dropLast = r := by
  unfold popL at h
  obtain ⟨y, h3, h4⟩ := Option.map_eq_some_iff.mp h
  cases h4
  exact ⟨h3, rfl⟩
/-! ### how many unlike tuples of ints -/
class IK (α : Type) [Enc α] where
  ks : α → List Int
  enc : ∀ x, Enc.d x = .tuple ((ks x).map .int)
  few : ∀ x, (ks x).length ≤ 8
  pos : ∀ x, 0 < (ks x).length
  inj : ∀ x y, ks x = ks y → x = y
instance : IK (Int × Int) := ⟨fun x => [x.1, x.2], fun _ => rfl, fun _ => by show 2 ≤ 8; decide, fun _ => Nat.succ_pos _, fun x y h => by
  obtain ⟨h1, h2⟩ := List.cons.inj h
  exact Prod.ext h1 (List.cons.inj h2).1⟩
instance : IK (T4 Int Int Int Int) := ⟨fun x => [x.a, x.b, x.c, x.e], fun _ => rfl, fun _ => by show 4 ≤ 8; decide, fun _ => Nat.succ_pos _, fun x y h => by
  obtain ⟨h1, h2⟩ := List.cons.inj h
  obtain ⟨h3, h4⟩ := List.cons.inj h2
  obtain ⟨h5, h6⟩ := List.cons.inj h4
  cases x
  cases y
  simp only at h1 h3 h5 h6
  rw [h1, h3, h5, (List.cons.inj h6).1]⟩
instance : IK (T3 Int Int Int) := ⟨fun x => [x.a, x.b, x.c], fun _ => rfl, fun _ => by show 3 ≤ 8; decide, fun _ => Nat.succ_pos _, fun x y h => by
  obtain ⟨h1, h2⟩ := List.cons.inj h
  obtain ⟨h3, h4⟩ := List.cons.inj h2
  cases x
  cases y
  simp only at h1 h3 h4
  rw [h1, h3, (List.cons.inj h4).1]⟩
theorem rp_ints {K : PySem.W.Frag} {F : Hp} : ∀ {ns : List Int} {vs : List V}, RpA K F vs (ns.map .int) → vs = ns.map V.int
  | [], _, .nil => rfl
  | _ :: _, _, .cons h t => by
    cases h
    rw [rp_ints t]
    rfl
theorem ik_rows {α : Type} [Enc α] [IK α] {K : PySem.W.Frag} {F : Hp} : ∀ (ds : List α) {vs : List V}, RpA K F vs (ds.map Enc.d) → ∃ ks : List (Addr × List Int), vs = ks.map (fun p => V.ref p.1) ∧ ds.map IK.ks = ks.map (·.2) ∧ ∀ p ∈ ks, SqT K F p.1 (p.2.map V.int)
  | [], _, h => by cases h; exact ⟨[], rfl, rfl, fun _ h => nomatch h⟩
  | x :: ds, _, h => by
    cases h with
    | cons h t =>
      obtain ⟨ks, e1, e2, e3⟩ := ik_rows ds t
      rw [IK.enc x] at h
      cases h with
      | tup hs hl ha =>
        obtain rfl := rp_ints ha
        refine ⟨(_, IK.ks x) :: ks, by rw [e1]; rfl, by rw [List.map_cons, List.map_cons, e2], fun p hp => ?_⟩
        rcases List.mem_cons.mp hp with rfl | hp
        · exact .inl (.inl hs)
        · exact e3 p hp
theorem len_same {α : Type} [DecidableEq α] {a b : List α} (ha : a.Nodup) (hb : b.Nodup) (h : ∀ x, x ∈ a ↔ x ∈ b) : a.length = b.length := by
  refine Nat.le_antisymm ?_ ?_
  · exact go ha fun x hx => (h x).mp hx
  · exact go hb fun x hx => (h x).mpr hx
where
  go : ∀ {a b : List α}, a.Nodup → (∀ x ∈ a, x ∈ b) → a.length ≤ b.length
    | [], _, _, _ => Nat.zero_le _
    | x :: a, b, ha, h => by
      obtain ⟨h1, h2⟩ := List.nodup_cons.mp ha
      have hx := h x (List.mem_cons_self ..)
      have := go (a := a) (b := b.erase x) h2 fun y hy => (List.mem_erase_of_ne (fun e => by rw [e] at hy; exact h1 hy)).mpr (h y (List.mem_cons_of_mem _ hy))
      rw [List.length_erase_of_mem hx] at this
      have hp := List.length_pos_of_mem hx
      rw [List.length_cons]
      omega
def undup {α : Type} [DecidableEq α] : List α → List α
  | [] => []
  | x :: l => if x ∈ l then undup l else x :: undup l
theorem mem_undup {α : Type} [DecidableEq α] {x : α} : ∀ {l : List α}, x ∈ undup l ↔ x ∈ l
  | [] => Iff.rfl
  | y :: l => by
    unfold undup
    by_cases h : y ∈ l
    · rw [if_pos h, mem_undup, List.mem_cons]
      exact ⟨.inr, fun e => e.elim (fun e => e ▸ h) id⟩
    · rw [if_neg h, List.mem_cons, List.mem_cons, mem_undup]
theorem nodup_undup {α : Type} [DecidableEq α] : ∀ l : List α, (undup l).Nodup
  | [] => List.nodup_nil
  | y :: l => by
    unfold undup
    by_cases h : y ∈ l
    · rw [if_pos h]; exact nodup_undup l
    · rw [if_neg h]
      exact List.nodup_cons.mpr ⟨fun z => h (mem_undup.mp z), nodup_undup l⟩
def lsetT {α : Type} [DecidableEq α] (xs : List α) : Option Int := if xs.length < 64 then some (((undup xs).length : Nat) : Int) else none
theorem lsetT_ok {α : Type} [DecidableEq α] {xs : List α} {n : Int} (h : lsetT xs = some n) : xs.length < 64 ∧ (((undup xs).length : Nat) : Int) = n := by
  unfold lsetT at h
  split at h
  · exact ⟨by assumption, Option.some.inj h⟩
  · cases h
def tLenSetT (K : PySem.W.Frag) {α : Type} [Enc α] [IK α] [DecidableEq α] (ta : TE) : TE := fun σ H Q => ta σ H fun x H1 => ∃ (l : Addr) (vs : List V) (ds : List α), x = V.ref l ∧ SqL K H1 l vs ∧ RL K H1 vs ds ∧ ds.length < 64 ∧ Q (.int ((undup ds).length : Nat)) H1
theorem pe_lenSetT {X : Cx} {K : PySem.W.Frag} {α : Type} [Enc α] [IK α] [DecidableEq α] {a : Expr} {ta : TE} {p p2 q pos : Pos} (hc : X.calm = true) (hu : X.A.units + 64 < cLine) (hg : Gl X "len") (hm : X.mg "len" = none) (hg2 : Gl X "set") (hm2 : X.mg "set" = none) (ha : PE X a ta) (hK : X.K = K := by rfl)
    (na : starEach [a] X.env = (false, eval a X.env) :: starEach [] X.env := by rfl) : PE X (.Call (.Name "len" p) [.Call (.Name "set" p2) [a] [] q] [] pos) (tLenSetT (α := α) K ta) := by
  subst hK
  refine ⟨fun pins s σ H Q I h => ?_⟩
  refine Call_ (ld_blt I hg hm PySem.boot_len ?_)
  refine PyProof.Rows.callWith_builtin1 (PyProof.Rows.args_cons ?_ rfl) rfl rfl
  refine Call_ (ld_blt I hg2 hm2 PyProof.Rows.boot_set ?_)
  refine PyProof.Rows.callWith_type1 (PyProof.Rows.args_cons (thn (ha.run pins s σ H _ I h) fun v s1 ⟨x, H1, I1, r1, q1⟩ => PyProof.Rows.args_nil ?_) na) na rfl
  obtain ⟨l, vs, ds, rfl, hq, hA, h1, q1⟩ := q1
  cases r1
  obtain ⟨ks, rfl, e2, e3⟩ := ik_rows ds hA
  obtain ⟨its, rv, pl, hz⟩ := I1.list hq
  have hlen : ks.length = ds.length := by have := congrArg List.length e2; rwa [List.length_map, List.length_map, eq_comm] at this
  refine call_set_tups (P := X.prog) (w := X.w) ks (I1.ok.hd hc) pl.isList (by simpa using refs_of_vals rv) (fun p hp => I1.isT (e3 p hp)) (by omega) (by omega) fun h' tk L es ep t R g k => ?_
  have hL : L.length = (undup ds).length := by
    have k1 := R.nd
    have k2 : ((undup ds).map IK.ks).Nodup := by
      refine List.pairwise_map.mpr ((nodup_undup ds).imp fun {x y} hne e => hne (IK.inj x y e))
    have := len_same k1 k2 fun z => by
      constructor
      · intro hz
        obtain ⟨p, hp, rfl⟩ := List.mem_map.mp hz
        have hp2 := List.mem_of_mem_take (g.sub p hp)
        have : p.2 ∈ ds.map IK.ks := by rw [e2]; exact List.mem_map.mpr ⟨p, hp2, rfl⟩
        obtain ⟨x, hx, e⟩ := List.mem_map.mp this
        exact List.mem_map.mpr ⟨x, mem_undup.mpr hx, e⟩
      · intro hz
        obtain ⟨x, hx, rfl⟩ := List.mem_map.mp hz
        have : IK.ks x ∈ ks.map (·.2) := by rw [← e2]; exact List.mem_map.mpr ⟨x, mem_undup.mp hx, rfl⟩
        obtain ⟨p, hp, e⟩ := List.mem_map.mp this
        rw [← e]
        exact g.all p (by rw [List.take_length]; exact hp)
    rwa [List.length_map, List.length_map] at this
  refine PyProof.Rows.args_nil ?_
  obtain ⟨o, ho, hex, hd⟩ := R.ob
  have I2 : Inv X pins σ H1 { s1 with heap := h', toks := tk } := I1.kept fun b o e => k b o e
  have hsz : es.size = L.length := SetTR.size (s := { s1 with heap := h', toks := tk }) R
  have hfit : t.fits es.size = true := SetTR.fits (s := { s1 with heap := h', toks := tk }) R
  have hfew := R.few
  refine call_len_set (s := { s1 with heap := h', toks := tk }) ho hex hd hfit (by rw [hsz]; omega) ⟨.int ((undup ds).length : Nat), H1, I2.tok _, ⟨_, by rw [hsz, hL]⟩, q1⟩
end G
/-! My base, part 23: dicts of one's own. -/
namespace G
open PySem PySem.Spec PyProof.Rows L2 TL

/-- a thing of one's own at p, whatever it is, but no tuple -/
structure Od (H0 F H : Hp) (p : Addr) (ob : HO) : Prop where
  h : H p = some ob
  nF : F p = none
  n0 : H0 p = none
  nt : ∀ ts, ob ≠ .tup ts
section
variable {M : Addr → Prop} {F0 H0 F H F' H' : Hp} {p q B C : Addr} {ob o u : HO} {K : PySem.W.Frag} {xs ws us : List V} {b : Bag} {b2 : Bag2}
theorem Od.new (g : Gr M F0 H0 F H) (hp : H p = none) (nt : ∀ ts, o ≠ .tup ts) : Od H0 F (upd H p o) p o := ⟨upd_same, g.noneF hp, g.none0 hp, nt⟩
theorem Od.frz (w : Od H0 F H p ob) (hq : H q = none) : Od H0 (upd F q o) (upd H q o) p ob :=
  have ne := ne_of_none w.h hq
  ⟨(upd_ne ne).trans w.h, (upd_ne ne).trans w.nF, w.n0, w.nt⟩
theorem Od.own (w : Od H0 F H p ob) (hq : H q = none) : Od H0 F (upd H q o) p ob :=
  have ne := ne_of_none w.h hq
  ⟨(upd_ne ne).trans w.h, w.nF, w.n0, w.nt⟩
theorem Od.put (w : Od H0 F H p ob) (nt : ∀ ts, o ≠ .tup ts) : Od H0 F (upd H p o) p o := ⟨upd_same, w.nF, w.n0, nt⟩
theorem Od.other (w : Od H0 F H p ob) (ne : p ≠ q) : Od H0 F (upd H q o) p ob := ⟨(upd_ne ne).trans w.h, w.nF, w.n0, w.nt⟩
theorem Od.ne (w : Od H0 F H p ob) (hq : H q = none) : p ≠ q := ne_of_none w.h hq
theorem Od.gr (w : Od H0 F H p ob) (g : Gr M F H F' H') (m : ¬ M p) : Od H0 F' H' p ob :=
  ⟨g.keep _ _ m w.h, g.newL (by rw [w.h]; simp) w.nF (fun ts z => by rw [g.keep _ _ m w.h] at z; exact w.nt ts (Option.some.inj z)), w.n0, w.nt⟩
theorem Od.gr0 (w : Od H0 F H p ob) (g : Gr M0 F H F' H') : Od H0 F' H' p ob := w.gr g id
theorem Od.fz (w : Od H0 F H p ob) (ne : p ≠ q) : Od H0 (upd F q o) H p ob := ⟨w.h, (upd_ne ne).trans w.nF, w.n0, w.nt⟩
theorem Od.apart (w : Od H0 F H p ob) (k : Gr M0 H H F' H') : Od H0 F H' p ob := ⟨k.keep _ _ id w.h, w.nF, w.n0, w.nt⟩
theorem Od.adopt {ts : List V} (w : Od H0 F H p ob) (h : H q = some (.tup ts)) : Od H0 (upd F q (.tup ts)) H p ob :=
  have ne : p ≠ q := fun z => by subst z; rw [w.h] at h; exact w.nt ts (Option.some.inj h)
  ⟨w.h, (upd_ne ne).trans w.nF, w.n0, w.nt⟩
theorem Ow.adopt {ts : List V} (w : Ow H0 F H p ws) (h : H q = some (.tup ts)) : Ow H0 (upd F q (.tup ts)) H p ws :=
  have ne : p ≠ q := fun z => by subst z; rw [w.h] at h; cases h
  ⟨w.h, (upd_ne ne).trans w.nF, w.n0⟩
theorem BagAt.adopt {ts : List V} (a : BagAt F H B C b) (h : H q = some (.tup ts)) : BagAt (upd F q (.tup ts)) H B C b :=
  have n1 : B ≠ q := fun z => by subst z; rw [a.hB] at h; cases h
  have n2 : C ≠ q := fun z => by subst z; rw [a.hC] at h; cases h
  ⟨a.hB, a.hC, a.ne, (upd_ne n1).trans a.fB, (upd_ne n2).trans a.fC⟩
theorem BagAt2.adopt {ts : List V} (a : BagAt2 F H B C b2) (h : H q = some (.tup ts)) : BagAt2 (upd F q (.tup ts)) H B C b2 :=
  have n1 : B ≠ q := fun z => by subst z; rw [a.hB] at h; cases h
  have n2 : C ≠ q := fun z => by subst z; rw [a.hC] at h; cases h
  ⟨a.hB, a.hC, a.ne, (upd_ne n1).trans a.fB, (upd_ne n2).trans a.fC⟩
end

/-! ### tables of pairs -/
section
variable {α β γ : Type} [DecidableEq α]
def dval (xs : List (α × β)) (x : α) : Option β := (xs.find? fun p => decide (p.1 = x)).map (·.2)
def dput (xs : List (α × β)) (x : α) (y : β) : List (α × β) := if (dval xs x).isSome then xs.map (fun p => if p.1 = x then (p.1, y) else p) else xs ++ [(x, y)]
def dputO (xs : List (α × β)) (x : α) (y : β) : Option (List (α × β)) := if xs.length < sizeLine then some (dput xs x y) else none
theorem dputO_ok {xs r : List (α × β)} {x : α} {y : β} (h : dputO xs x y = some r) : xs.length < sizeLine ∧ dput xs x y = r := by
  unfold dputO at h
  split at h
  · next h1 => exact ⟨h1, Option.some.inj h⟩
  · cases h
theorem dval_nil (x : α) : dval ([] : List (α × β)) x = none := rfl
theorem dval_pos {p : α × β} {r : List (α × β)} {x : α} (e : p.1 = x) : dval (p :: r) x = some p.2 := by simp [dval, List.find?_cons, e]
theorem dval_neg {p : α × β} {r : List (α × β)} {x : α} (e : ¬ p.1 = x) : dval (p :: r) x = dval r x := by simp [dval, List.find?_cons, e]
theorem dput_len (xs : List (α × β)) (x : α) (y : β) : (dput xs x y).length ≤ xs.length + 1 := by
  unfold dput
  split
  · rw [List.length_map]; exact Nat.le_succ _
  · rw [List.length_append]; exact Nat.le_refl _
end

/-- things that are keys: ints, texts, tuples of these -/
class DK (α : Type) [Enc α] where
  Kt : Type
  dec : DecidableEq Kt
  ho : List (Kt × V) → HO
  k : α → Kt
  inj : ∀ {x y : α}, k x = k y → x = y
  ok : α → Prop
  okR : ∀ {K : PySem.W.Frag} {F : Hp} {v : V} {x : α}, R K F v x → ok x
  nt : ∀ kvs ts, ho kvs ≠ .tup ts
  mu : ∀ kvs, Mut (some (ho kvs))
  isD : ∀ {H : Hp} {p : Addr} {kvs : List (Kt × V)}, Rd H p (ho kvs) → IsD H p
  get : ∀ {K : PySem.W.Frag} {F H : Hp} {p : Addr} {y : V} {x : α} {kvs : List (Kt × V)}, Rd H p (ho kvs) → R K F y x → Same F H → DGet H p y (@valV Kt dec kvs (k x))
  put : ∀ {K : PySem.W.Frag} {F H : Hp} {p : Addr} {y v : V} {x : α} {kvs : List (Kt × V)}, H p = some (ho kvs) → R K F y x → Same F H → kvs.length < sizeLine → DPut H p y v (upd H p (ho (@putK Kt dec kvs (k x) v)))
instance {α : Type} [Enc α] [DK α] : DecidableEq (DK.Kt α) := DK.dec
instance : DK Int where
  Kt := Key
  dec := inferInstance
  ho := .dK
  k := Sum.inl
  inj := fun h => Sum.inl.inj h
  ok := fun _ => True
  okR := fun _ => trivial
  nt := fun _ _ z => nomatch z
  mu := fun _ => trivial
  isD := fun h => .inl ⟨_, h⟩
  get := fun h r s => by
    obtain rfl := R.int_v r
    exact .inl ⟨_, _, h, rfl, rfl⟩
  put := fun h r s hl => by
    obtain rfl := R.int_v r
    exact .inl ⟨_, _, h, rfl, hl, rfl⟩
instance : DK Str where
  Kt := Key
  dec := inferInstance
  ho := .dK
  k := Sum.inr
  inj := fun h => Sum.inr.inj h
  ok := GS
  okR := fun r => (R.str_v r).2
  nt := fun _ _ z => nomatch z
  mu := fun _ => trivial
  isD := fun h => .inl ⟨_, h⟩
  get := fun h r s => by
    obtain ⟨rfl, _⟩ := R.str_v r
    exact .inl ⟨_, _, h, rfl, rfl⟩
  put := fun h r s hl => by
    obtain ⟨rfl, _⟩ := R.str_v r
    exact .inl ⟨_, _, h, rfl, hl, rfl⟩
/-- a tuple of ints as a key -/
abbrev ikeys (ns : List Int) : List Key := ns.map Sum.inl
theorem ikeys_kV (ns : List Int) : (ikeys ns).map kV = ns.map V.int := by rw [ikeys, List.map_map]; rfl
theorem ik_tup {α : Type} [Enc α] [IK α] {K : PySem.W.Frag} {F : Hp} {v : V} {x : α} (r : R K F v x) : ∃ b, v = .ref b ∧ F b = some (.tup ((ikeys (IK.ks x)).map kV)) := by
  have r' : Rp K F v (.tuple ((IK.ks x).map .int)) := by rw [← IK.enc x]; exact r
  cases r' with
  | tup hs hl ha =>
    obtain rfl := rp_ints ha
    exact ⟨_, rfl, by rw [ikeys_kV]; exact hs⟩
theorem ikeys_inj : ∀ {a b : List Int}, ikeys a = ikeys b → a = b
  | [], [], _ => rfl
  | [], _ :: _, h => by cases h
  | _ :: _, [], h => by cases h
  | x :: a, y :: b, h => by
    have h' : Sum.inl x :: ikeys a = Sum.inl y :: ikeys b := h
    obtain ⟨h1, h2⟩ := List.cons.inj h'
    rw [Sum.inl.inj h1, ikeys_inj h2]
instance {α : Type} [Enc α] [IK α] : DK α where
  Kt := List Key
  dec := inferInstance
  ho := .dT
  k := fun x => ikeys (IK.ks x)
  inj := fun h => IK.inj _ _ (ikeys_inj h)
  ok := fun _ => True
  okR := fun _ => trivial
  nt := fun _ _ z => nomatch z
  mu := fun _ => trivial
  isD := fun h => .inr ⟨_, h⟩
  get := fun h r s => by
    obtain ⟨b, rfl, hb⟩ := ik_tup r
    exact .inr ⟨_, _, b, h, rfl, s _ _ hb, rfl⟩
  put := fun h r s hl => by
    obtain ⟨b, rfl, hb⟩ := ik_tup r
    exact .inr ⟨_, _, b, h, rfl, s _ _ hb, hl, rfl⟩

/-- the entries kvs stand for the pairs xs -/
def RD {α β : Type} [Enc α] [DK α] [Enc β] (K : PySem.W.Frag) (F : Hp) (kvs : List (DK.Kt α × V)) (xs : List (α × β)) : Prop :=
  kvs.map (·.1) = xs.map (fun p => DK.k p.1) ∧ RL K F (kvs.map (·.2)) (xs.map (·.2)) ∧ ∀ p ∈ xs, DK.ok p.1
section
variable {α β : Type} [Enc α] [DK α] [Enc β] {K : PySem.W.Frag} {F F' : Hp} {kvs : List (DK.Kt α × V)} {xs : List (α × β)}
theorem RD.nil : RD K F ([] : List (DK.Kt α × V)) ([] : List (α × β)) := ⟨rfl, RpA.nil, fun _ h => nomatch h⟩
theorem RD.up (h : RD K F kvs xs) (e : Same F F') : RD K F' kvs xs := ⟨h.1, RpA.up h.2.1 e, h.2.2⟩
theorem RD.len (h : RD K F kvs xs) : kvs.length = xs.length := by
  have := congrArg List.length h.1
  rwa [List.length_map, List.length_map] at this
theorem RD.cons_iff {q : DK.Kt α × V} {p : α × β} : RD K F (q :: kvs) (p :: xs) ↔ (q.1 = DK.k p.1 ∧ R K F q.2 p.2 ∧ DK.ok p.1) ∧ RD K F kvs xs := by
  constructor
  · rintro ⟨h1, h2, ho⟩
    obtain ⟨h3, h4⟩ := List.cons.inj h1
    cases h2 with
    | cons r rs => exact ⟨⟨h3, r, ho _ (List.mem_cons_self ..)⟩, h4, rs, fun p hp => ho p (List.mem_cons_of_mem _ hp)⟩
  · rintro ⟨⟨h3, r, o⟩, h4, rs, ho⟩
    refine ⟨by rw [List.map_cons, List.map_cons, h3, h4], RpA.cons r rs, fun p hp => ?_⟩
    rcases List.mem_cons.mp hp with rfl | hp
    · exact o
    · exact ho p hp
theorem RD.nil_l (h : RD K F kvs ([] : List (α × β))) : kvs = [] := List.eq_nil_of_length_eq_zero h.len
theorem RD.cons_l {p : α × β} (h : RD K F kvs (p :: xs)) : ∃ q qs, kvs = q :: qs := by
  cases kvs with
  | nil => exact absurd h.len (by simp)
  | cons q qs => exact ⟨q, qs, rfl⟩
variable [DecidableEq α]
theorem RD.val : ∀ {xs : List (α × β)} {kvs : List (DK.Kt α × V)}, RD K F kvs xs → ∀ x : α, (dval xs x = none ∧ valV kvs (DK.k x) = none) ∨ ∃ y v, dval xs x = some y ∧ valV kvs (DK.k x) = some v ∧ R K F v y
  | [], kvs, h, x => by
    obtain rfl := h.nil_l
    exact .inl ⟨rfl, rfl⟩
  | p :: xs, kvs, h, x => by
    obtain ⟨q, qs, rfl⟩ := h.cons_l
    obtain ⟨⟨h1, h2, ho⟩, h3⟩ := RD.cons_iff.mp h
    by_cases e : p.1 = x
    · exact .inr ⟨p.2, q.2, dval_pos e, valV_pos (by rw [h1, e]), h2⟩
    · have e2 : ¬ q.1 = DK.k x := fun z => e (DK.inj (h1.symm.trans z))
      rw [dval_neg e, valV_neg e2]
      exact RD.val h3 x
theorem RD.get (h : RD K F kvs xs) {x : α} {y : β} (e : dval xs x = some y) : ∃ v, valV kvs (DK.k x) = some v ∧ R K F v y := by
  rcases h.val x with ⟨z, _⟩ | ⟨y', v, z, e2, r⟩
  · rw [z] at e; cases e
  · rw [z] at e; cases e; exact ⟨v, e2, r⟩
theorem RD.is (h : RD K F kvs xs) (x : α) : (valV kvs (DK.k x)).isSome = (dval xs x).isSome := by
  rcases h.val x with ⟨z, z2⟩ | ⟨y', v, z, e2, r⟩
  · rw [z, z2]; rfl
  · rw [z, e2]; rfl
theorem RD.getD (h : RD K F kvs xs) (x : α) {z : V} {d : β} (r : R K F z d) : R K F ((valV kvs (DK.k x)).getD z) ((dval xs x).getD d) := by
  rcases h.val x with ⟨e, e2⟩ | ⟨y', v, e, e2, r2⟩
  · rw [e, e2]; exact r
  · rw [e, e2]; exact r2
theorem RD.getO (h : RD K F kvs xs) (x : α) : R K F ((valV kvs (DK.k x)).getD .non) (dval xs x) := by
  rcases h.val x with ⟨e, e2⟩ | ⟨y', v, e, e2, r2⟩
  · rw [e, e2]; exact Rp.non
  · rw [e, e2]; exact r2
theorem RD.app {us : List (DK.Kt α × V)} {ys : List (α × β)} (h : RD K F kvs xs) (h2 : RD K F us ys) : RD K F (kvs ++ us) (xs ++ ys) :=
  ⟨by rw [List.map_append, List.map_append, h.1, h2.1], by rw [List.map_append, List.map_append]; exact RL.app h.2.1 h2.2.1, fun p hp => (List.mem_append.mp hp).elim (h.2.2 p) (h2.2.2 p)⟩
theorem RD.repl (x : α) {y : β} {v : V} (r : R K F v y) : ∀ {xs : List (α × β)} {kvs : List (DK.Kt α × V)}, RD K F kvs xs → RD K F (kvs.map fun kv => if kv.1 = DK.k x then (kv.1, v) else kv) (xs.map fun p => if p.1 = x then (p.1, y) else p)
  | [], kvs, h => by
    obtain rfl := h.nil_l
    exact RD.nil
  | p :: xs, kvs, h => by
    obtain ⟨q, qs, rfl⟩ := h.cons_l
    obtain ⟨⟨h1, h2, ho⟩, h3⟩ := RD.cons_iff.mp h
    rw [List.map_cons, List.map_cons]
    refine RD.cons_iff.mpr ⟨?_, RD.repl x r h3⟩
    by_cases e : p.1 = x
    · rw [if_pos e, if_pos (by rw [h1, e])]; exact ⟨h1, r, ho⟩
    · rw [if_neg e, if_neg (fun z => e (DK.inj (h1.symm.trans z)))]; exact ⟨h1, h2, ho⟩
theorem RD.put (h : RD K F kvs xs) (x : α) (hx : DK.ok x) {y : β} {v : V} (r : R K F v y) : RD K F (putK kvs (DK.k x) v) (dput xs x y) := by
  have e : (kvs.any fun kv => decide (kv.1 = DK.k x)) = (dval xs x).isSome := by rw [valV_any]; exact h.is x
  unfold putK dput
  rw [e]
  by_cases q : (dval xs x).isSome = true
  · rw [if_pos q, if_pos q]; exact RD.repl x r h
  · rw [if_neg q, if_neg q]
    exact h.app (RD.cons_iff.mpr ⟨⟨rfl, r, hx⟩, RD.nil⟩)
omit [DecidableEq α] in
theorem RD.at : ∀ {xs : List (α × β)} {kvs : List (DK.Kt α × V)} {i : Nat} {q : DK.Kt α × V}, RD K F kvs xs → kvs[i]? = some q → ∃ p, xs[i]? = some p ∧ q.1 = DK.k p.1 ∧ R K F q.2 p.2 ∧ DK.ok p.1
  | [], kvs, i, q, h, e => by
    obtain rfl := h.nil_l
    simp at e
  | p :: xs, kvs, i, q, h, e => by
    obtain ⟨q', qs, rfl⟩ := h.cons_l
    obtain ⟨⟨h1, h2, ho⟩, h3⟩ := RD.cons_iff.mp h
    cases i with
    | zero =>
      rw [List.getElem?_cons_zero] at e
      cases e
      exact ⟨p, rfl, h1, h2, ho⟩
    | succ j =>
      rw [List.getElem?_cons_succ] at e
      rw [List.getElem?_cons_succ]
      exact RD.at h3 e
end

/-! ### rules -/
section
variable {X : Cx}
def rInDic : R2 := fun x y H Q => ∃ a o b, y = .ref a ∧ DGet H a x o ∧ o.isSome = b ∧ Q (.bl b) H
def rNotInDic : R2 := fun x y H Q => ∃ a o b, y = .ref a ∧ DGet H a x o ∧ o.isSome = b ∧ Q (.bl (!b)) H
theorem op_inDic (hu : X.A.units + 1 < cLine) : OpR X (compareOp .In) rInDic := by
  intro pins s σ H x y v u Q I rx ry ⟨a, o, b, e, g, e2, q⟩
  subst e e2
  obtain rfl : u = Value.ref a := ry
  exact d_in hu I g rx fun s1 I1 => ⟨.bl o.isSome, H, I1, rfl, q⟩
theorem op_notInDic (hu : X.A.units + 1 < cLine) : OpR X (compareOp .NotIn) rNotInDic := by
  intro pins s σ H x y v u Q I rx ry ⟨a, o, b, e, g, e2, q⟩
  subst e e2
  obtain rfl : u = Value.ref a := ry
  exact d_notIn hu I g rx fun s1 I1 => ⟨.bl (!o.isSome), H, I1, rfl, q⟩
/-- d.get(k), d.get(k, z): what comes is named -/
def tGet1 (td ty : TE) : TE := fun σ H Q => td σ H fun x H1 => ∃ a, x = .ref a ∧ IsD H1 a ∧ ty σ H1 fun y H2 => ∃ o r, DGet H2 a y o ∧ o.getD .non = r ∧ Q r H2
def tGet2 (td ty tx : TE) : TE := fun σ H Q => td σ H fun x H1 => ∃ a, x = .ref a ∧ IsD H1 a ∧ ty σ H1 fun y H2 => tx σ H2 fun z H3 => ∃ o r, DGet H3 a y o ∧ o.getD z = r ∧ Q r H3
theorem pe_get1 {o e : Expr} {apos cpos : Pos} {td ty : TE} (hu : X.A.units + 1 < cLine) (ho : PE X o td) (he : PE X e ty) (m : M1 X o "get" apos e cpos) : PE X (.Call (.Attribute o "get" apos) [e] [] cpos) (tGet1 td ty) := by
  refine ⟨fun pins s σ H Q I h => ?_⟩
  refine wpAny_Call_method m.base m.few m.line PySem.F.plainAttrs_dict PySem.F.slot_dict_get PySem.F.type_dict_get (thn (ho.run pins s σ H _ I h) fun u s1 ⟨x, H1, I1, rx, a, ex, d, q1⟩ => ?_)
  subst ex
  obtain rfl : u = Value.ref a := rx
  obtain ⟨t1, t2, _⟩ := isD_at I1 d
  refine ⟨t1, t2, ?_⟩
  rw [m.trees]
  refine Calls.callWith_builtin rfl (Calls.evalArgs_plain (Calls.spliced_cons (thn (he.run pins s1 σ H1 _ I1 q1) fun iv s2 ⟨y, H2, I2, ry, ov, r, g, e, q2⟩ => Calls.spliced_nil ?_)))
  subst e
  exact d_get1 hu I2 g ry fun w' s3 I3 rw' => ⟨_, H2, I3, rw', q2⟩
theorem pe_get2 {o e f : Expr} {apos cpos : Pos} {td ty tx : TE} (hu : X.A.units + 1 < cLine) (ho : PE X o td) (he : PE X e ty) (hf : PE X f tx) (m : M2 X o "get" apos e f cpos) : PE X (.Call (.Attribute o "get" apos) [e, f] [] cpos) (tGet2 td ty tx) := by
  refine ⟨fun pins s σ H Q I h => ?_⟩
  refine wpAny_Call_method m.base m.few m.line PySem.F.plainAttrs_dict PySem.F.slot_dict_get PySem.F.type_dict_get (thn (ho.run pins s σ H _ I h) fun u s1 ⟨x, H1, I1, rx, a, ex, d, q1⟩ => ?_)
  subst ex
  obtain rfl : u = Value.ref a := rx
  obtain ⟨t1, t2, _⟩ := isD_at I1 d
  refine ⟨t1, t2, ?_⟩
  rw [m.trees]
  refine Calls.callWith_builtin rfl (Calls.evalArgs_plain (Calls.spliced_cons (thn (he.run pins s1 σ H1 _ I1 q1) fun iv s2 ⟨y, H2, I2, ry, q2⟩ =>
    Calls.spliced_cons (thn (hf.run pins s2 σ H2 _ I2 q2) fun fv s3 ⟨z, H3, I3, rz, ov, r, g, e, q3⟩ => Calls.spliced_nil ?_))))
  subst e
  exact d_get2 hu I3 g ry rz fun w' s4 I4 rw' => ⟨_, H3, I4, rw', q3⟩
/-- {k: v}, k a tuple of ints and texts -/
def tDispT (tk tv : TE) : TE := fun σ H Q => ∀ p, H p = none → tk σ (upd H p (.dT [])) fun y H1 => tv σ H1 fun v H2 =>
  H2 p = some (.dT []) ∧ ∃ (b : Addr) (k : List Key), y = .ref b ∧ H2 b = some (.tup (k.map kV)) ∧ Q (.ref p) (upd H2 p (.dT [(k, v)]))
theorem pe_dispT {pos : Pos} {k v : Expr} {tk tv : TE} (hu : X.A.units < cLine) (hk : PE X k tk) (hv : PE X v tv) : PE X (.Dict [some k] [v] pos) (tDispT tk tv) := by
  refine ⟨fun pins s σ H Q I q => ?_⟩
  have hn := I.hok.fresh (Nat.le_refl s.heap.objs.size)
  have I1 := I.laid (a := s.heap.objs.size) (o := .dT []) (h' := s.heap.push { cls := .type "dict", data := .dict #[] }) (t' := s.toks) (fun _ _ q => Heap.get?_push_of_some _ q) (Nat.le_refl _) (dt_empty s.heap I.big)
  have sh := zip_pairTrees [some k] [v] X.env pos rfl rfl
  rw [arm_eval_Dict, sh, dictDisplay_pairs (pairTrees [some k] [v] X.env pos) (fun z => nomatch z) (by show 1 < 17; decide)]
  refine wpAny_bind (wpAny_standAt (wpAny_bind (wpAny_subDictH (knd := tupleKind (mixKind X.prog X.w)) hu (by show 1 ≤ 15; decide) ?_)))
  refine pairTrees_cons_walk (thn (hk.run pins _ σ _ _ I1 (q _ hn)) fun u s1 ⟨y, H1, I2, ry, q1⟩ => thn (hv.run pins s1 σ H1 _ I2 q1) fun w2 s2 ⟨y2, H2, I3, ry2, q2⟩ => pairTrees_nil_walk ?_)
  obtain ⟨e, b, ks, e1, hb, q3⟩ := q2
  subst e1
  obtain rfl : u = Value.ref b := ry
  obtain ⟨z, hd, xs, rel, dd⟩ := dt_of I3.hok e
  cases rel
  refine ⟨[(ks, b, w2)], ⟨rfl, rfl, key_of I3.hok hb, trivial⟩, dd, fun h' tk' dd' hs => wpAny_pure ?_⟩
  refine ⟨.ref s.heap.objs.size, _, ?_, rfl, q3⟩
  have he : ∃ q, h'.get? s.heap.objs.size = some q := let ⟨q, _, _, hq, _⟩ := dd'; ⟨q, hq⟩
  have neb : b ≠ s.heap.objs.size := ne_of hb e (fun z => nomatch z)
  refine d_write I3 (by rw [e]; exact True.intro) hs he ?_
  obtain ⟨o, es, ep, h1, h2, h3, h4, h5, h6⟩ := dd'
  refine ⟨by show 1 ≤ sizeLine; decide, hd, [(ks, b, w2)], .cons ⟨rfl, ?_, ry2⟩ .nil, o, es, ep, h1, h2, h3, h4, h6⟩
  show upd H2 _ _ b = _
  rw [upd_ne neb]
  exact hb
end

/-! ### walking -/
/-- the pairs of a locked dict with tuple keys, each a new tuple -/
def ItiT (d : Addr) (o : Obj) (kvs : List (List Key × V)) : It :=
  ⟨fun i H => H d = some (.frz o (.dT kvs)) ∧ i < kvs.length, fun i H x H' => ∃ T k v q, kvs[i]? = some (k, v) ∧ x = .ref T ∧ H T = none ∧ H q = some (.tup (k.map kV)) ∧ H' = upd H T (.tup [.ref q, v]), fun i H => H d = some (.frz o (.dT kvs)) ∧ kvs.length ≤ i⟩

section
variable {X : Cx} {pins : List (Addr × Obj)} {σ : L2.St} {H : Hp} {s : Shared} {d : Addr} {o : Obj}
theorem frzT2 {kvs : List (List Key × V)} (I : Inv X pins σ H s) (h : H d = some (.frz o (.dT kvs))) :
    (d == sysModules) = false ∧ s.heap.get? d = some o ∧ o.ExactDict ∧ ∃ (es : Array DictEntry) (ep : Nat), o.data = .dict es ep ∧ es.size = kvs.length ∧
      ∀ (i : Nat) (k : List Key) (v : V), kvs[i]? = some (k, v) → ∃ (en : DictEntry) (q : Addr), es[i]? = some en ∧ en.key = .ref q ∧ H q = some (.tup (k.map kV)) ∧ RelV v en.val := by
  obtain ⟨hd, z, hs, xs, pr, o', es, ep, ho, hx, hdt, he, _⟩ := I.hok d _ h
  rw [hd] at ho
  cases ho
  refine ⟨hs, hd, hx, es, ep, hdt, ?_, fun i k v e => ?_⟩
  · have l1 : es.size = xs.length := size_of_entries he
    have l2 : kvs.length = xs.length := Paired.length pr
    omega
  · obtain ⟨b, hb, e1, e2, e3⟩ := paired_get pr e
    have q := entry_at he i
    rw [hb] at q
    exact ⟨_, b.2.1, q, rfl, e2, e3⟩
end
section
variable {P : Program} {w : World} {K : PySem.W.Frag} {d : Addr} {o : Obj} {es : Array DictEntry} {ep : Nat}
theorem turn_itemsT {kvs : List (List Key × V)} {elts : List Expr} {kk : Nat} {tpos : Pos} (it : Addr) (hod : o.data = .dict es ep) :
    Turn P w K (.Tuple elts kk tpos) (ItiT d o kvs) [it] it (fun i h => ∃ ok ov, IsItemIter h it d i kvs.length ep ok ov) where
  mem := by simp
  obj := fun i h st b hb => by
    have e : b = it := by simpa using hb
    subst e
    obtain ⟨ok, ov, e⟩ := st
    exact ⟨_, e, fun v z => nomatch z⟩
  keep := fun i h h' st k => let ⟨ok, ov, e⟩ := st; ⟨ok, ov, k it (by simp) _ e⟩
  item := by
    intro X hP hw hK hc i pins s σ H E I hf st hg
    subst hP hw hK
    obtain ⟨hd, hi⟩ := hg
    obtain ⟨hs, hgd, hx, es', ep', hdt, hsz, ent⟩ := frzT2 I hd
    obtain ⟨rfl, rfl⟩ := dict_ep hod hdt
    obtain ⟨⟨k, v⟩, hkv⟩ : ∃ p, kvs[i]? = some p := ⟨kvs[i], List.getElem?_eq_getElem hi⟩
    obtain ⟨en, q, hen, hkey, hq, ru⟩ := ent i k v hkv
    obtain ⟨ok, ov, he⟩ := st
    rw [← hsz] at he
    have hlt : it < s.heap.objs.size := Heap.lt_size he
    have hi2 : i < es'.size := by omega
    have hen2 : es'[i] = en := by rw [Array.getElem?_eq_getElem hi2] at hen; exact Option.some.inj hen
    refine DT.nextI he ⟨o, hgd, hx, hdt⟩ hi2 fun h' ho hT hz hk => ?_
    rw [hen2] at ho hT
    refine ⟨_, rfl, wpAny_letOwnedTupleGo_items (s := { s with heap := h' }) ho fun h'' he' sb => ?_⟩
    have hT2 : h''.get? s.heap.objs.size = some { cls := .type "tuple", data := .seq #[en.key, en.val] } := (sb.2 _ (Nat.ne_of_gt hlt)).trans hT
    have new : ObjOk X.prog X.w (upd H s.heap.objs.size (.tup [.ref q, v])) h'' s.heap.objs.size (.tup [.ref q, v]) :=
      ⟨by show 2 ≤ sizeLine; decide, [en.key, en.val], .cons hkey (.cons ru .nil), ⟨_, hT2, rfl, _, rfl⟩⟩
    have I1 : Inv X pins σ (upd H s.heap.objs.size (.tup [.ref q, v])) { s with heap := h'' } :=
      I.turnedNew (t' := s.toks) (ch := [it]) (fun b ob hb e => (sb.2 b (by simpa using hb)).trans (hk b ob (by simpa using hb) e)) hf (Nat.le_refl _) new
    refine ⟨.ref s.heap.objs.size, _, I1, rfl, ⟨_, k, v, q, hkv, rfl, I.hok.fresh (Nat.le_refl _), hq, rfl⟩, ⟨en.key, en.val, ?_⟩, fun b hb => ?_⟩
    · rw [← hsz]; exact he'
    · have e : b = it := by simpa using hb
      rw [e, upd_ne (Nat.ne_of_lt hlt)]
      exact (hf it (by simp)).1
  done := by
    intro X hP hw hK hc i pins s σ H E I hf st hg
    subst hP hw hK
    obtain ⟨hd, hi⟩ := hg
    obtain ⟨f0, f1, f2, f3, f4, f5⟩ := hf it (by simp)
    obtain ⟨hs, hgd, hx, es', ep', hdt, hsz, ent⟩ := frzT2 I hd
    obtain ⟨rfl, rfl⟩ := dict_ep hod hdt
    obtain ⟨ok, ov, he⟩ := st
    rw [← hsz] at he
    exact DT.endI (I.ok.hd hc) he ⟨o, hgd, hx, hdt⟩ (by omega) fun h' eb => ⟨rfl, I.turned (t' := s.toks) (fun b ob hb e => eb b ob hb e) f0 f1 f3 f4 f5⟩
  self := fun A i s Q E st h => let ⟨_, _, e⟩ := st; PySem.W.kcp_self e h
end
def iItemsT (td : TE) : TI := fun σ H R => td σ H fun x H1 => ∃ d o kvs, x = .ref d ∧ H1 d = some (.frz o (.dT kvs)) ∧ R (ItiT d o kvs) H1
theorem pi_itemsT {X : Cx} {e : Expr} {td : TE} {apos cpos : Pos} {elts : List Expr} {kk : Nat} {tpos : Pos} (he : PE X e td) (hbase : attributeBase e "items" X.env (eval e X.env) = eval e X.env := by rfl) (hline : (apos.endLine == cpos.line) = true := by rfl) :
    PI X (.Tuple elts kk tpos) (.Call (.Attribute e "items" apos) [] [] cpos) (iItemsT td) := by
  refine ⟨fun pins s σ H R I h => ?_⟩
  refine wpAny_Call_method (T := "dict") (id := "dict.items") hbase rfl hline F.plainAttrs_dict F.slot_dict_items F.type_dict_items (thn (he.run pins s σ H _ I h) fun u s1 ⟨x, H1, I1, rx, d, o, kvs, ex, hd, q⟩ => ?_)
  subst ex
  obtain rfl : u = Value.ref d := rx
  obtain ⟨hs, hgd, hx, es, ep, hdt, hsz, ent⟩ := frzT2 I1 hd
  have hm : DT.Raw s1.heap d es ep := ⟨o, hgd, hx, hdt⟩
  refine ⟨hm.typeIs, fun b q => by cases q; exact ⟨o, hgd, hx.2.1⟩, ?_⟩
  have I2 : Inv X pins σ H1 { s1 with heap := s1.heap.push { cls := .type "dict_items", data := .fields #[.ref d] } } := I1.kept (t' := s1.toks) fun b ob q => Heap.get?_push_of_some _ q
  have fin : wpAny (model X.prog X.w) X.A (pyIter (.ref s1.heap.objs.size)) (PIE X pins σ (.Tuple elts kk tpos) R) X.xe { s1 with heap := s1.heap.push { cls := .type "dict_items", data := .fields #[.ref d] } } := by
    refine DT.iterI (d := d) ⟨_, Heap.get?_push_size _ rfl, rfl, rfl⟩ (hm.push _) (pi_one (tk := s1.toks) I2 _ (turn_itemsT _ hdt) ⟨.none, .none, ?_⟩ q)
    rw [← hsz]
    exact Heap.get?_push_size _ rfl
  show wpAny _ _ (callWith cpos (.builtin "dict.items") [.ref d] [] []) _ X.xe s1
  exact method_meetsIn F.slot_dict_items F.entry_dict_items rfl (PySem.evalArgs_none ⟨rfl, hm.typeIs, F.args_dict_items_1 _, _, DT.meetsItems (es := es) (ep := ep) hs, hm, fin⟩)

/-- the kinds of keys, walked: what a turn gives -/
def YKeyT (kvs : List (List Key × V)) : Nat → Hp → V → Hp → Prop := fun i H x H' => H' = H ∧ ∃ (k : List Key) (v : V) (q : Addr), kvs[i]? = some (k, v) ∧ x = .ref q ∧ H q = some (.tup (k.map kV))
def YKeyK (kvs : List (Key × V)) : Nat → Hp → V → Hp → Prop := fun i H x H' => H' = H ∧ ∃ k v, kvs[i]? = some (k, v) ∧ x = kV k
def YItT (kvs : List (List Key × V)) : Nat → Hp → V → Hp → Prop := fun i H x H' => ∃ T k v q, kvs[i]? = some (k, v) ∧ x = .ref T ∧ H T = none ∧ H q = some (.tup (k.map kV)) ∧ H' = upd H T (.tup [.ref q, v])
theorem walk_keysT {d : Addr} {o : Obj} {kvs : List (List Key × V)} : Walk (Itkt d o kvs) kvs.length (fun H => H d = some (.frz o (.dT kvs))) (YKeyT kvs) :=
  ⟨fun i H hi h => ⟨h, hi⟩, fun H h => ⟨h, Nat.le_refl _⟩, fun i H x H' hi h y => y⟩
theorem walk_keysK {d : Addr} {o : Obj} {kvs : List (Key × V)} : Walk (Itk d o kvs) kvs.length (fun H => H d = some (.frz o (.dK kvs))) (YKeyK kvs) :=
  ⟨fun i H hi h => ⟨h, hi⟩, fun H h => ⟨h, Nat.le_refl _⟩, fun i H x H' hi h y => y⟩
theorem walk_itemsT {d : Addr} {o : Obj} {kvs : List (List Key × V)} : Walk (ItiT d o kvs) kvs.length (fun H => H d = some (.frz o (.dT kvs))) (YItT kvs) :=
  ⟨fun i H hi h => ⟨h, hi⟩, fun H h => ⟨h, Nat.le_refl _⟩, fun i H x H' hi h y => y⟩
/-- for k in d | a comprehension over d's keys, d locked -/
def iKeysT (td : TE) : TI := fun σ H R => td σ H fun x H1 => ∃ d o kvs, x = .ref d ∧ H1 d = some (.frz o (.dT kvs)) ∧ R (Itkt d o kvs) H1
def iKeysK (td : TE) : TI := fun σ H R => td σ H fun x H1 => ∃ d o kvs, x = .ref d ∧ H1 d = some (.frz o (.dK kvs)) ∧ R (Itk d o kvs) H1
section
variable {X : Cx} {tg e : Expr} {td : TE}
theorem pi_keysT (he : PE X e td) : PI X tg e (iKeysT td) := by
  refine ⟨fun pins s σ H R I h => ?_⟩
  refine thn (he.run pins s σ H _ I h) fun u s1 ⟨x, H1, I1, rx, d, o, kvs, ex, hd, q⟩ => ?_
  subst ex
  obtain rfl : u = Value.ref d := rx
  obtain ⟨hs, hgd, hx, es, ep, hdt, hsz, ent⟩ := I1.frzT hd
  refine iter_keys hs hgd hx hdt (pi_one (tk := s1.toks) I1 _ (turn_keysT _ hdt) ⟨_, Heap.get?_push_size _ rfl, rfl, ?_⟩ q)
  rw [hsz] <;> rfl
theorem pi_keysK (he : PE X e td) : PI X tg e (iKeysK td) := by
  refine ⟨fun pins s σ H R I h => ?_⟩
  refine thn (he.run pins s σ H _ I h) fun u s1 ⟨x, H1, I1, rx, d, o, kvs, ex, hd, q⟩ => ?_
  subst ex
  obtain rfl : u = Value.ref d := rx
  obtain ⟨hs, hgd, hx, es, ep, vs, hdt, hsz, kv, hm⟩ := I1.frzK hd
  refine iter_keys hs hgd hx hdt (pi_one (tk := s1.toks) I1 _ (turn_keys _ hdt) ⟨_, Heap.get?_push_size _ rfl, rfl, ?_⟩ q)
  rw [hsz] <;> rfl
end
section
variable {g : TG} {tt : TT} {te : TE} {tb : TS} {D : Ends} {vs : List Nat} {σ : L2.St} {H1 : Hp} {Dl d : Addr} {o : Obj} {Qd : Hp → Prop}
theorem lc_keysT {kvs : List (List Key × V)} (Pv : Nat → Hp → Prop) (h0 : Pv 0 (upd H1 Dl (.lst []))) (hG : ∀ i H, i ≤ kvs.length → Pv i H → H d = some (.frz o (.dT kvs)))
    (hs : ∀ i k v q H, kvs[i]? = some (k, v) → H q = some (.tup (k.map kV)) → Pv i H → g (.ref q) (wipe σ vs) H fun σ2 H2 => wipe σ2 vs = wipe σ vs ∧ tt σ2 H2 fun b H3 =>
      if b = true then te σ2 H3 fun y H4 => ∃ acc, H4 Dl = some (.lst acc) ∧ acc.length < sizeLine ∧ Pv (i + 1) (upd H4 Dl (.lst (acc ++ [y]))) else Pv (i + 1) H3) (hd : ∀ H, Pv kvs.length H → Qd H) :
    ∃ W : Nat → Nat → Hp → Prop, (∃ m, W 0 m (upd H1 Dl (.lst []))) ∧ ∀ i m H, W i m H →
      ((Itkt d o kvs).stop i H ∧ Qd H) ∨ ((Itkt d o kvs).go i H ∧ ∃ Nx : Hp → Prop, (∀ H', Nx H' → ∃ m', m' < m ∧ W (i + 1) m' H') ∧ ∀ x H', (Itkt d o kvs).yld i H x H' → g x (wipe σ vs) H' fun σ2 H2 => wipe σ2 vs = wipe σ vs ∧ tt σ2 H2 fun b H3 =>
        if b = true then te σ2 H3 fun y H4 => ∃ acc, H4 Dl = some (.lst acc) ∧ acc.length < sizeLine ∧ Nx (upd H4 Dl (.lst (acc ++ [y]))) else Nx H3) :=
  lc_it walk_keysT Pv h0 hG (fun i x H H' hi p ⟨e1, k, v, q, e2, e3, e4⟩ => by subst e1 e3; exact hs i k v q _ e2 e4 p) hd
theorem lc_keysK {kvs : List (Key × V)} (Pv : Nat → Hp → Prop) (h0 : Pv 0 (upd H1 Dl (.lst []))) (hG : ∀ i H, i ≤ kvs.length → Pv i H → H d = some (.frz o (.dK kvs)))
    (hs : ∀ i k v H, kvs[i]? = some (k, v) → Pv i H → g (kV k) (wipe σ vs) H fun σ2 H2 => wipe σ2 vs = wipe σ vs ∧ tt σ2 H2 fun b H3 =>
      if b = true then te σ2 H3 fun y H4 => ∃ acc, H4 Dl = some (.lst acc) ∧ acc.length < sizeLine ∧ Pv (i + 1) (upd H4 Dl (.lst (acc ++ [y]))) else Pv (i + 1) H3) (hd : ∀ H, Pv kvs.length H → Qd H) :
    ∃ W : Nat → Nat → Hp → Prop, (∃ m, W 0 m (upd H1 Dl (.lst []))) ∧ ∀ i m H, W i m H →
      ((Itk d o kvs).stop i H ∧ Qd H) ∨ ((Itk d o kvs).go i H ∧ ∃ Nx : Hp → Prop, (∀ H', Nx H' → ∃ m', m' < m ∧ W (i + 1) m' H') ∧ ∀ x H', (Itk d o kvs).yld i H x H' → g x (wipe σ vs) H' fun σ2 H2 => wipe σ2 vs = wipe σ vs ∧ tt σ2 H2 fun b H3 =>
        if b = true then te σ2 H3 fun y H4 => ∃ acc, H4 Dl = some (.lst acc) ∧ acc.length < sizeLine ∧ Nx (upd H4 Dl (.lst (acc ++ [y]))) else Nx H3) :=
  lc_it walk_keysK Pv h0 hG (fun i x H H' hi p ⟨e1, k, v, e2, e3⟩ => by subst e1 e3; exact hs i k v _ e2 p) hd
theorem lc_itemsT {kvs : List (List Key × V)} (Pv : Nat → Hp → Prop) (h0 : Pv 0 (upd H1 Dl (.lst []))) (hG : ∀ i H, i ≤ kvs.length → Pv i H → H d = some (.frz o (.dT kvs)))
    (hs : ∀ i k v q T H, kvs[i]? = some (k, v) → H q = some (.tup (k.map kV)) → H T = none → Pv i H → g (.ref T) (wipe σ vs) (upd H T (.tup [.ref q, v])) fun σ2 H2 => wipe σ2 vs = wipe σ vs ∧ tt σ2 H2 fun b H3 =>
      if b = true then te σ2 H3 fun y H4 => ∃ acc, H4 Dl = some (.lst acc) ∧ acc.length < sizeLine ∧ Pv (i + 1) (upd H4 Dl (.lst (acc ++ [y]))) else Pv (i + 1) H3) (hd : ∀ H, Pv kvs.length H → Qd H) :
    ∃ W : Nat → Nat → Hp → Prop, (∃ m, W 0 m (upd H1 Dl (.lst []))) ∧ ∀ i m H, W i m H →
      ((ItiT d o kvs).stop i H ∧ Qd H) ∨ ((ItiT d o kvs).go i H ∧ ∃ Nx : Hp → Prop, (∀ H', Nx H' → ∃ m', m' < m ∧ W (i + 1) m' H') ∧ ∀ x H', (ItiT d o kvs).yld i H x H' → g x (wipe σ vs) H' fun σ2 H2 => wipe σ2 vs = wipe σ vs ∧ tt σ2 H2 fun b H3 =>
        if b = true then te σ2 H3 fun y H4 => ∃ acc, H4 Dl = some (.lst acc) ∧ acc.length < sizeLine ∧ Nx (upd H4 Dl (.lst (acc ++ [y]))) else Nx H3) :=
  lc_it walk_itemsT Pv h0 hG (fun i x H H' hi p ⟨T, k, v, q, e2, e3, e4, e5, e6⟩ => by subst e3 e6; exact hs i k v q T _ e2 e5 e4 p) hd
theorem for_keysT {kvs : List (List Key × V)} {H : Hp} (Pv : Nat → L2.St → Hp → Prop) (h0 : Pv 0 σ H) (hG : ∀ i σ H, i ≤ kvs.length → Pv i σ H → H d = some (.frz o (.dT kvs)))
    (hs : ∀ i k v q σ H, kvs[i]? = some (k, v) → H q = some (.tup (k.map kV)) → Pv i σ H → g (.ref q) σ H fun σ2 H2 => tb { D with nx := Pv (i + 1), ct := Pv (i + 1), bk := D.nx } σ2 H2) (hd : ∀ σ H, Pv kvs.length σ H → D.nx σ H) :
    ∃ W : Nat → Nat → L2.St → Hp → Prop, (∃ m, W 0 m σ H) ∧ ∀ i m σ H, W i m σ H →
      ((Itkt d o kvs).stop i H ∧ D.nx σ H) ∨ ((Itkt d o kvs).go i H ∧ ∃ N : L2.St → Hp → Prop, (∀ σ' H', N σ' H' → ∃ m', m' < m ∧ W (i + 1) m' σ' H') ∧ ∀ x H', (Itkt d o kvs).yld i H x H' → g x σ H' fun σ2 H2 => tb { D with nx := N, ct := N, bk := D.nx } σ2 H2) :=
  for_it walk_keysT Pv h0 hG (fun i x σ H H' hi p ⟨e1, k, v, q, e2, e3, e4⟩ => by subst e1 e3; exact hs i k v q σ _ e2 e4 p) hd
end
/-- the key of a turn, as a thing -/
theorem ik_of {α : Type} [Enc α] [IK α] {K : PySem.W.Frag} {F : Hp} {b : Addr} {x : α} (h : F b = some (.tup ((ikeys (IK.ks x)).map kV))) : R K F (.ref b) x := by
  show Rp K F _ (Enc.d x)
  rw [IK.enc x]
  rw [ikeys_kV] at h
  refine .tup h (by rw [List.length_map]; exact Nat.le_trans (IK.few x) (by decide)) ?_
  generalize IK.ks x = ns
  induction ns with
  | nil => exact .nil
  | cons n ns ih => exact .cons (.int n) ih
theorem RD.re {α β : Type} [Enc α] [DK α] [Enc β] {K : PySem.W.Frag} {F : Hp} {kvs : List (DK.Kt α × V)} {xs ys : List (α × β)} (e : xs = ys) (h : RD K F kvs xs) : RD K F kvs ys := e ▸ h
theorem RD.keyT {α β : Type} [Enc α] [IK α] [Enc β] {K : PySem.W.Frag} {F : Hp} {kvs : List (List Key × V)} {xs : List (α × β)} {i : Nat} {k : List Key} {v : V} (h : RD (α := α) K F kvs xs) (e : kvs[i]? = some (k, v)) :
    ∃ x y, xs[i]? = some (x, y) ∧ (xs.map Prod.fst)[i]? = some x ∧ k = ikeys (IK.ks x) ∧ R K F v y := by
  obtain ⟨p, e1, e2, r, _⟩ := RD.at h e
  refine ⟨p.1, p.2, e1, by rw [List.getElem?_map, e1]; rfl, e2, r⟩
theorem RD.lenk {α β : Type} [Enc α] [DK α] [Enc β] {K : PySem.W.Frag} {F : Hp} {kvs : List (DK.Kt α × V)} {xs : List (α × β)} (h : RD K F kvs xs) : kvs.length = (xs.map Prod.fst).length := by rw [List.length_map]; exact h.len
theorem RD.one {α β : Type} [Enc α] [DK α] [Enc β] {K : PySem.W.Frag} {F : Hp} (x : α) (hx : DK.ok x) {y : β} {v : V} (r : R K F v y) : RD K F [(DK.k x, v)] [(x, y)] := RD.cons_iff.mpr ⟨⟨rfl, r, hx⟩, RD.nil⟩
theorem RD.keyI {β : Type} [Enc β] {K : PySem.W.Frag} {F : Hp} {kvs : List (Key × V)} {xs : List (Int × β)} {i : Nat} {k : Key} {v : V} (h : RD (α := Int) K F kvs xs) (e : kvs[i]? = some (k, v)) :
    ∃ x y, xs[i]? = some (x, y) ∧ (xs.map Prod.fst)[i]? = some x ∧ k = Sum.inl x ∧ R K F v y := by
  obtain ⟨p, e1, e2, r, _⟩ := RD.at h e
  exact ⟨p.1, p.2, e1, by rw [List.getElem?_map, e1]; rfl, e2, r⟩
theorem dput_le {α β : Type} [Enc α] [DK α] [Enc β] [DecidableEq α] {K : PySem.W.Frag} {F : Hp} {kvs : List (DK.Kt α × V)} {xs : List (α × β)} (h : RD K F kvs xs) {x : α} {v : V} (hl : xs.length < sizeLine) : (putK kvs (DK.k x) v).length ≤ sizeLine := by
  have := length_putK kvs (DK.k x) v
  rw [h.len] at this
  omega
theorem RD.keyS {β : Type} [Enc β] {K : PySem.W.Frag} {F : Hp} {kvs : List (Key × V)} {xs : List (Str × β)} {i : Nat} {k : Key} {v : V} (h : RD (α := Str) K F kvs xs) (e : kvs[i]? = some (k, v)) :
    ∃ x y, xs[i]? = some (x, y) ∧ (xs.map Prod.fst)[i]? = some x ∧ k = Sum.inr x ∧ R K F v y ∧ GS x := by
  obtain ⟨p, e1, e2, r, o⟩ := RD.at h e
  exact ⟨p.1, p.2, e1, by rw [List.getElem?_map, e1]; rfl, e2, r, o⟩
end G
/-! My base, part 24: lists of tuples of ints, sorted. -/
namespace G
open PySem PySem.Spec PyProof.Rows L2 TL
section
variable {α : Type} [Enc α] [IK α]
abbrev itZ (ns : List Int) : List (Int ⊕ List Nat) := ns.map Sum.inl
theorem itZ_inj : ∀ {a b : List Int}, itZ a = itZ b → a = b
  | [], [], _ => rfl
  | [], _ :: _, h => by cases h
  | _ :: _, [], h => by cases h
  | x :: a, y :: b, h => by
    have h' : Sum.inl x :: itZ a = Sum.inl y :: itZ b := h
    obtain ⟨h1, h2⟩ := List.cons.inj h'
    rw [Sum.inl.inj h1, itZ_inj h2]
def ltK (a b : α) : Bool := lexLt itemOrd (itZ (IK.ks a)) (itZ (IK.ks b))
def leK (a b : α) : Bool := !ltK b a
def sortK (xs : List α) : List α := xs.mergeSort leK
theorem leK_trans (a b c : α) (h1 : leK a b = true) (h2 : leK b c = true) : leK a c = true := by
  unfold leK at *
  rw [Bool.not_eq_true'] at *
  exact KeyOrd.kle_trans (O := listOrd itemOrd) (show (listOrd itemOrd).kle (itZ (IK.ks a)) (itZ (IK.ks b)) from h1) h2
theorem leK_total (a b : α) : (leK a b || leK b a) = true := by
  unfold leK
  cases h : ltK b a with
  | false => rfl
  | true =>
    have : ltK a b = false := KeyOrd.klt_asymm (O := listOrd itemOrd) h
    rw [this]; rfl
theorem sortK_perm (xs : List α) : (sortK xs).Perm xs := List.mergeSort_perm _ _
theorem sortK_sorted (xs : List α) : (sortK xs).Pairwise fun a b => leK a b = true := List.pairwise_mergeSort leK_trans leK_total xs
theorem sortK_len (xs : List α) : (sortK xs).length = xs.length := (sortK_perm xs).length_eq
theorem leK_anti {a b : α} (h1 : leK a b = true) (h2 : leK b a = true) : a = b := by
  unfold leK at *
  rw [Bool.not_eq_true'] at *
  exact IK.inj _ _ (itZ_inj ((listOrd itemOrd).total _ _ h2 h1))
theorem sortK_uniq {xs ys : List α} (h : ys.Perm xs) (h2 : ys.Pairwise fun a b => leK a b = true) : sortK xs = ys :=
  ((sortK_perm xs).trans h.symm).eq_of_pairwise (le := fun a b => leK a b = true) (fun a b _ _ h3 h4 => leK_anti h3 h4) (sortK_sorted xs) h2
theorem ik_same {K : PySem.W.Frag} {H : Hp} {v : V} {x y : α} (h1 : R K H v x) (h2 : R K H v y) : x = y := by
  obtain ⟨b, rfl, hb⟩ := ik_tup h1
  obtain ⟨b', e, hb'⟩ := ik_tup h2
  cases e
  rw [hb] at hb'
  rw [ikeys_kV, ikeys_kV] at hb'
  have e1 := Option.some.inj hb'
  have e2 : (IK.ks x).map V.int = (IK.ks y).map V.int := by injection e1
  refine IK.inj _ _ ?_
  generalize IK.ks x = a at e2
  generalize IK.ks y = b at e2
  clear hb hb' e1 h1 h2
  induction a generalizing b with
  | nil => cases b with
    | nil => rfl
    | cons _ _ => cases e2
  | cons p a ih => cases b with
    | nil => cases e2
    | cons q b =>
      rw [List.map_cons, List.map_cons] at e2
      obtain ⟨h1, h2⟩ := List.cons.inj e2
      injection h1 with h1
      rw [h1, ih b h2]
open Classical in
noncomputable def keyT [Inhabited α] (K : PySem.W.Frag) (H : Hp) (v : V) : α := if h : ∃ x : α, R K H v x then h.choose else default
theorem keyT_spec [Inhabited α] {K : PySem.W.Frag} {H : Hp} {v : V} {x : α} (h : R K H v x) : keyT K H v = x := by
  unfold keyT
  rw [dif_pos ⟨x, h⟩]
  exact ik_same (Exists.choose_spec (⟨x, h⟩ : ∃ x : α, R K H v x)) h
theorem tupItems_ints : ∀ (i : Nat) {ns : List Int} {vs : List Value}, Vals (ns.map V.int) vs → tupItems (fun _ => false) i vs = some (itZ ns)
  | i, [], _, r => by cases r; rfl
  | i, n :: ns, _, r => by
    rw [List.map_cons] at r
    cases r with
    | cons h t =>
      obtain ⟨tk, rfl⟩ := h
      show (if false = true then none else (tupItems (fun _ => false) (i + 1) _).map (Sum.inl n :: ·)) = _
      rw [if_neg Bool.false_ne_true, tupItems_ints (i + 1) t]
      rfl
def rSortedTK (α : Type) [Enc α] [IK α] (K : PySem.W.Frag) : List V → Hp → VK → Prop := fun vs H Q => ∃ (a : Addr) (xs : List V) (ds : List α), vs = [V.ref a] ∧ SqL K H a xs ∧ RL K H xs ds ∧
  ∀ (ys : List V) (p : Addr), ys.length = xs.length → (∀ F, RL K F xs ds → RL K F ys (sortK ds)) → H p = none → Q (.ref p) (upd H p (.lst ys))
theorem kkC {h : Heap} {ps : Array Keyed} {i : Nat} {p : Keyed} (e : ps[i]? = some p) : KK (G.tupKindC h (fun _ => false)) ps i = (G.tupKeyC h (fun _ => false) p.1).getD [] := by
  unfold KK
  rw [e]
theorem cr_sortedTK {X : Cx} [Inhabited α] : CallR X (.builtin "sorted") (rSortedTK α X.K) := by
  intro pins s σ H vs us Q I r h
  obtain ⟨a, xs, ds, rfl, hs, hA, q⟩ := h
  have hlen : xs.length = ds.length := RL.len hA
  have hkey : ∀ i v x, xs[i]? = some v → ds[i]? = some x → keyT X.K H v = x := fun i v x hv hx => by
    obtain ⟨x', hx', r⟩ := RL.get hA hv
    rw [hx] at hx'
    cases hx'
    exact keyT_spec r
  have hmem : ∀ v ∈ xs, R X.K H v (keyT X.K H v : α) := fun v hv => by
    obtain ⟨i, hi, rfl⟩ := List.getElem_of_mem hv
    obtain ⟨x, hx, r⟩ := RL.get hA (List.getElem?_eq_getElem hi)
    rw [keyT_spec r]
    exact r
  obtain ⟨its, rv, hl, hz⟩ := I.list hs
  obtain ⟨u, rfl, ru⟩ := vals1 r
  obtain rfl : u = Value.ref a := ru
  obtain ⟨e1, e2⟩ := refs_back rv fun x m => by
    obtain ⟨b, e, _⟩ := ik_tup (hmem x m)
    exact ⟨b, e⟩
  have hin : ∀ v ∈ its, backV v ∈ xs := fun v hv => by rw [e1]; exact List.mem_map.mpr ⟨_, hv, rfl⟩
  have hobj : ∀ v ∈ its, ∃ (t : Addr) (o : Obj) (its2 : List Value) (n : Nat), v = .ref t ∧ s.heap.get? t = some o ∧ o.cls = .type "tuple" ∧ o.data = .seq its2.toArray n ∧ Vals ((IK.ks (keyT X.K H (backV v) : α)).map V.int) its2 := fun v hv => by
    obtain ⟨t, rfl⟩ := e2 v hv
    obtain ⟨b, e, hb⟩ := ik_tup (hmem _ (hin _ hv))
    have e' : V.ref t = V.ref b := e
    cases e'
    rw [ikeys_kV] at hb
    obtain ⟨_, its2, r2, o, ho, hc, n, hd⟩ := (show ObjOk X.prog X.w H s.heap t (.tup _) from I.hok t _ hb)
    exact ⟨t, o, its2, n, rfl, ho, hc, hd, r2⟩
  have hkC : ∀ v ∈ its, G.tupKeyC s.heap (fun _ => false) v = some (itZ (IK.ks (keyT X.K H (backV v) : α))) := fun v hv => by
    obtain ⟨t, o, its2, n, rfl, ho, hc, hd, r2⟩ := hobj v hv
    have hi := tupItems_ints 0 r2
    have h1 : G.isTupObj s.heap (.ref t) = true := by simp [G.isTupObj, ho, hc]
    have h2 : tupKey s.heap (fun _ => false) (.ref t) = some (itZ (IK.ks (keyT X.K H (backV (.ref t)) : α))) := by
      simp only [tupKey, ho, hd]
      exact hi
    unfold G.tupKeyC
    rw [if_pos h1]
    exact h2
  have hT : ∃ fs, TupsOf s.heap (fun _ => false) its fs := by
    have go : ∀ l : List Value, (∀ v ∈ l, v ∈ its) → ∃ fs, TupsOf s.heap (fun _ => false) l fs := fun l => by
      induction l with
      | nil => exact fun _ => ⟨[], .nil⟩
      | cons v l ih =>
        intro hh
        obtain ⟨fs, t⟩ := ih fun u hu => hh u (List.mem_cons_of_mem _ hu)
        obtain ⟨t', o, its2, n, rfl, ho, hc, hd, r2⟩ := hobj v (hh v (List.mem_cons_self ..))
        have hp := IK.pos (keyT X.K H (backV (.ref t')) : α)
        generalize IK.ks (keyT X.K H (backV (.ref t')) : α) = ns at hp r2
        cases ns with
        | nil => exact absurd hp (by simp)
        | cons m ns =>
          rw [List.map_cons] at r2
          cases r2 with
          | @cons _ u1 _ us1 h1 t1 =>
            obtain ⟨tk, rfl⟩ := h1
            exact ⟨_, .cons ⟨t', o, _, n, rfl, ho, hc, hd, by simp, fun _ => ⟨m, tk, rfl⟩, fun z => nomatch z⟩ t⟩
    exact go its fun _ h => h
  obtain ⟨fs, hT⟩ := hT
  refine G.sorted_tups hl.isList hT (fun v hv => ⟨_, hkC v hv⟩) (by rw [← rv.length]; exact hz) fun st' p1 p2 _ => ?_
  have hpair : ∀ p ∈ (arrOf st').toList, p.1 = p.2 ∧ p.1 ∈ its := fun p hp => by
    have : p ∈ (pairsOf its).toList := p1.toList.mem_iff.mp hp
    rw [pairsOf_toList] at this
    exact mem_zip_self this
  have hperm : ((arrOf st').map (·.2)).toList.Perm its := by
    rw [Array.toList_map]
    have z := p1.toList.map Prod.snd
    rw [pairsOf_toList, List.map_snd_zip (Nat.le_refl _)] at z
    exact z
  obtain ⟨out, hout⟩ : ∃ out : Array Value, (arrOf st').map (·.2) = out := ⟨_, rfl⟩
  have hsz : (arrOf st').size = its.length := by
    have := p1.size_eq
    rw [this, pairsOf_size]
  have h3 : ∀ u ∈ out.toList, ∃ a, u = Value.ref a := fun u hu => e2 u ((hout ▸ hperm).mem_iff.mp hu)
  have hds : xs.map (keyT X.K H : V → α) = ds := List.ext_getElem? fun i => by
    rw [List.getElem?_map]
    by_cases hi : i < xs.length
    · rw [List.getElem?_eq_getElem hi, List.getElem?_eq_getElem (by omega)]
      exact congrArg some (hkey i xs[i] (ds[i]'(by omega)) (List.getElem?_eq_getElem hi) (List.getElem?_eq_getElem (by omega)))
    · rw [List.getElem?_eq_none (by omega), List.getElem?_eq_none (by omega)]
      rfl
  have hb : (out.toList.map backV).Perm xs := by
    rw [e1, ← hout]
    exact hperm.map _
  have hso : sortK ds = (out.toList.map backV).map (keyT X.K H : V → α) := by
    refine sortK_uniq (by rw [← hds]; exact hb.map _) ?_
    rw [List.map_map, ← hout, Array.toList_map, List.map_map]
    refine List.pairwise_iff_getElem.mpr fun i j hi hj hij => ?_
    rw [List.length_map] at hi hj
    rw [Array.length_toList] at hi hj
    have g := p2 i j (Nat.le_of_lt hij) (by rw [← p1.size_eq]; exact hj)
    have gi : (arrOf st')[i]? = some (arrOf st')[i] := Array.getElem?_eq_getElem hi
    have gj : (arrOf st')[j]? = some (arrOf st')[j] := Array.getElem?_eq_getElem hj
    rw [kkC gi, kkC gj] at g
    obtain ⟨a1, a2⟩ := hpair (arrOf st')[i] (by simp)
    obtain ⟨b1, b2⟩ := hpair (arrOf st')[j] (by simp)
    rw [hkC _ a2, hkC _ b2] at g
    rw [List.getElem_map, List.getElem_map, Array.getElem_toList, Array.getElem_toList]
    unfold leK
    rw [Bool.not_eq_true']
    show lexLt itemOrd (itZ (IK.ks (keyT X.K H (backV (arrOf st')[j].2) : α))) (itZ (IK.ks (keyT X.K H (backV (arrOf st')[i].2) : α))) = false
    rw [← a1, ← b1]
    exact g
  obtain ⟨ep, he'⟩ := sortedAll_at s.heap its out
  have hlen2 : (out.toList.map backV).length ≤ sizeLine := by rw [hb.length_eq]; exact hz
  rw [hout]
  refine ⟨.ref _, upd H (s.heap.objs.size + 1) (.lst (out.toList.map backV)), I.laid (t' := s.toks) (fun _ _ => sortedAll_old) (Nat.le_succ _) ⟨hlen2, out.toList, ep, vals_back h3, he'⟩, rfl, q _ _ hb.length_eq (fun F hF => ?_) (I.hok.fresh (Nat.le_succ _))⟩
  rw [hso]
  have hall : ∀ v ∈ out.toList.map backV, R X.K F v (keyT X.K H v : α) := fun v hv => by
    obtain ⟨i, hi, rfl⟩ := List.getElem_of_mem (hb.mem_iff.mp hv)
    obtain ⟨x, hx, rx⟩ := RL.get hF (List.getElem?_eq_getElem hi)
    rw [hkey i xs[i] x (List.getElem?_eq_getElem hi) hx]
    exact rx
  have go : ∀ l : List V, (∀ v ∈ l, R X.K F v (keyT X.K H v : α)) → RL X.K F l (l.map (keyT X.K H : V → α)) := fun l => by
    induction l with
    | nil => exact fun _ => .nil
    | cons v l ih => exact fun h => .cons (h v (List.mem_cons_self ..)) (ih fun u hu => h u (List.mem_cons_of_mem _ hu))
  exact go _ hall
theorem cr_sortedTK_ {X : Cx} {K : PySem.W.Frag} [Inhabited α] (h : X.K = K := by rfl) : CallR X (.builtin "sorted") (rSortedTK α K) := by subst h; exact cr_sortedTK
end
instance : Inhabited (T3 Int Int Int) := ⟨⟨0, 0, 0⟩⟩
instance : Inhabited (T4 Int Int Int Int) := ⟨⟨0, 0, 0, 0⟩⟩
end G
/-! My base, part 25: a list of lists, all of one's own. -/
namespace G
open PySem PySem.Spec PyProof.Rows L2 TL
abbrev refsN (rows : List (Addr × List V)) : List V := rows.map fun r => V.ref r.1
structure Nest (H0 F H : Hp) (f : Addr) (rows : List (Addr × List V)) : Prop where
  h : H f = some (.lst (refsN rows))
  nF : F f = none
  n0 : H0 f = none
  rh : ∀ r ∈ rows, H r.1 = some (.lst r.2)
  rF : ∀ r ∈ rows, F r.1 = none
  r0 : ∀ r ∈ rows, H0 r.1 = none
  rf : ∀ r ∈ rows, r.1 ≠ f
  nd : (rows.map (·.1)).Nodup
/-- q is none of them -/
def Apt (f : Addr) (rows : List (Addr × List V)) (q : Addr) : Prop := f ≠ q ∧ ∀ r ∈ rows, r.1 ≠ q
section
variable {M : Addr → Prop} {F0 H0 F H F' H' : Hp} {f p q : Addr} {o : HO} {K : PySem.W.Frag} {rows : List (Addr × List V)} {us ws : List V}
theorem Nest.ne (w : Nest H0 F H f rows) (hq : H q = none) : Apt f rows q := ⟨ne_of_none w.h hq, fun r hr => ne_of_none (w.rh r hr) hq⟩
theorem Nest.other (w : Nest H0 F H f rows) (a : Apt f rows q) : Nest H0 F (upd H q o) f rows :=
  ⟨(upd_ne a.1).trans w.h, w.nF, w.n0, fun r hr => (upd_ne (a.2 r hr)).trans (w.rh r hr), w.rF, w.r0, w.rf, w.nd⟩
theorem Nest.own (w : Nest H0 F H f rows) (hq : H q = none) : Nest H0 F (upd H q o) f rows := w.other (w.ne hq)
theorem Nest.fz (w : Nest H0 F H f rows) (a : Apt f rows q) : Nest H0 (upd F q o) H f rows :=
  ⟨w.h, (upd_ne a.1).trans w.nF, w.n0, w.rh, fun r hr => (upd_ne (a.2 r hr)).trans (w.rF r hr), w.r0, w.rf, w.nd⟩
theorem Nest.frz (w : Nest H0 F H f rows) (hq : H q = none) : Nest H0 (upd F q o) (upd H q o) f rows := (w.own hq).fz (w.ne hq)
theorem Nest.gr0 (w : Nest H0 F H f rows) (g : Gr M0 F H F' H') : Nest H0 F' H' f rows :=
  ⟨g.keep _ _ id w.h, g.newL (by rw [w.h]; simp) w.nF (fun ts z => by rw [g.keep _ _ id w.h] at z; cases z), w.n0, fun r hr => g.keep _ _ id (w.rh r hr),
    fun r hr => g.newL (by rw [w.rh r hr]; simp) (w.rF r hr) (fun ts z => by rw [g.keep _ _ id (w.rh r hr)] at z; cases z), w.r0, w.rf, w.nd⟩
theorem Nest.apart (w : Nest H0 F H f rows) (k : Gr M0 H H F' H') : Nest H0 F H' f rows :=
  ⟨k.keep _ _ id w.h, w.nF, w.n0, fun r hr => k.keep _ _ id (w.rh r hr), w.rF, w.r0, w.rf, w.nd⟩
theorem Nest.adopt {ts : List V} (w : Nest H0 F H f rows) (h : H q = some (.tup ts)) : Nest H0 (upd F q (.tup ts)) H f rows :=
  w.fz ⟨(fun z => by subst z; rw [w.h] at h; cases h), (fun r hr z => by subst z; rw [w.rh r hr] at h; cases h)⟩
theorem Nest.nil (g : Gr M F0 H0 F H) (hp : H p = none) : Nest H0 F (upd H p (.lst [])) p [] :=
  ⟨upd_same, g.noneF hp, g.none0 hp, (fun _ h => nomatch h), (fun _ h => nomatch h), (fun _ h => nomatch h), (fun _ h => nomatch h), List.nodup_nil⟩
theorem Nest.grow (w : Nest H0 F H f rows) (g : Gr M F0 H0 F H) (hp : H p = none) : Nest H0 F (upd (upd H p (.lst [])) f (.lst (refsN rows ++ [.ref p]))) f (rows ++ [(p, [])]) := by
  have a := w.ne hp
  refine ⟨by rw [upd_same, refsN, refsN, List.map_append]; rfl, w.nF, w.n0, fun r hr => ?_, fun r hr => ?_, fun r hr => ?_, fun r hr => ?_, ?_⟩
  · rcases List.mem_append.mp hr with hr | hr
    · rw [upd_ne (w.rf r hr), upd_ne (a.2 r hr)]; exact w.rh r hr
    · rw [List.mem_singleton.mp hr, upd_ne a.1.symm, upd_same]
  · rcases List.mem_append.mp hr with hr | hr
    · exact w.rF r hr
    · rw [List.mem_singleton.mp hr]; exact g.noneF hp
  · rcases List.mem_append.mp hr with hr | hr
    · exact w.r0 r hr
    · rw [List.mem_singleton.mp hr]; exact g.none0 hp
  · rcases List.mem_append.mp hr with hr | hr
    · exact w.rf r hr
    · rw [List.mem_singleton.mp hr]; exact a.1.symm
  · rw [List.map_append]
    refine List.nodup_append.mpr ⟨w.nd, by simp, fun x hx y hy => ?_⟩
    obtain ⟨r, hr, rfl⟩ := List.mem_map.mp hx
    have hy' : y = p := by simpa using hy
    rw [hy']
    exact a.2 r hr
theorem Nest.put (w : Nest H0 F H f rows) {j : Nat} {r : Addr × List V} (hj : rows[j]? = some r) : Nest H0 F (upd H r.1 (.lst us)) f (rows.set j (r.1, us)) := by
  have hr : r ∈ rows := List.mem_of_getElem? hj
  have hjl : j < rows.length := (List.getElem?_eq_some_iff.mp hj).1
  have e1 : (rows.set j (r.1, us)).map (·.1) = rows.map (·.1) := by
    rw [List.map_set]
    refine List.ext_getElem? fun i => ?_
    rw [List.getElem?_set]
    by_cases hi : j = i
    · subst hi
      rw [if_pos rfl, if_pos (by rw [List.length_map]; exact hjl), List.getElem?_map, hj]
      rfl
    · rw [if_neg hi]
  have e2 : refsN (rows.set j (r.1, us)) = refsN rows := by
    have : ∀ l : List (Addr × List V), refsN l = (l.map (·.1)).map V.ref := fun l => by rw [refsN, List.map_map]; rfl
    rw [this, this, e1]
  have hmem : ∀ x ∈ rows.set j (r.1, us), x = (r.1, us) ∨ (x ∈ rows ∧ x.1 ≠ r.1) := fun x hx => by
    obtain ⟨i, hi⟩ := List.mem_iff_getElem?.mp hx
    rw [List.getElem?_set] at hi
    by_cases hij : j = i
    · rw [if_pos hij] at hi
      split at hi
      · exact .inl (Option.some.inj hi).symm
      · next hn => exact absurd (hij ▸ hjl) hn
    · rw [if_neg hij] at hi
      refine .inr ⟨List.mem_of_getElem? hi, fun z => hij ?_⟩
      have h1 : (rows.map (·.1))[j]? = some r.1 := by rw [List.getElem?_map, hj]; rfl
      have h2 : (rows.map (·.1))[i]? = some r.1 := by rw [List.getElem?_map, hi]; exact congrArg some z
      exact (List.getElem?_inj (List.getElem?_eq_some_iff.mp h1).1 w.nd).mp (h1.trans h2.symm)
  refine ⟨by rw [upd_ne (w.rf r hr).symm, e2]; exact w.h, w.nF, w.n0, fun x hx => ?_, fun x hx => ?_, fun x hx => ?_, fun x hx => ?_, by rw [e1]; exact w.nd⟩
  · rcases hmem x hx with rfl | ⟨hx, n⟩
    · exact upd_same
    · rw [upd_ne n]; exact w.rh x hx
  · rcases hmem x hx with rfl | ⟨hx, n⟩
    · exact w.rF r hr
    · exact w.rF x hx
  · rcases hmem x hx with rfl | ⟨hx, n⟩
    · exact w.r0 r hr
    · exact w.r0 x hx
  · rcases hmem x hx with rfl | ⟨hx, n⟩
    · exact w.rf r hr
    · exact w.rf x hx
end
def RN {α : Type} [Enc α] (K : PySem.W.Frag) (F : Hp) (rows : List (Addr × List V)) (xs : List (List α)) : Prop :=
  rows.length = xs.length ∧ ∀ (j : Nat) (r : Addr × List V), rows[j]? = some r → ∃ x, xs[j]? = some x ∧ RL K F r.2 x ∧ r.2.length ≤ sizeLine
def appN {α : Type} (xs : List (List α)) (i : Int) (y : α) : Option (List (List α)) :=
  (ixN xs.length i).bind fun j => xs[j]?.bind fun r => if r.length < sizeLine then some (xs.set j (r ++ [y])) else none
theorem appN_ok {α : Type} {xs zs : List (List α)} {i : Int} {y : α} (h : appN xs i y = some zs) : ∃ j r, ixN xs.length i = some j ∧ xs[j]? = some r ∧ r.length < sizeLine ∧ xs.set j (r ++ [y]) = zs := by
  unfold appN at h
  obtain ⟨j, h1, h⟩ := Option.bind_eq_some_iff.mp h
  obtain ⟨r, h2, h⟩ := Option.bind_eq_some_iff.mp h
  split at h
  · exact ⟨j, r, h1, h2, by assumption, Option.some.inj h⟩
  · cases h
section
variable {α : Type} [Enc α] {K : PySem.W.Frag} {F F' : Hp} {rows : List (Addr × List V)} {xs ys : List (List α)}
theorem RN.up (h : RN K F rows xs) (e : Same F F') : RN K F' rows xs := ⟨h.1, fun j r hr => let ⟨x, h1, h2, h3⟩ := h.2 j r hr; ⟨x, h1, RpA.up h2 e, h3⟩⟩
theorem RN.re (e : xs = ys) (h : RN K F rows xs) : RN K F rows ys := e ▸ h
theorem RN.len (h : RN K F rows xs) : (refsN rows).length = xs.length := by rw [List.length_map]; exact h.1
theorem RN.row (h : RN K F rows xs) {j : Nat} {x : List α} (e : xs[j]? = some x) : ∃ r, rows[j]? = some r ∧ RL K F r.2 x ∧ r.2.length ≤ sizeLine := by
  have hj : j < rows.length := by rw [h.1]; exact (List.getElem?_eq_some_iff.mp e).1
  obtain ⟨x', h1, h2, h3⟩ := h.2 j _ (List.getElem?_eq_getElem hj)
  rw [e] at h1
  cases h1
  exact ⟨_, List.getElem?_eq_getElem hj, h2, h3⟩
theorem RN.at_ (h : RN K F rows xs) {i : Int} {j : Nat} {r : Addr × List V} (e : ixN xs.length i = some j) (hr : rows[j]? = some r) : atI (refsN rows) i = some (V.ref r.1) := by
  unfold atI
  rw [h.len, e]
  show (refsN rows)[j]? = _
  rw [refsN, List.getElem?_map, hr]
  rfl
theorem RN.get (h : RN K F rows xs) {i : Nat} {v : V} (e : (refsN rows)[i]? = some v) : ∃ x r, xs[i]? = some x ∧ r ∈ rows ∧ v = .ref r.1 ∧ RL K F r.2 x ∧ r.2.length ≤ sizeLine := by
  rw [refsN, List.getElem?_map] at e
  obtain ⟨r, hr, rfl⟩ := Option.map_eq_some_iff.mp e
  obtain ⟨x, h1, h2, h3⟩ := h.2 i r hr
  exact ⟨x, r, h1, List.mem_of_getElem? hr, rfl, h2, h3⟩
theorem RN.put (h : RN K F rows xs) {j : Nat} {r : Addr × List V} {x : List α} {us : List V} (hr : rows[j]? = some r) (hx : RL K F us x) (hl : us.length ≤ sizeLine) : RN K F (rows.set j (r.1, us)) (xs.set j x) := by
  refine ⟨by rw [List.length_set, List.length_set]; exact h.1, fun k q hq => ?_⟩
  rw [List.getElem?_set] at hq ⊢
  by_cases hk : j = k
  · subst hk
    rw [if_pos rfl] at hq ⊢
    have hj : j < rows.length := (List.getElem?_eq_some_iff.mp hr).1
    rw [if_pos hj] at hq
    rw [if_pos (by rw [← h.1]; exact hj)]
    cases hq
    exact ⟨x, rfl, hx, hl⟩
  · rw [if_neg hk] at hq ⊢
    exact h.2 k q hq
theorem RN.empty {β : Type} {l : List β} (h : rows.length = l.length) (he : ∀ r ∈ rows, r.2 = []) : RN K F rows (l.map fun _ => ([] : List α)) := by
  refine ⟨by rw [List.length_map]; exact h, fun j r hr => ⟨[], ?_, ?_, ?_⟩⟩
  · have hj : j < rows.length := (List.getElem?_eq_some_iff.mp hr).1
    rw [List.getElem?_map, List.getElem?_eq_getElem (by omega)]
    rfl
  · rw [he r (List.mem_of_getElem? hr)]; exact RpA.nil
  · rw [he r (List.mem_of_getElem? hr)]; exact Nat.zero_le _
end
theorem Apt.put {f q : Addr} {rows : List (Addr × List V)} {j : Nat} {r : Addr × List V} {us : List V} (a : Apt f rows q) (hj : rows[j]? = some r) : Apt f (rows.set j (r.1, us)) q :=
  ⟨a.1, fun x hx => by
    rcases List.mem_or_eq_of_mem_set hx with h | h
    · exact a.2 x h
    · rw [h]; exact a.2 r (List.mem_of_getElem? hj)⟩
end G
/-! My base, part 26: sorted(set(a tuple of whole numbers)); tuples put together. -/
namespace G
open PySem PySem.Spec PyProof.Rows L2 TL
section
variable {P : Program} {w : World} {A : Around} {E : Value → Shared → Prop} {s : Shared}
theorem set_of_tuple {l : Addr} {xs : Array Value} (ks : List Int) {Q : Value → Shared → Prop} (hh : A.handled = none) (hl : s.heap.IsTuple l xs) (hk : IntsAre xs.toList ks) (hb : ks.length + 1 < scanBound)
    (hq : ∀ (h' : Heap) (tk c : Nat), SetR w h' s.heap.objs.size (fun j => decide (j ∈ ks)) c → c ≤ ks.length → (∀ b o, s.heap.get? b = some o → h'.get? b = some o) → Q (.ref s.heap.objs.size) { s with heap := h', toks := tk }) :
    wpAny (model P w) A (call (.type "set") [.ref l]) Q E s := by
  have hsz : xs.size = ks.length := (Array.length_toList (xs := xs)).symm.trans (IntsAre.length hk)
  obtain ⟨c0, tl0, hmro⟩ := F.called_set.mro
  have hmade := F.called_set.made; have hsub := F.called_set.sub
  refine wpAny_call (codeAny_of_tree ?_); show wpAny _ _ (callAny (.type "set") _) _ _ _
  refine wpAny_pure ⟨Code.quiet_builtin _ (by decide +kernel), codeAny_builtin F.entry_type_call ?_⟩; rw [Around.under_plain (weight_type_call_type "set" [.ref l] []) rfl]
  have n1 := F.called_set.notType; have n2 := F.called_set.canCreate; have n3 := F.typeCall_set_1 (.ref l)
  repeat (any_goals (first | assumption | wp_step))
  refine codeAny_mono (code_set_led1 (A := A.in1) (.ref l) (E := E) (Q₁ := fun ob s₁ => ob = .ref s.heap.objs.size ∧ s₁ = { s with heap := s.heap.push (newS w) }) ⟨rfl, rfl⟩) fun r s₁ hr => ?_
  cases r with
  | error e => exact hr
  | ok fl =>
    cases fl with
    | next => exact hr.elim
    | brk => exact hr.elim
    | cont => exact hr.elim
    | ret ob =>
      obtain ⟨rfl, rfl⟩ := hr
      have hS : (s.heap.push (newS w)).get? s.heap.objs.size = some (newS w) := Heap.get?_push_size _ rfl
      have hT : Shared.TypeIs { s with heap := s.heap.push (newS w) } (.ref s.heap.objs.size) "set" := ⟨_, hS, rfl⟩
      have hli := F.called_set.init.lookup; have hbi := F.called_set.init.bind (.ref s.heap.objs.size)
      repeat (any_goals (first | assumption | wp_step))
      refine codeAny_mono (codeAny_call_builtin (R := wants (fun rr s₂ => rr = .none ∧ ∃ h' tk c, s₂ = { s with heap := h', toks := tk } ∧ SetR w h' s.heap.objs.size (fun j => decide (j ∈ ks)) c ∧ c ≤ ks.length ∧ (∀ b o, s.heap.get? b = some o → h'.get? b = some o)) E)
        F.called_set.init.plain F.entry_set_init (check_set_init_1 hT ?_)) fun r2 s2 hr2 => ?_
      · obtain ⟨⟨lc, ld, lt, ls⟩, hol, hcl, nl, hdl⟩ := hl
        simp only at hcl hdl; subst hcl; subst hdl
        have hol' : (s.heap.push (newS w)).get? l = some { cls := .type "tuple", dict := ld, data := .seq xs nl, slots := ls } := Heap.get?_push_of_some _ hol
        have b1 := F.sub_tuple_set; have b2 := F.sub_tuple_frozenset
        have b3 : (Value.type "tuple" == Value.type "dict") = false := by decide
        have hl1 : (s.heap.push (newS w)).IsTuple l xs := ⟨_, hol', rfl, nl, rfl⟩
        unfold Builtin.«set.__init__» noKeywords Builtin.Frozenset.updateFrom; generalize hPI : pyIter = PI
        wp_walk
        subst hPI; refine wpAny_pyIter_tuple hl1 ?_
        refine wpAny_bind (wpAny_runValue ?_); have lS : l < s.heap.objs.size := Heap.lt_size hol
        have hh3 : A.in1.in1.in1.handled = none := by simp [hh]
        have lI : l ≠ (s.heap.push (newS w)).objs.size := by rw [Heap.size_push]; exact Nat.ne_of_lt (Nat.lt_succ_of_lt lS)
        have sI : s.heap.objs.size ∉ [(s.heap.push (newS w)).objs.size, l] := by
          rw [Heap.size_push]
          intro z
          rcases List.mem_cons.mp z with z | z
          · exact absurd z (Nat.ne_of_lt (Nat.lt_succ_self _))
          · exact absurd (List.mem_singleton.mp z) (Nat.ne_of_gt lS)
        have each : ∀ (i : Nat) (v : Value), xs[i]? = some v → ∃ k t, ks[i]? = some k ∧ v = .int k t := fun i v hv => by
          have hi : i < ks.length := by rw [← hsz]; exact (Array.getElem?_eq_some_iff.mp hv).1
          obtain ⟨t, e⟩ := PyProof.Rows.IntsAre.int_at hk i v (by rw [Array.getElem?_toList]; exact hv)
          exact ⟨ks[i], t, List.getElem?_eq_getElem hi, by rw [e, List.getD_eq_getElem?_getD, List.getElem?_eq_getElem hi]; rfl⟩
        refine set_update_ints ((Walks.tuple hh3 _ l lI xs).toS) s.heap.objs.size sI ks hsz hb each (xs.size - 0) 0 _ (by omega) (Nat.zero_le _) ⟨⟨_, Heap.get?_push_size _ rfl, rfl, rfl⟩, (hl1.push _)⟩ ⟨0, Nat.le_refl 0, setR_new_at (Heap.get?_push_of_some _ hS)⟩ (fun s' c' hm hc' hS' => ?_)
        obtain ⟨h', g2, d', tk', os'⟩ := s'
        have eg : g2 = s.gens := hm.gens; have ed : d' = s.drawn := hm.drawn
        have eo : os' = s.os := hm.os; subst eg; subst ed; subst eo
        show wpAny _ _ _ _ _ _; refine wpAny_pure ?_
        show wpAny _ _ (ret Value.none) _ _ _; rw [hsz] at hc'
        refine wpAny_pure ⟨rfl, h', tk', c', rfl, hS', hc', fun b o e => ?_⟩
        have m0 : b < s.heap.objs.size := Heap.lt_size e
        refine hm.heap b o (fun z => ?_) (Heap.get?_push_of_some _ (Heap.get?_push_of_some _ e))
        rcases List.mem_cons.mp z with z | z
        · exact absurd z (Nat.ne_of_lt m0)
        · have z := List.mem_singleton.mp z
          rw [Heap.size_push] at z
          exact absurd z (Nat.ne_of_lt (Nat.lt_succ_of_lt m0))
      · cases r2 with
        | error e => exact hr2
        | ok fl2 =>
          cases fl2 with
          | next => exact hr2.elim
          | brk => exact hr2.elim
          | cont => exact hr2.elim
          | ret rr =>
            obtain ⟨rfl, h', tk, c, rfl, hS', hc', hk'⟩ := hr2
            repeat (any_goals (first | assumption | wp_step))
            exact hq _ _ _ hS' hc' hk'
end
section
variable {X : Cx}
def tSSetT (K : PySem.W.Frag) (ta : TE) : TE := fun σ H Q => ta σ H fun x H1 => ∃ (l : Addr) (ks : List Int), x = V.ref l ∧ SqT K H1 l (ks.map V.int) ∧ ks.length < 4000 ∧
  ∀ (ns : List Int) (p : Addr), ns.Pairwise (· < ·) → (∀ k, k ∈ ns ↔ k ∈ ks) → ns.length ≤ ks.length → H1 p = none → Q (.ref p) (upd H1 p (.lst (ns.map V.int)))
theorem pe_ssetT {a : Expr} {ta : TE} {p p2 q pos : Pos} (hc : X.calm = true) (hg : Gl X "sorted") (hm : X.mg "sorted" = none) (hg2 : Gl X "set") (hm2 : X.mg "set" = none) (ha : PE X a ta)
    (na : starEach [a] X.env = (false, eval a X.env) :: starEach [] X.env := by rfl) : PE X (.Call (.Name "sorted" p) [.Call (.Name "set" p2) [a] [] q] [] pos) (tSSetT X.K ta) := by
  refine ⟨fun pins s σ H Q I h => ?_⟩
  refine Call_ (ld_blt I hg hm (u := .builtin "sorted") (by decide +kernel) ?_)
  refine PyProof.Rows.callWith_builtin1 (PyProof.Rows.args_cons ?_ rfl) rfl rfl
  refine Call_ (ld_blt I hg2 hm2 PyProof.Rows.boot_set ?_)
  refine PyProof.Rows.callWith_type1 (PyProof.Rows.args_cons (thn (ha.run pins s σ H _ I h) fun v s1 ⟨x, H1, I1, r1, q1⟩ => PyProof.Rows.args_nil ?_) na) na rfl
  obtain ⟨l, ks, rfl, hq, h4, q1⟩ := q1
  cases r1
  obtain ⟨its, r, pl, hz⟩ := I1.tuple hq
  refine set_of_tuple ks (I1.ok.hd hc) pl (by simpa using r.ints) (by unfold scanBound; omega) fun h' tk c hS hck hk => ?_
  refine PyProof.Rows.args_nil ?_
  have I2 : Inv X pins σ H1 { s1 with heap := h', toks := tk } := I1.kept fun b o e => hk b o e
  refine set_sorted hS (I2.ok.hd hc) fun s' p out c2 ns k g o hp hgt hi hs hmem hlen => ?_
  have hlen2 : ns.length ≤ ks.length := Nat.le_trans hlen hck
  have hlz : (ns.map V.int).length ≤ sizeLine := by rw [List.length_map, sizeLine_eq]; omega
  have hn : H1 p = none := I2.hok.fresh hp
  have J : Inv X pins σ (upd H1 p (.lst (ns.map V.int))) s' := Inv.call' (ch := []) I2 o (Un.laid k hp hn) (I2.hok.laid k hp ⟨hlz, out, c2, vals_of_ints hi, hgt⟩) (by rw [g]; exact I2.bare) (fun _ z => nomatch z)
  exact ⟨.ref p, _, J, rfl, q1 ns p hs (fun k => by rw [hmem k, decide_eq_true_iff]) hlen2 hn⟩
theorem pe_ssetTK {K : PySem.W.Frag} {a : Expr} {ta : TE} {p p2 q pos : Pos} (hc : X.calm = true) (hg : Gl X "sorted") (hm : X.mg "sorted" = none) (hg2 : Gl X "set") (hm2 : X.mg "set" = none) (ha : PE X a ta) (h : X.K = K := by rfl)
    (na : starEach [a] X.env = (false, eval a X.env) :: starEach [] X.env := by rfl) : PE X (.Call (.Name "sorted" p) [.Call (.Name "set" p2) [a] [] q] [] pos) (tSSetT K ta) := by subst h; exact pe_ssetT hc hg hm hg2 hm2 ha na
/-- two tuples, put together -/
def rCatF : R2 := fun x y H Q => ∃ (F : Hp) (a b : Addr) (xs ys : List V), x = .ref a ∧ y = .ref b ∧ F a = some (.tup xs) ∧ F b = some (.tup ys) ∧ Same F H ∧ xs.length + ys.length ≤ sizeLine ∧
  ∀ q F' H', Gr M0 F H F' H' → F' q = some (.tup (xs ++ ys)) → Q (.ref q) H'
theorem op_catF : OpR X (binaryOp .Add) rCatF := by
  intro pins s σ H x y v u Q I rx ry ⟨F, a, b, xs, ys, e1, e2, ha, hb, hF, hl, q⟩
  refine op_catA pins s σ H x y v u Q I rx ry ⟨a, b, xs, ys, e1, e2, .inl (.inl (hF _ _ ha)), .inl (.inl (hF _ _ hb)), hl, fun h => ?_, fun h1 h2 => ?_, fun h1 h2 p hp => ?_⟩
  · exact q b F H (Gr.refl hF) (by rw [h, List.nil_append]; exact hb)
  · exact q a F H (Gr.refl hF) (by rw [h2, List.append_nil]; exact ha)
  · exact q p _ _ ((Gr.refl hF).frz (o := .tup (xs ++ ys)) hp) fzT
end
def conV {α : Type} (xs ys : VT α) : Option (VT α) := if xs.l.length + ys.l.length ≤ sizeLine then some (VT.mk (xs.l ++ ys.l)) else none
theorem conV_ok {α : Type} {xs ys r : VT α} (h : conV xs ys = some r) : xs.l.length + ys.l.length ≤ sizeLine ∧ VT.mk (xs.l ++ ys.l) = r := by
  unfold conV at h
  split at h
  · exact ⟨by assumption, Option.some.inj h⟩
  · cases h
end G
/-! My base, part 27: sorted(a dict of texts). -/
namespace G
open PySem PySem.Spec PyProof.Rows L2 TL PySem.Calls PySem.W
section
variable {prog : Program} {w : World} {A : Around} {E : Value → Shared → Prop} {s : Shared} {T : String} {r d : Addr} {n : Nat} {P : Nat → Value → Prop} {OK : Heap → Prop}
/-- what an iterable of the kit's gives, gathered -/
theorem gather {R : List Value → Shared → Prop} (K : KdlSrc prog w T r d n P OK) (hh : A.handled = none) (hok : OK s.heap) (hn : n ≤ sizeLine)
    (h : ∀ (h' : Heap) (tk : Nat) (vs : List Value), (∀ b o, s.heap.get? b = some o → h'.get? b = some o) → s.heap.objs.size < h'.objs.size → vs.length = n → (∀ j v, vs[j]? = some v → P j v) → R vs { s with heap := h', toks := tk }) :
    wpAny (model prog w) A (collect (.ref r)) R E s := by
  obtain ⟨hr, hd⟩ := K.there _ hok
  unfold collect
  refine wpAny_bind (wpAny_runValue (codeAny_builtin entry_proto_collect' ?_))
  rw [Around.under_plainId PySem.F.plain_proto_collect _]
  show wpAny _ A.in1 (newList [] >>= fun l => again (.builtin "list.__iadd__" ⟨[l, .ref r], []⟩)) _ _ s
  refine wpAny_bind (wpAny_newObj_type ?_)
  refine wpAny_pure ⟨plainId_quiet PySem.F.plain_list_iadd _, codeAny_builtin entry_list_iadd' ?_⟩
  rw [Around.under_plainId PySem.F.plain_list_iadd _]
  have hS : (s.heap.push { cls := .type "list", data := .seq ([] : List Value).toArray }).get? s.heap.objs.size = some { cls := .type "list", data := .seq #[] } := Heap.get?_push_size _ rfl
  show wpAny _ A.in1 (Builtin.List.listExtendWith (.ref s.heap.objs.size) (.ref r) (.ref s.heap.objs.size)) _ _ _
  have key := kdl_extend (prog := prog) (w := w) (A := A) (s := { s with heap := s.heap.push { cls := .type "list", data := .seq ([] : List Value).toArray } }) (R := fun (q : Result) (s' : Shared) => ∃ (h' : Heap) (tk : Nat) (acc' : Array Value) (c' : Nat), q = .ok (.ret (.ref s.heap.objs.size)) ∧ s' = { s with heap := h', toks := tk } ∧
      (∀ b o, b ≠ s.heap.objs.size → (s.heap.push { cls := .type "list", data := .seq ([] : List Value).toArray }).get? b = some o → h'.get? b = some o) ∧ h'.get? s.heap.objs.size = some { cls := .type "list", dict := none, data := .seq acc' c', slots := #[] } ∧ ItemsOf P acc' n)
    K hh (K.keep _ _ hok fun b _ o e => Heap.get?_push_of_some _ e) s.heap.objs.size (Nat.ne_of_gt hr) (Nat.ne_of_gt hd) (.ref s.heap.objs.size) 0 hS
    (fun h' tk acc' c' hk hS' hacc => ⟨h', tk, acc', c', rfl, rfl, hk, hS', hacc⟩) hn
  refine wpAny_mono key (fun fin s' x => ?_) fun e s' x => ?_
  · cases fin with
    | done f =>
      obtain ⟨h', tk, acc', c', e, rfl, hk, hS', hacc⟩ := x
      cases e
      refine wpAny_bind (wpAny_load hS' ?_)
      exact wpAny_pure (h h' tk acc'.toList (fun b o e => hk b o (Nat.ne_of_lt (Heap.lt_size e)) (Heap.get?_push_of_some _ e)) (Heap.lt_size hS') (by rw [Array.length_toList]; exact hacc.1) fun j v e => hacc.2 j v (by rw [← Array.getElem?_toList]; exact e))
    | again c₁ =>
      refine ⟨x.1, codeAny_mono x.2 fun q s₂ y => ?_⟩
      obtain ⟨h', tk, acc', c', rfl, rfl, hk, hS', hacc⟩ := y
      refine wpAny_bind (wpAny_load hS' ?_)
      exact wpAny_pure (h h' tk acc'.toList (fun b o e => hk b o (Nat.ne_of_lt (Heap.lt_size e)) (Heap.get?_push_of_some _ e)) (Heap.lt_size hS') (by rw [Array.length_toList]; exact hacc.1) fun j v e => hacc.2 j v (by rw [← Array.getElem?_toList]; exact e))
  · obtain ⟨_, _, _, _, e', _⟩ := x
    cases e'
end
theorem strs_by : ∀ {vs : List Value} {xs : List Str}, vs.length = xs.length → (∀ (j : Nat) (v : Value), vs[j]? = some v → ∃ (x : Str) (t : Tok), xs[j]? = some x ∧ v = Value.str x t) → StrsAre vs xs
  | [], [], _, _ => .nil
  | [], _ :: _, h, _ => by cases h
  | _ :: _, [], h, _ => by cases h
  | v :: vs, x :: xs, h, k => by
    obtain ⟨x', t, e1, e2⟩ := k 0 v rfl
    cases e1
    subst e2
    exact .cons _ _ (strs_by (by simpa using h) fun j v e => k (j + 1) v e)
theorem ints_by : ∀ {vs : List Value} {xs : List Int}, vs.length = xs.length → (∀ (j : Nat) (v : Value), vs[j]? = some v → ∃ (x : Int) (t : Tok), xs[j]? = some x ∧ v = Value.int x t) → IntsAre vs xs
  | [], [], _, _ => .nil
  | [], _ :: _, h, _ => by cases h
  | _ :: _, [], h, _ => by cases h
  | v :: vs, x :: xs, h, k => by
    obtain ⟨x', t, e1, e2⟩ := k 0 v rfl
    cases e1
    subst e2
    exact .cons _ _ (ints_by (by simpa using h) fun j v e => k (j + 1) v e)
/-- sorted(a dict of texts) -/
def rSortedDS : List V → Hp → VK → Prop := fun vs H Q => ∃ (a : Addr) (kvs : List (Key × V)) (xs : List Str), vs = [V.ref a] ∧ Rd H a (.dK kvs) ∧ kvs.map (·.1) = xs.map Sum.inr ∧
  ∀ p : Addr, H p = none → Q (.ref p) (upd H p (.lst ((sortT xs).map V.str)))
theorem cr_sortedDS {X : Cx} (hc : X.calm = true) : CallR X (.builtin "sorted") rSortedDS := by
  intro pins s σ H vs us Q I r h
  obtain ⟨a, kvs, xs, rfl, ha, hk, q⟩ := h
  obtain ⟨u, rfl, ru⟩ := vals1 r
  obtain rfl : u = Value.ref a := ru
  obtain ⟨z, hd, vs0, rel, o, es, ep, ho, hx, hdt, rest⟩ := dk_rd I.hok ha
  have hlen : kvs.length = vs0.length := Paired.length rel
  have hxl : kvs.length = xs.length := by have := congrArg List.length hk; rwa [List.length_map, List.length_map] at this
  have hat : s.heap.DictAt (mixKind X.prog X.w) a vs0 ep := ⟨o, es, ho, hx, hdt, rest⟩
  refine Calls.call_function_entry kind_sorted plain_sorted entry_sorted (args_sorted1 _) ?_
  unfold Builtin.«sorted»
  refine wpAny_bind (m := checkCount "sorted" 1 1 _) (wpAny_pure ?_)
  refine wpAny_bind (gather (kdl_dict (prog := X.prog) (w := X.w) (knd := mixKind X.prog X.w) (kvs := vs0) (ep := ep) hd) (I.ok.hd hc) hat (by omega) fun h' tk vs1 hkp hsz1 hl1 hv1 => ?_)
  have hS : StrsAre vs1 xs := strs_by (by omega) fun j v e => by
    obtain ⟨k, x, e1, e2⟩ := hv1 j v e
    have hj : j < kvs.length := by rw [hlen]; exact (List.getElem?_eq_some_iff.mp e1).1
    obtain ⟨u, e3, _⟩ := kv_get rel (i := j) (k := (kvs[j]).1) (v := (kvs[j]).2) (List.getElem?_eq_getElem hj)
    rw [e1] at e3
    have e4 : k = (kvs[j]).1 := congrArg Prod.fst (Option.some.inj e3)
    have e5 : (kvs.map (·.1))[j]? = some (kvs[j]).1 := by rw [List.getElem?_map, List.getElem?_eq_getElem hj]; rfl
    rw [hk, List.getElem?_map] at e5
    obtain ⟨x', e6, e7⟩ := Option.map_eq_some_iff.mp e5
    rw [e4, ← e7] at e2
    rcases keyIs_shape (show keyIs (Sum.inr x') v = true from e2) with ⟨i, t, z1, _⟩ | ⟨y, t, z1, z2⟩
    · cases z1
    · cases z1
      exact ⟨_, t, e6, z2⟩
  have hl1' : vs1.length ≤ sizeLine := by omega
  refine wpAny_bind (wpAny_newList ?_ hl1')
  have hoL : (h'.push (seqObj "list" vs1.toArray 0)).get? h'.objs.size = some (seqObj "list" vs1.toArray 0) := Heap.get?_push_size _ rfl
  show wpAny _ _ _ _ _ { s with heap := h'.push (seqObj "list" vs1.toArray 0), toks := tk }
  refine wpAny_bind (wpAny_holding (wpAny_call_entry slot_list_sort ⟨_, hoL, rfl⟩ entry_list_sort (list_sort_treeKAny strKind_oneLt hoL hS.keysOf (fun v₁ v₂ rest e => keyKind_strs (by rw [← e]; exact hS)) hl1' fun st' a1 a2 => ⟨_, rfl, ?_⟩) (args_list_sort _)))
  refine wpAny_pure ⟨_, rfl, ?_⟩
  obtain ⟨ss', h1, h2, h3⟩ := sorted_out_str hS a1 a2
  obtain ⟨out, hout⟩ : ∃ out, (arrOf st').map (·.2) = out := ⟨_, rfl⟩
  rw [hout] at h1 ⊢
  obtain rfl := sortT_uniq h2 h3
  obtain ⟨e, hfin⟩ := sortedHeap_at (vs := vs1) (out := out) hoL
  have hlz : ((sortT xs).map V.str).length ≤ sizeLine := by rw [List.length_map, sortT_len]; omega
  have hkeep : ∀ b u, s.heap.get? b = some u → (sortedHeap (h'.push (seqObj "list" vs1.toArray 0)) h'.objs.size vs1 out).get? b = some u := fun b u e => by
    have e2 := hkp b u e
    have hlt := Heap.lt_size e2
    rw [sortedHeap_old (Nat.ne_of_lt hlt) (by rw [Heap.size_push]; exact Nat.lt_succ_of_lt hlt), Heap.get?_push_ne _ _ _ (Nat.ne_of_lt hlt)]
    exact e2
  have hfr : s.heap.objs.size ≤ h'.objs.size := Nat.le_of_lt hsz1
  exact ⟨.ref h'.objs.size, upd H h'.objs.size (.lst ((sortT xs).map V.str)), I.laid (t' := tk) hkeep hfr ⟨hlz, out.toList, e, vals_of_strs h1, hfin⟩, rfl, q _ (I.hok.fresh hfr)⟩
theorem scr_stays {K : PySem.W.Frag} {M : Addr → Prop} {F0 H0 F H H1 : Hp} {a : Addr} {xs : List V} (hS : SqL K H1 a xs) (hN : ∀ o, H1 a = some o → ¬ M a) (h : SqL K H0 a xs) (g : Gr M F0 H0 F H) : SqL K H a xs := by
  rcases hS with (e | ⟨o, e⟩) | e
  · exact g.seq (hN _ e) h
  · exact g.seq (hN _ e) h
  · exact .inr e
end G
/-! My base, part 28: dict(a list of pairs), the keys tuples of ints. -/
namespace G
open PySem PySem.Spec PyProof.Rows L2 TL
def putAllK (xs : List (List Key × V)) : List (List Key × V) → List (List Key × V)
  | [] => xs
  | p :: ps => putAllK (putK xs p.1 p.2) ps
def dputAll {α β : Type} [DecidableEq α] (xs : List (α × β)) : List (α × β) → List (α × β)
  | [] => xs
  | p :: ps => dputAll (dput xs p.1 p.2) ps
theorem putAllK_len : ∀ (ps xs : List (List Key × V)), (putAllK xs ps).length ≤ xs.length + ps.length
  | [], xs => Nat.le_refl _
  | p :: ps, xs => by
    have h1 := putAllK_len ps (putK xs p.1 p.2)
    have h2 := length_putK xs p.1 p.2
    rw [putAllK, List.length_cons]
    omega
section
variable {α β : Type} [Enc α] [IK α] [Enc β] {K : PySem.W.Frag}
theorem kt_all {H : Hp} : ∀ {ps : List (List Key × V)} {qs : List (List Key × Addr × Value)} {kvs : List (List Key × V)} {xs : List (List Key × Addr × Value)}, KT H kvs xs → KT H ps qs → KT H (putAllK kvs ps) (storedAllH xs qs)
  | [], _, _, _, h, .nil => h
  | p :: ps, _, _, _, h, .cons r t => by
    obtain ⟨r1, r2, r3⟩ := r
    rw [putAllK, storedAllH, List.foldl_cons]
    have h2 := KT.put h p.1 r2 r3
    rw [r1] at h2 ⊢
    exact kt_all h2 t
theorem rd_all [DecidableEq α] {F : Hp} : ∀ {ps : List (List Key × V)} {ys : List (α × β)} {kvs : List (List Key × V)} {xs : List (α × β)}, RD (α := α) K F kvs xs → RD (α := α) K F ps ys → RD (α := α) K F (putAllK kvs ps) (dputAll xs ys)
  | ps, [], kvs, xs, h, h2 => by
    obtain rfl := h2.nil_l
    exact h
  | ps, y :: ys, kvs, xs, h, h2 => by
    obtain ⟨q, qs, rfl⟩ := h2.cons_l
    obtain ⟨⟨e, r, o⟩, h3⟩ := RD.cons_iff.mp h2
    rw [putAllK, dputAll]
    refine rd_all ?_ h3
    rw [e]
    exact RD.put h y.1 o r
/-- the rows of a list of pairs: each its tuple, its key's tuple, the key, the value -/
theorem rows_of {F : Hp} : ∀ {xs : List (α × β)} {ws : List V}, RL K F ws xs → ∃ rs : List (Addr × Addr × V), ws = rs.map (fun r => V.ref r.1) ∧ rs.length = xs.length ∧
    ∀ (j : Nat) (x : α × β) (r : Addr × Addr × V), xs[j]? = some x → rs[j]? = some r → F r.1 = some (.tup [.ref r.2.1, r.2.2]) ∧ F r.2.1 = some (.tup ((ikeys (IK.ks x.1)).map kV)) ∧ R K F r.2.2 x.2
  | [], ws, h => by
    cases h
    exact ⟨[], rfl, rfl, fun j x r e => by simp at e⟩
  | x :: xs, ws, h => by
    cases h with
    | cons r t =>
      obtain ⟨p, v1, v2, e, hp, r1, r2⟩ := R.p2_s (x := x) r
      obtain ⟨b, e2, hb⟩ := ik_tup r1
      subst e e2
      obtain ⟨rs, e3, e4, e5⟩ := rows_of t
      refine ⟨(p, b, v2) :: rs, by rw [e3]; rfl, by rw [List.length_cons, List.length_cons, e4], fun j y q hy hq => ?_⟩
      cases j with
      | zero =>
        cases hy
        cases hq
        exact ⟨hp, hb, r2⟩
      | succ j => exact e5 j y q (by simpa using hy) (by simpa using hq)
def rDictT (α β : Type) [Enc α] [IK α] [Enc β] [DecidableEq α] (K : PySem.W.Frag) : List V → Hp → VK → Prop := fun vs H Q => ∃ (a : Addr) (ws : List V) (xs : List (α × β)), vs = [V.ref a] ∧ SqL K H a ws ∧ RL K H ws xs ∧
  ∀ (p : Addr) (kvs : List (List Key × V)), H p = none → kvs.length ≤ xs.length → (∀ F, Same F H → RL K F ws xs → RD (α := α) (β := β) K F kvs (dputAll [] xs)) → Q (.ref p) (upd H p (.dT kvs))
theorem call_dictT [DecidableEq α] {X : Cx} (hcalm : X.calm = true) (hu : X.A.units + 4 < cLine) : CallR X (.type "dict") (rDictT α β X.K) := by
  intro pins s σ H vs us Q I r q
  obtain ⟨a, ws, xs, ex, hq, hA, q⟩ := q
  subst ex
  obtain ⟨u, eu, rx⟩ := vals1 r
  subst eu
  cases rx
  obtain ⟨its, rv, pl, hz⟩ := I.list hq
  obtain ⟨rs, e1, e2, e3⟩ := rows_of hA
  subst e1
  obtain ⟨o, n, ho, hc, hd, hdat⟩ := pl
  have hil : its.length = rs.length := by have := rv.length; rw [List.length_map] at this; omega
  have row : ∀ (j : Nat) (x : α × β) (r : Addr × Addr × V), xs[j]? = some x → rs[j]? = some r → H r.1 = some (.tup [.ref r.2.1, r.2.2]) ∧ H r.2.1 = some (.tup ((ikeys (IK.ks x.1)).map kV)) ∧ ∃ u : Value, IsTup s.heap r.1 #[.ref r.2.1, u] ∧ RelV r.2.2 u := fun j x r hx hr => by
    obtain ⟨h1, h2, h3⟩ := e3 j x r hx hr
    obtain ⟨_, its2, r2, ht⟩ := (show ObjOk X.prog X.w H s.heap r.1 (.tup _) from I.hok _ _ h1)
    obtain ⟨u1, u2, rfl, ra, rb⟩ := vals2 r2
    obtain rfl : u1 = Value.ref r.2.1 := ra
    exact ⟨h1, h2, u2, ht, rb⟩
  -- the values of the rows
  have vals : ∃ us : List Value, us.length = rs.length ∧ ∀ (j : Nat) (r : Addr × Addr × V) (u : Value), rs[j]? = some r → us[j]? = some u → IsTup s.heap r.1 #[.ref r.2.1, u] ∧ RelV r.2.2 u := by
    have go : ∀ (l : List (Addr × Addr × V)), (∀ r ∈ l, ∃ u : Value, IsTup s.heap r.1 #[.ref r.2.1, u] ∧ RelV r.2.2 u) → ∃ us : List Value, us.length = l.length ∧ ∀ (j : Nat) (r : Addr × Addr × V) (u : Value), l[j]? = some r → us[j]? = some u → IsTup s.heap r.1 #[.ref r.2.1, u] ∧ RelV r.2.2 u := fun l => by
      induction l with
      | nil => exact fun _ => ⟨[], rfl, fun j r u e => by simp at e⟩
      | cons r l ih =>
        intro h
        obtain ⟨us, h1, h2⟩ := ih fun r hr => h r (List.mem_cons_of_mem _ hr)
        obtain ⟨u, h3⟩ := h r (List.mem_cons_self ..)
        refine ⟨u :: us, by rw [List.length_cons, List.length_cons, h1], fun j r' u' hr hu => ?_⟩
        cases j with
        | zero => cases hr; cases hu; exact h3
        | succ j => exact h2 j r' u' (by simpa using hr) (by simpa using hu)
    refine go rs fun r hr => ?_
    obtain ⟨j, hj⟩ := List.mem_iff_getElem?.mp hr
    have hjl : j < xs.length := by rw [← e2]; exact (List.getElem?_eq_some_iff.mp hj).1
    obtain ⟨_, _, u, h⟩ := row j _ r (List.getElem?_eq_getElem hjl) hj
    exact ⟨u, h⟩
  obtain ⟨us, hul, hus⟩ := vals
  obtain ⟨ps, hps⟩ : ∃ ps : List (List Key × Addr × Value), ps = (List.zip xs (List.zip rs us)).map fun z => (ikeys (IK.ks z.1.1), z.2.1.2.1, z.2.2) := ⟨_, rfl⟩
  obtain ⟨kvs, hkvs⟩ : ∃ kvs : List (List Key × V), kvs = (List.zip xs rs).map fun z => (ikeys (IK.ks z.1.1), z.2.2.2) := ⟨_, rfl⟩
  have psl : ps.length = rs.length := by rw [hps, List.length_map, List.length_zip, List.length_zip]; omega
  have psg : ∀ (j : Nat) (x : α × β) (r : Addr × Addr × V) (u : Value), xs[j]? = some x → rs[j]? = some r → us[j]? = some u → ps[j]? = some (ikeys (IK.ks x.1), r.2.1, u) := fun j x r u h1 h2 h3 => by
    rw [hps, List.getElem?_map, List.zip, List.getElem?_zipWith, h1]
    rw [List.zip, List.getElem?_zipWith, h2, h3]
    rfl
  have all3 : ∀ j, j < rs.length → ∃ x r u, xs[j]? = some x ∧ rs[j]? = some r ∧ us[j]? = some u := fun j hj =>
    ⟨_, _, _, List.getElem?_eq_getElem (by omega), List.getElem?_eq_getElem hj, List.getElem?_eq_getElem (by omega)⟩
  have hkt : KT H kvs ps := by
    rw [hkvs, hps]
    have go : ∀ (xs : List (α × β)) (rs : List (Addr × Addr × V)) (us : List Value), rs.length = xs.length → us.length = rs.length → (∀ (j : Nat) x r u, xs[j]? = some x → rs[j]? = some r → us[j]? = some u → H r.2.1 = some (.tup ((ikeys (IK.ks x.1)).map kV)) ∧ RelV r.2.2 u) →
        KT H ((List.zip xs rs).map fun z => (ikeys (IK.ks z.1.1), z.2.2.2)) ((List.zip xs (List.zip rs us)).map fun z => (ikeys (IK.ks z.1.1), z.2.1.2.1, z.2.2)) := fun xs => by
      induction xs with
      | nil =>
        intro rs us h1 h2 _
        obtain rfl := List.eq_nil_of_length_eq_zero h1
        exact .nil
      | cons x xs ih =>
        intro rs us h1 h2 h3
        cases rs with
        | nil => cases h1
        | cons r rs =>
          cases us with
          | nil => cases h2
          | cons u us =>
            obtain ⟨h4, h5⟩ := h3 0 x r u rfl rfl rfl
            exact .cons ⟨rfl, h4, h5⟩ (ih rs us (by simpa using h1) (by simpa using h2) fun j x r u a b c => h3 (j + 1) x r u a b c)
    refine go xs rs us e2 hul fun j x r u h1 h2 h3 => ?_
    exact ⟨(row j x r h1 h2).2.1, (hus j r u h2 h3).2⟩
  have hlast : (putAllK [] kvs).length ≤ xs.length := by
    have := putAllK_len kvs []
    rw [hkvs] at this ⊢
    rw [List.length_map, List.length_zip, List.length_nil] at this
    omega
  have hsz : rs.length ≤ sizeLine := by rw [List.length_map] at hz; exact hz
  have key : ∀ x ∈ ps, (tupleKind (mixKind X.prog X.w)).is s.heap x.1 x.2.1 := fun x hx => by
    obtain ⟨j, hj⟩ := List.mem_iff_getElem?.mp hx
    have hjl : j < rs.length := by rw [← psl]; exact (List.getElem?_eq_some_iff.mp hj).1
    obtain ⟨y, r, u, h1, h2, h3⟩ := all3 j hjl
    rw [psg j y r u h1 h2 h3] at hj
    cases hj
    exact key_of I.hok (row j y r h1 h2).2.1
  refine call_dict_pairsH (knd := tupleKind (mixKind X.prog X.w)) (ps := ps) (PairArg.list a its.toArray (fun j => ((rs[j]?).map (·.1)).getD 0) (ps.map fun p => (Value.ref p.2.1, p.2.2))) (I.ok.hd hcalm) (tupleKind_room_in1 (by simp only [Around.in1_units]; omega)) ⟨⟨o, n, ho, hc, hd, hdat⟩, ?_, ?_⟩ ⟨?_, ?_⟩ ?_ (by rw [List.length_map, psl]; exact hsz) fun h' tk dd hk => ?_
  · rw [List.size_toArray, List.length_map, psl]; exact hil
  · intro j k v hj
    rw [List.getElem?_map] at hj
    obtain ⟨p, hp, ep⟩ := Option.map_eq_some_iff.mp hj
    have hjl : j < rs.length := by rw [← psl]; exact (List.getElem?_eq_some_iff.mp hp).1
    obtain ⟨y, r, u, h1, h2, h3⟩ := all3 j hjl
    rw [psg j y r u h1 h2 h3] at hp
    cases hp
    cases ep
    refine ⟨?_, ?_⟩
    · have rv2 : Vals ((rs.map (·.1)).map V.ref) its := by rw [List.map_map]; exact rv
      have e9 := refs_at rv2
      have e10 : ((rs[j]?).map (·.1)).getD 0 = r.1 := by rw [h2]; rfl
      show _ = some (Value.ref (((rs[j]?).map (·.1)).getD 0))
      rw [e10, List.getElem?_toArray, e9, List.getElem?_map, List.getElem?_map, h2]
      rfl
    · show PairAt s.heap (((rs[j]?).map (·.1)).getD 0) _ _
      rw [h2]
      obtain ⟨o2, ho2, hc2, n2, hd2⟩ := (hus j r u h2 h3).1
      exact .inl ⟨o2, ho2, hc2, n2, hd2⟩
  · rw [List.length_map]
  · intro i k v hi
    have hi' : (ps.map fun p => (Value.ref p.2.1, p.2.2))[i]? = some (k, v) := hi
    rw [List.getElem?_map] at hi'
    obtain ⟨p, hp, ep⟩ := Option.map_eq_some_iff.mp hi'
    cases ep
    exact ⟨p.1, p.2.1, hp, rfl⟩
  · intro h' hk x hx
    obtain ⟨o2, items, n2, g1, g2, g3, g4⟩ := key x hx
    exact ⟨o2, items, n2, hk _ _ (Nat.ne_of_lt (Heap.lt_size g1)) (fun z => nomatch z) g1, g2, g3, g4⟩
  · have hm : (s.heap.objs.size == sysModules) = false := beq_eq_false_iff_ne.mpr (Nat.ne_of_gt I.big)
    obtain ⟨od, es, ep, d1, d2, d3, d4, d5, d6⟩ := dd
    have hn : H s.heap.objs.size = none := I.hok.fresh (Nat.le_refl _)
    have kt2 : KT H (putAllK [] kvs) (storedAllH [] ps) := kt_all .nil hkt
    refine ⟨.ref s.heap.objs.size, upd H s.heap.objs.size (.dT (putAllK [] kvs)), I.laid (t' := tk) (fun b o e => hk b o (fun z => nomatch z) e) (Nat.le_refl _) (show ObjOk X.prog X.w _ _ _ (.dT (putAllK [] kvs)) from ⟨by rw [List.length_map] at hz; omega, hm, storedAllH [] ps, Paired.mapP kt2 fun p q z => ⟨z.1, by rw [upd_ne (ne_of_none z.2.1 hn)]; exact z.2.1, z.2.2⟩, od, es, ep, d1, d2, d3, d4, d6⟩), rfl, q _ _ hn hlast (fun F hFH hF => ?_)⟩
    refine rd_all RD.nil ?_
    rw [hkvs]
    have go : ∀ (xs : List (α × β)) (rs : List (Addr × Addr × V)), rs.length = xs.length → (∀ (j : Nat) x r, xs[j]? = some x → rs[j]? = some r → R X.K F r.2.2 x.2) → RD (α := α) (β := β) X.K F ((List.zip xs rs).map fun z => (ikeys (IK.ks z.1.1), z.2.2.2)) xs := fun xs => by
      induction xs with
      | nil =>
        intro rs h1 _
        obtain rfl := List.eq_nil_of_length_eq_zero h1
        exact RD.nil
      | cons x xs ih =>
        intro rs h1 h2
        cases rs with
        | nil => cases h1
        | cons r rs => exact RD.cons_iff.mpr ⟨⟨rfl, h2 0 x r rfl rfl, trivial⟩, ih rs (by simpa using h1) fun j x r a b => h2 (j + 1) x r a b⟩
    refine go xs rs e2 fun j x r h1 h2 => ?_
    obtain ⟨y, hy, ry⟩ := RL.get hF (v := V.ref r.1) (i := j) (by rw [List.getElem?_map, h2]; rfl)
    rw [h1] at hy
    cases hy
    obtain ⟨p, v1, v2, e, hp, r1, r2⟩ := R.p2_s ry
    cases e
    have := hFH _ _ hp
    rw [(row j x r h1 h2).1] at this
    cases this
    exact r2
end
end G
/-! My base, part 29: < > <= >= of data of one type (ints, texts, lists, tuples of these). -/
namespace G
open PySem PySem.Spec PyProof.Rows L2 TL
/-- two of the type can be put in order, place by place -/
class Alk (α : Type) [Enc α] : Prop where
  ak : ∀ x y : α, PySem.W.alike (Enc.d x) (Enc.d y) = true
  nn : ∀ x : α, Enc.d x ≠ PyData.none
open PySem.W (alike alikeAll)
theorem alikeAll_enc {α : Type} [Enc α] [Alk α] : ∀ xs ys : List α, alikeAll (xs.map Enc.d) (ys.map Enc.d) = true
  | [], _ => by rw [List.map_nil, alikeAll]
  | _ :: _, [] => by rw [List.map_nil, List.map_cons, alikeAll]
  | x :: xs, y :: ys => by
    rw [List.map_cons, List.map_cons, alikeAll, Alk.ak x y, alikeAll_enc xs ys]
    rfl
instance : Alk Int := ⟨fun x y => by show alike (.int x) (.int y) = true; simp only [alike], fun x h => nomatch h⟩
instance : Alk Str := ⟨fun x y => by show alike (.str x) (.str y) = true; simp only [alike], fun x h => nomatch h⟩
instance {α : Type} [Enc α] [Alk α] : Alk (List α) := ⟨fun x y => by show alike (.list _) (.list _) = true; simp only [alike]; exact alikeAll_enc x y, fun x h => nomatch h⟩
instance {α β : Type} [Enc α] [Enc β] [Alk α] [Alk β] : Alk (α × β) := ⟨fun x y => by show alike (.tuple [_, _]) (.tuple [_, _]) = true; simp only [alike, alikeAll, Alk.ak, Bool.and_self], fun x h => nomatch h⟩
/-- x < y -/
def ltD {α : Type} [Enc α] (x y : α) : Bool := PySem.W.dataLt (Enc.d x) (Enc.d y)
section
variable {K : PySem.W.Frag} {X : Cx}
def rOrd (α : Type) [Enc α] (f : α → α → Bool) (K : PySem.W.Frag) : R2 := fun x y H Q => ∃ d e : α, R K H x d ∧ R K H y e ∧ Q (.bl (f d e)) H
theorem op_gtD {α : Type} [Enc α] [Alk α] [Dep α] (hd : Dep.n α ≤ 64) (hu : X.A.units + 64 < cLine) : OpR X (compareOp .Gt) (rOrd α (fun x y => ltD y x) X.K) := by
  intro pins s σ H x y v u Q I rx ry h
  obtain ⟨d, e, hd, he, q⟩ := h
  obtain ⟨as, r1⟩ := Dp.reads I _ x v (Rp.dp _ _ hd) rx
  obtain ⟨bs, r2⟩ := Dp.reads I _ y u (Rp.dp _ _ he) ry
  exact PySem.W.rcGt_alike _ _ _ _ _ _ _ _ r1 r2 (Alk.ak d e) (Alk.nn d) (SeqAt.room_of_shaped (R.shaped hd (by assumption)) hu) _ _ _ _ ⟨.bl _, H, I, rfl, q⟩
theorem op_ltD {α : Type} [Enc α] [Alk α] [Dep α] (hd : Dep.n α ≤ 64) (hu : X.A.units + 64 < cLine) : OpR X (compareOp .Lt) (rOrd α (fun x y => ltD x y) X.K) := by
  intro pins s σ H x y v u Q I rx ry h
  obtain ⟨d, e, hd, he, q⟩ := h
  obtain ⟨as, r1⟩ := Dp.reads I _ x v (Rp.dp _ _ hd) rx
  obtain ⟨bs, r2⟩ := Dp.reads I _ y u (Rp.dp _ _ he) ry
  exact PySem.W.rcLt_alike _ _ _ _ _ _ _ _ r1 r2 (Alk.ak d e) (Alk.nn d) (SeqAt.room_of_shaped (R.shaped hd (by assumption)) hu) _ _ _ _ ⟨.bl _, H, I, rfl, q⟩
theorem op_leD {α : Type} [Enc α] [Alk α] [Dep α] (hd : Dep.n α ≤ 64) (hu : X.A.units + 64 < cLine) : OpR X (compareOp .LtE) (rOrd α (fun x y => !ltD y x) X.K) := by
  intro pins s σ H x y v u Q I rx ry h
  obtain ⟨d, e, hd, he, q⟩ := h
  obtain ⟨as, r1⟩ := Dp.reads I _ x v (Rp.dp _ _ hd) rx
  obtain ⟨bs, r2⟩ := Dp.reads I _ y u (Rp.dp _ _ he) ry
  exact PySem.W.rcLe_alike _ _ _ _ _ _ _ _ r1 r2 (Alk.ak d e) (Alk.nn d) (SeqAt.room_of_shaped (R.shaped hd (by assumption)) hu) _ _ _ _ ⟨.bl _, H, I, rfl, q⟩
theorem op_geD {α : Type} [Enc α] [Alk α] [Dep α] (hd : Dep.n α ≤ 64) (hu : X.A.units + 64 < cLine) : OpR X (compareOp .GtE) (rOrd α (fun x y => !ltD x y) X.K) := by
  intro pins s σ H x y v u Q I rx ry h
  obtain ⟨d, e, hd, he, q⟩ := h
  obtain ⟨as, r1⟩ := Dp.reads I _ x v (Rp.dp _ _ hd) rx
  obtain ⟨bs, r2⟩ := Dp.reads I _ y u (Rp.dp _ _ he) ry
  exact PySem.W.rcGe_alike _ _ _ _ _ _ _ _ r1 r2 (Alk.ak d e) (Alk.nn d) (SeqAt.room_of_shaped (R.shaped hd (by assumption)) hu) _ _ _ _ ⟨.bl _, H, I, rfl, q⟩
end
section
variable {K : PySem.W.Frag} {X : Cx}
theorem op_gtDK {α : Type} [Enc α] [Alk α] [Dep α] (hu : X.A.units + 64 < cLine) (hd : Dep.n α ≤ 64 := by decide) (h : X.K = K := by rfl) : OpR X (compareOp .Gt) (rOrd α (fun x y => ltD y x) K) := by subst h; exact op_gtD hd hu
theorem op_ltDK {α : Type} [Enc α] [Alk α] [Dep α] (hu : X.A.units + 64 < cLine) (hd : Dep.n α ≤ 64 := by decide) (h : X.K = K := by rfl) : OpR X (compareOp .Lt) (rOrd α (fun x y => ltD x y) K) := by subst h; exact op_ltD hd hu
theorem op_leDK {α : Type} [Enc α] [Alk α] [Dep α] (hu : X.A.units + 64 < cLine) (hd : Dep.n α ≤ 64 := by decide) (h : X.K = K := by rfl) : OpR X (compareOp .LtE) (rOrd α (fun x y => !ltD y x) K) := by subst h; exact op_leD hd hu
theorem op_geDK {α : Type} [Enc α] [Alk α] [Dep α] (hu : X.A.units + 64 < cLine) (hd : Dep.n α ≤ 64 := by decide) (h : X.K = K := by rfl) : OpR X (compareOp .GtE) (rOrd α (fun x y => !ltD x y) K) := by subst h; exact op_geD hd hu
end
/-! what the order is -/
theorem ltD_ints (xs ys : List Int) : ltD xs ys = decide (xs < ys) := by
  have h := PySem.W.dataLt_ints xs ys
  rw [← h]
  exact PySem.W.dataLt_list _ _
theorem ltD_int (x y : Int) : ltD x y = decide (x < y) := PySem.W.dataLt_int x y
theorem ltD_p2 {α β : Type} [Enc α] [Enc β] [Alk α] [Alk β] (x y : α × β) : ltD x y = if eqD x.1 y.1 = true then (if eqD x.2 y.2 = true then false else ltD x.2 y.2) else ltD x.1 y.1 :=
  PySem.W.dataLt_pair (Alk.ak x.1 y.1) (Alk.ak x.2 y.2)
theorem call_dictTK {α β : Type} [Enc α] [IK α] [Enc β] [DecidableEq α] {X : Cx} {K : PySem.W.Frag} (hcalm : X.calm = true) (hu : X.A.units + 64 < cLine) (h : X.K = K := by rfl) : CallR X (.type "dict") (rDictT α β K) := by
  subst h
  exact call_dictT hcalm (by omega)
end G
/-! My base, part 30: list(range(n)). -/
namespace G
open PySem PySem.Spec PyProof.Rows L2 TL
section
variable {X : Cx}
theorem cr_range1 : CallR X (.type "range") (fun vs H Q => ∃ j, vs = [V.int j] ∧ ∀ p, H p = none → Q (.ref p) (upd H p (.rng 0 j))) := by
  intro pins s σ H vs us Q I r h
  obtain ⟨j, rfl, q⟩ := h
  obtain ⟨u1, rfl, ri⟩ := vals1 r
  obtain ⟨t, rfl⟩ := ri
  refine call_range_1 ⟨.ref s.heap.objs.size, upd H s.heap.objs.size (.rng 0 j), I.laid (t' := s.toks + 2) (fun b o e => Heap.get?_push_of_some _ e) (Nat.le_refl _) ?_, rfl, q _ (I.hok.fresh (Nat.le_refl _))⟩
  exact ⟨_, _, _, Heap.get?_push_size _ rfl⟩
theorem cr_listRng (hc : X.calm = true) : CallR X (.type "list") (fun vs H Q => ∃ p lo hi, vs = [V.ref p] ∧ H p = some (.rng lo hi) ∧ (-(2 ^ 62) ≤ lo ∧ lo < 2 ^ 62 ∧ -(2 ^ 62) ≤ hi ∧ hi < 2 ^ 62) ∧ (hi - lo).toNat ≤ sizeLine ∧
    ∀ q, H q = none → Q (.ref q) (upd H q (.lst ((rangeL lo (hi - lo).toNat).map V.int)))) := by
  intro pins s σ H vs us Q I r h
  obtain ⟨p, lo, hi, rfl, hp, hb, hz, q⟩ := h
  obtain ⟨u1, rfl, ri⟩ := vals1 r
  obtain rfl : u1 = .ref p := ri
  obtain ⟨t, u, v, ho⟩ := I.hok _ _ hp
  refine call_list_range (n := (hi - lo).toNat) (I.ok.hd hc) ho (small_one hb.1 hb.2.1 hb.2.2.1 hb.2.2.2) (rangeSize_nat _ _) (by rw [sizeLine_eq] at hz; omega) fun h' tk acc c hk hD hI => ?_
  refine ⟨.ref s.heap.objs.size, upd H s.heap.objs.size (.lst ((rangeL lo (hi - lo).toNat).map V.int)), I.laid (t' := tk) hk (Nat.le_refl _) (show ObjOk X.prog X.w _ _ _ (.lst _) from ⟨by rw [List.length_map, rangeL_len]; exact hz, acc.toList, c, ?_, by rw [Array.toArray_toList]; exact hD⟩), rfl, q _ (I.hok.fresh (Nat.le_refl _))⟩
  obtain ⟨h1, h2⟩ := hI
  have go : ∀ (n : Nat) (k : Nat) (vs : List Value), vs.length = n → (∀ i v, vs[i]? = some v → ∃ t, v = Value.int (lo + ((k + i : Nat) : Int) * 1) t) → Vals ((List.range' k n).map fun j => V.int (lo + (j : Nat))) vs := fun n => by
    induction n with
    | zero =>
      intro k vs e _
      obtain rfl := List.eq_nil_of_length_eq_zero e
      exact .nil
    | succ n ih =>
      intro k vs e hv
      cases vs with
      | nil => cases e
      | cons v vs =>
        rw [List.range'_succ, List.map_cons]
        refine .cons ?_ (ih (k + 1) vs (by simpa using e) fun i w hw => ?_)
        · obtain ⟨t, e2⟩ := hv 0 v rfl
          rw [Int.mul_one] at e2
          exact ⟨t, e2⟩
        · obtain ⟨t, e2⟩ := hv (i + 1) w (by simpa using hw)
          exact ⟨t, by rw [e2]; congr 3; omega⟩
  have := go (hi - lo).toNat 0 acc.toList (by rw [Array.length_toList]; exact h1) fun i v hv => by
    obtain ⟨t, e⟩ := h2 i v (by rw [← hv, Array.getElem?_toList])
    exact ⟨t, by rw [e, Nat.zero_add]⟩
  unfold rangeL
  rw [List.map_map, List.range_eq_range']
  exact this
end
end G
/-! My base, part 31: dict comprehensions, the keys of any kind that a dict of one's own can have. -/
namespace G
open PySem PySem.Spec PyProof.Rows L2 TL
/-- how a dict of a kind begins, and how it takes a value -/
structure StoreOk (P : Program) (w : World) (S : Hp → Addr → V → V → Hp → Prop) (ob0 : HO) : Prop where
  empty : ∀ (H : Hp) (h : Heap), sysModules < h.objs.size → ObjOk P w H (h.push { cls := .type "dict", data := .dict #[] }) h.objs.size ob0
  set : ∀ {X : Cx} {pins : List (Addr × Obj)} {σ : L2.St} {H H' : Hp} {s : Shared} {E : Value → Shared → Prop} {D : Addr} {y z : V} {u r : Value} {Q : Unit → Shared → Prop}, X.prog = P → X.w = w → X.A.units + 1 < cLine → Inv X pins σ H s → S H D y z H' → RelV y u → RelV z r →
    (∀ s', Inv X pins σ H' s' → Q () s') → wpAny (model X.prog X.w) X.A (dictSet D u r) Q E s
theorem store_put {X : Cx} {pins : List (Addr × Obj)} {σ : L2.St} {H H' : Hp} {s : Shared} {E : Value → Shared → Prop} {D : Addr} {y z : V} {u r : Value} {Q : Unit → Shared → Prop} (hu : X.A.units + 1 < cLine) (I : Inv X pins σ H s) (g : DPut H D y z H') (ry : RelV y u) (rv : RelV z r)
    (h : ∀ s', Inv X pins σ H' s' → Q () s') : wpAny (model X.prog X.w) X.A (dictSet D u r) Q E s := by
  rcases g with ⟨kvs, k, e, rfl, l, rfl⟩ | ⟨kvs, k, b, e, rfl, eb, l, rfl⟩
  · exact d_dictSet I e l ry rv h
  · obtain rfl : u = Value.ref b := ry
    obtain ⟨len, hd, xs, rel, dd⟩ := dt_of I.hok e
    have hz : xs.length ≤ sizeLine := by rw [← Paired.length rel]; exact len
    have hl : (putK kvs k z).length ≤ sizeLine := by have := length_putK kvs k z; omega
    refine wpAny_dictSet_heap (hsz := hz) (knd := tupleKind (mixKind X.prog X.w)) (show X.A.units < cLine by omega) (key_of I.hok eb) dd fun h' dd' hs => h _ ?_
    obtain ⟨q, es, ep, hq, h2, h3, h4, _, h5⟩ := dd'
    refine d_write I (by rw [e]; exact True.intro) hs ⟨q, hq⟩ ⟨hl, hd, _, KT.keeps (rel.put k eb rv) fun c ys ec => ?_, q, es, ep, hq, h2, h3, h4, h5⟩
    rw [upd_ne (ne_of ec e (fun z => nomatch z))]
    exact ec
theorem storeK {P : Program} {w : World} : StoreOk P w DPut (.dK []) := ⟨fun H h hb => dk_empty h hb, fun _ _ hu I g ry rv h => store_put hu I g ry rv h⟩
theorem storeT {P : Program} {w : World} : StoreOk P w DPut (.dT []) := ⟨fun H h hb => dt_empty h hb, fun _ _ hu I g ry rv h => store_put hu I g ry rv h⟩
section
variable {X : Cx}
/-- {k: v for target in iter if ..} into a dict that begins as ob0 and takes by S -/
def tDcS (S : Hp → Addr → V → V → Hp → Prop) (ob0 : HO) (wi : TI) (g : TG) (tt : TT) (tk tv : TE) (vs : List Nat) : TE := fun σ H Q => wi σ H fun J H1 => ∀ D, H1 D = none →
  ∃ W : Nat → Nat → Hp → Prop, (∃ m, W 0 m (upd H1 D ob0)) ∧ ∀ i m H, W i m H →
    (J.stop i H ∧ Q (.ref D) H) ∨ (J.go i H ∧ ∃ Nx : Hp → Prop, (∀ H', Nx H' → ∃ m', m' < m ∧ W (i + 1) m' H') ∧ ∀ x H', J.yld i H x H' → g x (wipe σ vs) H' fun σ2 H2 => wipe σ2 vs = wipe σ vs ∧ tt σ2 H2 fun b H3 =>
      if b = true then tk σ2 H3 fun y H4 => tv σ2 H4 fun z H5 => ∃ H6, S H5 D y z H6 ∧ Nx H6 else Nx H3)
theorem dc_coreS {pins : List (Addr × Obj)} {s : Shared} {σ : L2.St} {H : Hp} {Q : VK} {pos' : Pos} {use : Option (Value → Sem Unit)} {Qf : Value → Shared → Prop} {S : Hp → Addr → V → V → Hp → Prop} {ob0 : HO} (so : StoreOk X.prog X.w S ob0) {kx vx tg iter : Expr} {ifs : List Expr} {scope : Scope} {own : List (Str × Nat)} {pos : Pos} {wi : TI} {g : TG} {tt : TT} {tk tv : TE} (hc : X.calm = true) (hu : X.A.units + 1 < cLine) (hN : X.N.Nodup) (I : Inv X pins σ H s)
    (hi : PI X tg iter wi) (ok : BlkOk X.N X.env.scope scope own)
    (hg : ∀ (s : Shared) (H : Hp) (C : Addr) (cl : List (Str × Addr)) (fp : List Addr), PG (X.blk s H scope (compEnvC scope cl C X.env) fp) tg g) (ht : ∀ (s : Shared) (H : Hp) (C : Addr) (cl : List (Str × Addr)) (fp : List Addr), PTs (X.blk s H scope (compEnvC scope cl C X.env) fp) ifs tt)
    (hk : ∀ (s : Shared) (H : Hp) (C : Addr) (cl : List (Str × Addr)) (fp : List Addr), PE (X.blk s H scope (compEnvC scope cl C X.env) fp) kx tk)
    (he : ∀ (s : Shared) (H : Hp) (C : Addr) (cl : List (Str × Addr)) (fp : List Addr), PE (X.blk s H scope (compEnvC scope cl C X.env) fp) vx tv) (hs : ∀ x, foldedSetIterable iter X.env x = pure x)
    (h : tDcS S ob0 wi g tt tk tv (own.map (·.2)) σ H Q)
    (hRR : ∀ D C s' m H', Inv X pins σ H' s' → Q (.ref D) H' → s'.heap.Ns C m → FpOk X pins H' C → compPost (model X.prog X.w) X.A X.xe use Qf (.ref D) C (.ok .next) s') :
    wpAny (model X.prog X.w) X.A (comprehension (.DictComp kx vx [⟨tg, iter, ifs, 0⟩] scope pos) scope X.env pos' newDict false (eval iter X.env) use) Qf X.xe s := by
  have cells : ∀ y ∈ scope.names, y.2 = .free → ∃ c, X.env.cells.lookup y.1 = some c := fun y hy e => (ok.free y hy e).elim (fun k => I.ok.has _ (.inl k)) (fun k => I.ok.has _ (.inr k))
  refine wpAny_comprehension_free (use := use) rfl hs (closure_ok cells) ok.kind (fun y hy e => by rw [ok.uniq y hy, e]) (thn (hi.run pins s σ H _ I h) fun xv s1 hx => thn hx fun itv s2 ⟨it, fp, tn, J, H2, ei, I2, T, st2, f2, q⟩ => ?_)
  subst ei
  refine wpAny_newObj_type (newEnv_comp ?_)
  have hDn : H2 s2.heap.objs.size = none := I2.hok.fresh (Nat.le_refl _)
  obtain ⟨W, ⟨m0, w0⟩, turn⟩ := q _ hDn
  generalize hD : s2.heap.objs.size = D at hDn w0 turn ⊢
  generalize hs3 : ({ s2 with heap := s2.heap.push { cls := .type "dict", data := .dict #[] } } : Shared) = s3
  have h3 : s3.heap = s2.heap.push { cls := .type "dict", data := .dict #[] } := by rw [← hs3]
  have I3 : Inv X pins σ (upd H2 D ob0) s3 := by
    subst hD hs3
    exact I2.laid (t' := s2.toks) (fun b o e => Heap.get?_push_of_some _ e) (Nat.le_refl _) (so.empty _ _ I2.big)
  have f3 : ∀ b ∈ fp, FpOk X pins (upd H2 D ob0) b ∧ b < s3.heap.objs.size := fun b hb => by
    obtain ⟨o, e, _⟩ := T.obj _ _ st2 b hb
    have hlt := Heap.lt_size e
    exact ⟨⟨by rw [upd_ne (by rw [← hD]; exact Nat.ne_of_lt hlt)]; exact (f2 b hb).1, (f2 b hb).2⟩, by rw [h3, Heap.size_push]; exact Nat.lt_succ_of_lt hlt⟩
  have st3 : tn 0 s3.heap := T.keep _ _ _ st2 fun b _ o e => by rw [h3]; exact Heap.get?_push_of_some _ e
  have I4 := block_start I3 ok hN f3
  have pg := hg s3 (upd H2 D ob0) s3.heap.objs.size (cellsFrom (s3.heap.objs.size + 1) scope.names (cloFrom X.env.cells scope.names [])) fp
  have pt := ht s3 (upd H2 D ob0) s3.heap.objs.size (cellsFrom (s3.heap.objs.size + 1) scope.names (cloFrom X.env.cells scope.names [])) fp
  have pk := hk s3 (upd H2 D ob0) s3.heap.objs.size (cellsFrom (s3.heap.objs.size + 1) scope.names (cloFrom X.env.cells scope.names [])) fp
  have pv := he s3 (upd H2 D ob0) s3.heap.objs.size (cellsFrom (s3.heap.objs.size + 1) scope.names (cloFrom X.env.cells scope.names [])) fp
  show codeAny _ _ (.compStart (.DictComp kx vx [⟨tg, iter, ifs, 0⟩] scope pos) 0 (.ref it) (.ref D) (compEnvC scope (cellsFrom (s3.heap.objs.size + 1) scope.names (cloFrom X.env.cells scope.names [])) s3.heap.objs.size X.env)) (compPost (model X.prog X.w) X.A X.xe use Qf (.ref D) s3.heap.objs.size)
    { s3 with heap := pushCells (s3.heap.push { cls := .type "dict", data := .dict #[] }) scope.names }
  have none3 : ∀ b ∈ fp, (upd H2 D ob0) b = none := fun b hb => (f3 b hb).1.1
  generalize hce : compEnvC scope (cellsFrom (s3.heap.objs.size + 1) scope.names (cloFrom X.env.cells scope.names [])) s3.heap.objs.size X.env = ce at I4 pg pt pk pv ⊢
  have loc : ce.locals = s3.heap.objs.size := by rw [← hce]; rfl
  generalize hH3 : upd H2 D ob0 = H3 at I3 I4 pg pt pk pv w0 none3 f3
  generalize hs4 : ({ s3 with heap := pushCells (s3.heap.push { cls := .type "dict", data := .dict #[] }) scope.names } : Shared) = s4 at I4 ⊢
  have st4 : tn 0 s4.heap := T.keep _ _ _ st3 fun b _ o e => by rw [← hs4]; exact pushCells_keeps _ _ _ _ (Heap.get?_push_of_some _ e)
  have stays : ∀ {σ' : L2.St} {H' : Hp} {s' : Shared}, Inv (X.blk s3 H3 scope ce fp) [] σ' H' s' → (∀ b ∈ fp, H' b = none) → ∀ b ∈ fp, FpOk (X.blk s3 H3 scope ce fp) [] H' b := fun {σ' H' s'} I' hn b hb =>
    ⟨hn b hb, (I'.ok.exf b hb).1, I'.ok.exfs b hb, .inl hb, fun x c e => (I'.ok.exf b hb).2 x c e, fun p hp => nomatch (show p ∈ ([] : List (Addr × Obj)) from hp)⟩
  have loop : codeAny (model X.prog X.w) X.A (.compLoop (.DictComp kx vx [⟨tg, iter, ifs, 0⟩] scope pos) 0 (.ref it) (.ref D) ce) (compPost (model X.prog X.w) X.A X.xe use Qf (.ref D) s3.heap.objs.size) s4 := by
    refine compLoop_anyD (fun n s' => ∃ i H', Inv (X.blk s3 H3 scope ce fp) [] (wipe σ (own.map (·.2))) H' s' ∧ tn i s'.heap ∧ (∀ b ∈ fp, H' b = none) ∧ W i n H') (fun n s5 ⟨i, H5, I5, st5, n5, w5⟩ => ?_) m0 ⟨0, H3, I4, st4, none3, w0⟩
    rcases turn i n H5 w5 with ⟨stop, qq⟩ | ⟨go, Nx, hNx, step⟩
    · -- no more turns
      refine thnF (T.done (X.blk s3 H3 scope ce fp) rfl rfl rfl hc i [] s5 _ H5 (fun _ _ => False) I5 (stays I5 n5) st5 stop) fun r s6 ⟨hr, I6⟩ => ?_
      subst hr
      have I7 : Inv X pins σ H5 s6 := I3.call' (ch := fp) I6.os I6.base I6.hok I6.bare fun b hb => ⟨(f3 b hb).1.2.2.2.1, (f3 b hb).1.2.1, (f3 b hb).1.2.2.2.2.1, (f3 b hb).1.2.2.2.2.2⟩
      have nC : H5 s3.heap.objs.size = none := loc ▸ I6.free
      obtain ⟨m, hn, _⟩ := I6.loc
      have hn : s6.heap.Ns s3.heap.objs.size m := loc ▸ hn
      exact hRR D s3.heap.objs.size s6 m H5 I7 qq hn (I3.fpOk (Nat.le_refl _) nC)
    · -- a turn
      refine thnF (T.item (X.blk s3 H3 scope ce fp) rfl rfl rfl hc i [] s5 _ H5 (fun _ _ => False) I5 (stays I5 n5) st5 go) fun r s6 ⟨u, hr, h6⟩ => ?_
      subst hr
      refine thnF h6 fun _ s7 ⟨x, H7, I7, r7, y7, st7, n7⟩ => ?_
      refine thnF (pg.run _ s7 _ H7 x u _ (I7.pinned (stays I7 n7) (T.obj _ _ st7)) r7 (step x H7 y7)) fun _ s8 ⟨σ8, H8, I8, hw8, q8⟩ => thnF (pt.run _ s8 σ8 H8 _ I8 q8) fun b s9 ⟨H9, I9, q9⟩ => ?_
      have close : ∀ {s' : Shared} {H' : Hp}, Inv (X.blk s3 H3 scope ce fp) ([] ++ pinsAt fp s7.heap) σ8 H' s' → Nx H' → ∃ m, m < n ∧ ∃ i H', Inv (X.blk s3 H3 scope ce fp) [] (wipe σ (own.map (·.2))) H' s' ∧ tn i s'.heap ∧ (∀ b ∈ fp, H' b = none) ∧ W i m H' := fun {s' H'} I' nx => by
        obtain ⟨m', hm, w'⟩ := hNx H' nx
        have pin' : ∀ b ∈ fp, ∀ o, s7.heap.get? b = some o → s'.heap.get? b = some o ∧ H' b = none := fun b hb o e =>
          have z := I'.pin (b, o) (List.mem_append_right _ (List.mem_append_right _ (mem_pinsAt hb e)))
          ⟨z.1, z.2.1⟩
        refine ⟨m', hm, i + 1, H', (I'.unpinned (pins := [])).weak (by rw [← hw8, wipe_length]) (fun j v e => by rw [← hw8] at e; exact (wipe_some e).1), T.keep _ _ _ st7 fun b hb o e => (pin' b hb o e).1, fun b hb => ?_, w'⟩
        obtain ⟨o, e, _⟩ := T.obj _ _ st7 b hb
        exact (pin' b hb o e).2
      cases b with
      | false => exact close I9 q9
      | true =>
        simp only [if_true] at q9 ⊢
        exact thnF (pk.run _ s9 σ8 H9 _ I9 q9) fun ku s10 ⟨yk, H10, I10, r10, q10⟩ => thnF (pv.run _ s10 σ8 H10 _ I10 q10) fun vu s11 ⟨yv, H11, I11, r11, H12, sd, nx⟩ =>
          so.set (X := X.blk s3 H3 scope ce fp) rfl rfl hu I11 sd r10 r11 fun s12 I12 => close I12 nx
  exact codeAny_compStart_dict loop (T.self X.A 0 _ _ _ st4 loop)
theorem pe_dcS {S : Hp → Addr → V → V → Hp → Prop} {ob0 : HO} (so : StoreOk X.prog X.w S ob0) {kx vx tg iter : Expr} {ifs : List Expr} {scope : Scope} {own : List (Str × Nat)} {pos : Pos} {wi : TI} {g : TG} {tt : TT} {tk tv : TE} (hc : X.calm = true) (hu : X.A.units + 1 < cLine) (hN : X.N.Nodup)
    (hi : PI X tg iter wi) (ok : BlkOk X.N X.env.scope scope own)
    (hg : ∀ (s : Shared) (H : Hp) (C : Addr) (cl : List (Str × Addr)) (fp : List Addr), PG (X.blk s H scope (compEnvC scope cl C X.env) fp) tg g) (ht : ∀ (s : Shared) (H : Hp) (C : Addr) (cl : List (Str × Addr)) (fp : List Addr), PTs (X.blk s H scope (compEnvC scope cl C X.env) fp) ifs tt)
    (hk : ∀ (s : Shared) (H : Hp) (C : Addr) (cl : List (Str × Addr)) (fp : List Addr), PE (X.blk s H scope (compEnvC scope cl C X.env) fp) kx tk)
    (he : ∀ (s : Shared) (H : Hp) (C : Addr) (cl : List (Str × Addr)) (fp : List Addr), PE (X.blk s H scope (compEnvC scope cl C X.env) fp) vx tv) (hs : ∀ x, foldedSetIterable iter X.env x = pure x := by intro _; rfl) :
    PE X (.DictComp kx vx [⟨tg, iter, ifs, 0⟩] scope pos) (tDcS S ob0 wi g tt tk tv (own.map (·.2))) := by
  refine ⟨fun pins s σ H Q I h => ?_⟩
  rw [arm_eval_DictComp]
  refine dc_coreS so hc hu hN I hi ok hg ht hk he hs h fun D C s' m H' I' q hn f => ⟨m, hn, fun h'' sb => ?_⟩
  obtain ⟨f0, f1, f2, f3, f4, f5⟩ := f
  exact ⟨.ref D, H', I'.turned (t' := s'.toks) (fun b o hb e => (sb.2 b hb).trans e) f0 f1 f3 f4 f5, rfl, q⟩
/-- name = {..}, the name a local -/
theorem ps_setDcS {i : Nat} {y : Str} {py spos : Pos} {S : Hp → Addr → V → V → Hp → Prop} {ob0 : HO} (so : StoreOk X.prog X.w S ob0) {kx vx tg iter : Expr} {ifs : List Expr} {scope : Scope} {own : List (Str × Nat)} {pos : Pos} {wi : TI} {g : TG} {tt : TT} {tk tv : TE} (hc : X.calm = true) (hu : X.A.units + 1 < cLine) (hN : X.N.Nodup) (hy : X.N[i]? = some y) (hyl : X.env.scope.names.lookup y = some .local)
    (hsw : swapsWith (.DictComp kx vx [⟨tg, iter, ifs, 0⟩] scope pos) (some (.Name y py)) spos.line X.env = pure true) (hi : PI X tg iter wi) (ok : BlkOk X.N X.env.scope scope own)
    (hg : ∀ (s : Shared) (H : Hp) (C : Addr) (cl : List (Str × Addr)) (fp : List Addr), PG (X.blk s H scope (compEnvC scope cl C X.env) fp) tg g) (ht : ∀ (s : Shared) (H : Hp) (C : Addr) (cl : List (Str × Addr)) (fp : List Addr), PTs (X.blk s H scope (compEnvC scope cl C X.env) fp) ifs tt)
    (hk : ∀ (s : Shared) (H : Hp) (C : Addr) (cl : List (Str × Addr)) (fp : List Addr), PE (X.blk s H scope (compEnvC scope cl C X.env) fp) kx tk)
    (he : ∀ (s : Shared) (H : Hp) (C : Addr) (cl : List (Str × Addr)) (fp : List Addr), PE (X.blk s H scope (compEnvC scope cl C X.env) fp) vx tv) (hs : ∀ x, foldedSetIterable iter X.env x = pure x := by intro _; rfl) :
    PS X (.Assign [.Name y py] (.DictComp kx vx [⟨tg, iter, ifs, 0⟩] scope pos) spos) (tAsg (tDcS S ob0 wi g tt tk tv (own.map (·.2))) (gName i)) := by
  refine ⟨fun pins s σ H D I h => ?_⟩
  rw [exec_Assign_Name_used _ _ _ _ hsw]
  refine wpAny_bind (wpAny_standAt (wpAny_bind ?_))
  show wpAny _ X.A (do let _ ← comprehension (.DictComp kx vx [⟨tg, iter, ifs, 0⟩] scope pos) scope X.env (firstIterPos [⟨tg, iter, ifs, 0⟩] pos) newDict false (eval iter X.env) (some (assign (.Name y py) X.env))) _ _ s
  have h : tDcS S ob0 wi g tt tk tv (own.map (·.2)) σ H (fun x H1 => gName i x σ H1 D.nx) := h
  refine wpAny_bind (thn (dc_coreS (Qf := fun _ s' => SP X pins D .next s') so hc hu hN I hi ok hg ht hk he hs h fun L C s' m H' I' q hn f => ?_) fun _ s' hq => wpAny_pure (wpAny_pure hq))
  show wpAny _ _ (assign (.Name y py) X.env (.ref L)) _ _ _
  refine wpAny_assign_Name (store_ok2 (v := V.ref L) I' hN hy (.inl hyl) rfl (fun s2 I2 ⟨a, sb, ha⟩ => ?_) (.inr hyl))
  obtain ⟨f0, f1, f2, f3, f4, f5⟩ := f
  have haC : C ≠ a := by
    rcases ha with z | z
    · rw [z]; exact f1
    · exact fun e => f4 y a z e.symm
  refine ⟨m, hn.sameBut sb haC, fun h3 sb3 => ?_⟩
  exact ⟨_, H', I2.turned (t' := s2.toks) (fun b o hb e => (sb3.2 b hb).trans e) f0 f1 f3 f4 f5, q⟩
theorem sw_trueD {kx vx : Expr} {gs : List Comprehension} {scope : Scope} {pos py : Pos} {y : Str} {l : Nat} {env : Env} (hk : env.scope.kind = .function) (hy : env.scope.names.lookup y = some .local) (hl : (py.line == pos.line) = true)
    (ha : (scope.names.any fun (n, k) => n == y && (k == .local || k == .cell)) = false) : swapsWith (.DictComp kx vx gs scope pos) (some (.Name y py)) l env = pure true := by
  have ky : env.kindOf y = some .local := hy
  have hb : env.blockKind = .function := by unfold Env.blockKind; rw [hk]; rfl
  unfold swapsWith
  simp only [hb, ky, ha, Expr.pos, hl]
  rfl
end
end G
/-! My base, part 32: walks of dict comprehensions; a < b < c whose last part has effects. -/
namespace G
open PySem PySem.Spec PyProof.Rows L2 TL
section
variable {J : It} {n : Nat} {Gd : Hp → Prop} {Y : Nat → Hp → V → Hp → Prop} {S : Hp → Addr → V → V → Hp → Prop} {ob0 : HO} {g : TG} {tt : TT} {tk tv : TE} {vs : List Nat} {σ : L2.St} {H1 : Hp} {D : Addr} {Qd : Hp → Prop} {K : PySem.W.Frag}
theorem dS_it (w : Walk J n Gd Y) (Pv : Nat → Hp → Prop) (h0 : Pv 0 (upd H1 D ob0)) (hG : ∀ i H, i ≤ n → Pv i H → Gd H)
    (hs : ∀ i x H H', i < n → Pv i H → Y i H x H' → g x (wipe σ vs) H' fun σ2 H2 => wipe σ2 vs = wipe σ vs ∧ tt σ2 H2 fun b H3 =>
      if b = true then tk σ2 H3 fun y H4 => tv σ2 H4 fun z H5 => ∃ H6, S H5 D y z H6 ∧ Pv (i + 1) H6 else Pv (i + 1) H3) (hd : ∀ H, Pv n H → Qd H) :
    ∃ W : Nat → Nat → Hp → Prop, (∃ m, W 0 m (upd H1 D ob0)) ∧ ∀ i m H, W i m H →
      (J.stop i H ∧ Qd H) ∨ (J.go i H ∧ ∃ Nx : Hp → Prop, (∀ H', Nx H' → ∃ m', m' < m ∧ W (i + 1) m' H') ∧ ∀ x H', J.yld i H x H' → g x (wipe σ vs) H' fun σ2 H2 => wipe σ2 vs = wipe σ vs ∧ tt σ2 H2 fun b H3 =>
        if b = true then tk σ2 H3 fun y H4 => tv σ2 H4 fun z H5 => ∃ H6, S H5 D y z H6 ∧ Nx H6 else Nx H3) := by
  refine ⟨fun i m H => m = n - i ∧ i ≤ n ∧ Pv i H, ⟨n, by simp, Nat.zero_le _, h0⟩, ?_⟩
  rintro i m H ⟨rfl, hi, p⟩
  have q := hG i H hi p
  by_cases hlt : i < n
  · exact .inr ⟨w.goes i H hlt q, Pv (i + 1), fun H' p' => ⟨n - (i + 1), by omega, rfl, hlt, p'⟩, fun x H' y => hs i x H H' hlt p (w.yields i H x H' hlt q y)⟩
  · have e : i = n := by omega
    subst e
    exact .inl ⟨w.stops H q, hd H p⟩
abbrev DcGoal (S : Hp → Addr → V → V → Hp → Prop) (ob0 : HO) (J : It) (g : TG) (tt : TT) (tk tv : TE) (vs : List Nat) (σ : L2.St) (H1 : Hp) (D : Addr) (Qd : Hp → Prop) : Prop :=
    ∃ W : Nat → Nat → Hp → Prop, (∃ m, W 0 m (upd H1 D ob0)) ∧ ∀ i m H, W i m H →
      (J.stop i H ∧ Qd H) ∨ (J.go i H ∧ ∃ Nx : Hp → Prop, (∀ H', Nx H' → ∃ m', m' < m ∧ W (i + 1) m' H') ∧ ∀ x H', J.yld i H x H' → g x (wipe σ vs) H' fun σ2 H2 => wipe σ2 vs = wipe σ vs ∧ tt σ2 H2 fun b H3 =>
        if b = true then tk σ2 H3 fun y H4 => tv σ2 H4 fun z H5 => ∃ H6, S H5 D y z H6 ∧ Nx H6 else Nx H3)
abbrev DcStep (S : Hp → Addr → V → V → Hp → Prop) (g : TG) (tt : TT) (tk tv : TE) (vs : List Nat) (σ : L2.St) (D : Addr) (N : Hp → Prop) (x : V) (H : Hp) : Prop :=
  g x (wipe σ vs) H fun σ2 H2 => wipe σ2 vs = wipe σ vs ∧ tt σ2 H2 fun b H3 => if b = true then tk σ2 H3 fun y H4 => tv σ2 H4 fun z H5 => ∃ H6, S H5 D y z H6 ∧ N H6 else N H3
theorem dS_list {a : Addr} {xs : List V} (Pv : Nat → Hp → Prop) (h0 : Pv 0 (upd H1 D ob0)) (hl : ∀ i H, i ≤ xs.length → Pv i H → SqL K H a xs)
    (hs : ∀ i x H, xs[i]? = some x → Pv i H → DcStep S g tt tk tv vs σ D (Pv (i + 1)) x H) (hd : ∀ H, Pv xs.length H → Qd H) : DcGoal S ob0 (Itl K a) g tt tk tv vs σ H1 D Qd :=
  dS_it walk_list Pv h0 hl (fun i x H H' _ p y => by obtain ⟨e, y⟩ := y; subst e; exact hs i x _ y p) hd
theorem dS_tup {a : Addr} {xs : List V} (Pv : Nat → Hp → Prop) (h0 : Pv 0 (upd H1 D ob0)) (hl : ∀ i H, i ≤ xs.length → Pv i H → SqT K H a xs)
    (hs : ∀ i x H, xs[i]? = some x → Pv i H → DcStep S g tt tk tv vs σ D (Pv (i + 1)) x H) (hd : ∀ H, Pv xs.length H → Qd H) : DcGoal S ob0 (Itt K a) g tt tk tv vs σ H1 D Qd :=
  dS_it walk_tup Pv h0 hl (fun i x H H' _ p y => by obtain ⟨e, y⟩ := y; subst e; exact hs i x _ y p) hd
theorem dS_range {lo : Int} {n : Nat} (Pv : Nat → Hp → Prop) (h0 : Pv 0 (upd H1 D ob0))
    (hs : ∀ i H, i < n → Pv i H → DcStep S g tt tk tv vs σ D (Pv (i + 1)) (.int (lo + i)) H) (hd : ∀ H, Pv n H → Qd H) : DcGoal S ob0 (Itr lo n) g tt tk tv vs σ H1 D Qd :=
  dS_it walk_range Pv h0 (fun _ _ _ _ => trivial) (fun i x H H' hi p y => by obtain ⟨e, y⟩ := y; subst e y; exact hs i _ hi p) hd
theorem dS_zip {a b : Addr} {xs ys : List V} (Pv : Nat → Hp → Prop) (h0 : Pv 0 (upd H1 D ob0)) (hl : ∀ i H, i ≤ min xs.length ys.length → Pv i H → SqL K H a xs ∧ SqL K H b ys)
    (hs : ∀ i x y T H, xs[i]? = some x → ys[i]? = some y → H T = none → Pv i H → DcStep S g tt tk tv vs σ D (Pv (i + 1)) (.ref T) (upd H T (.tup [x, y]))) (hd : ∀ H, Pv (min xs.length ys.length) H → Qd H) : DcGoal S ob0 (Itz K a b) g tt tk tv vs σ H1 D Qd :=
  dS_it (walk_zip rfl) Pv h0 hl (fun i v H H' _ p ⟨T, x, y, e1, e2, e3, e4, e5⟩ => by subst e1 e3; exact hs i x y T H e4 e5 e2 p) hd
theorem dS_enum {a : Addr} {xs : List V} (Pv : Nat → Hp → Prop) (h0 : Pv 0 (upd H1 D ob0)) (hl : ∀ i H, i ≤ xs.length → Pv i H → SqL K H a xs)
    (hs : ∀ i x T H, xs[i]? = some x → H T = none → Pv i H → DcStep S g tt tk tv vs σ D (Pv (i + 1)) (.ref T) (upd H T (.tup [.int (i : Nat), x]))) (hd : ∀ H, Pv xs.length H → Qd H) : DcGoal S ob0 (Ite K a) g tt tk tv vs σ H1 D Qd :=
  dS_it walk_enum Pv h0 hl (fun i v H H' _ p ⟨T, x, y, e1, e2, e3, e4, e5⟩ => by
    subst e1 e3
    cases e4
    exact hs i y T H e5 e2 p) hd
theorem dS_str {z : Str} (Pv : Nat → Hp → Prop) (h0 : Pv 0 (upd H1 D ob0))
    (hs : ∀ i c H, z.cps[i]? = some c → Pv i H → DcStep S g tt tk tv vs σ D (Pv (i + 1)) (.str (sgn c)) H) (hd : ∀ H, Pv z.cps.size H → Qd H) : DcGoal S ob0 (Its z) g tt tk tv vs σ H1 D Qd :=
  dS_it walk_str Pv h0 (fun _ _ _ _ => trivial) (fun i x H H' _ p y => by
    obtain ⟨rfl, c, hc, rfl⟩ := y
    exact hs i c _ hc p) hd
theorem dS_keysT {d : Addr} {o : Obj} {kvs : List (List Key × V)} (Pv : Nat → Hp → Prop) (h0 : Pv 0 (upd H1 D ob0)) (hG : ∀ i H, i ≤ kvs.length → Pv i H → H d = some (.frz o (.dT kvs)))
    (hs : ∀ i k v q H, kvs[i]? = some (k, v) → H q = some (.tup (k.map kV)) → Pv i H → DcStep S g tt tk tv vs σ D (Pv (i + 1)) (.ref q) H) (hd : ∀ H, Pv kvs.length H → Qd H) : DcGoal S ob0 (Itkt d o kvs) g tt tk tv vs σ H1 D Qd :=
  dS_it walk_keysT Pv h0 hG (fun i x H H' hi p ⟨e1, k, v, q, e2, e3, e4⟩ => by subst e1 e3; exact hs i k v q _ e2 e4 p) hd
theorem dS_keysK {d : Addr} {o : Obj} {kvs : List (Key × V)} (Pv : Nat → Hp → Prop) (h0 : Pv 0 (upd H1 D ob0)) (hG : ∀ i H, i ≤ kvs.length → Pv i H → H d = some (.frz o (.dK kvs)))
    (hs : ∀ i k v H, kvs[i]? = some (k, v) → Pv i H → DcStep S g tt tk tv vs σ D (Pv (i + 1)) (kV k) H) (hd : ∀ H, Pv kvs.length H → Qd H) : DcGoal S ob0 (Itk d o kvs) g tt tk tv vs σ H1 D Qd :=
  dS_it walk_keysK Pv h0 hG (fun i x H H' hi p ⟨e1, k, v, e2, e3⟩ => by subst e1 e3; exact hs i k v _ e2 p) hd
theorem dS_itemsT {d : Addr} {o : Obj} {kvs : List (List Key × V)} (Pv : Nat → Hp → Prop) (h0 : Pv 0 (upd H1 D ob0)) (hG : ∀ i H, i ≤ kvs.length → Pv i H → H d = some (.frz o (.dT kvs)))
    (hs : ∀ i k v q T H, kvs[i]? = some (k, v) → H q = some (.tup (k.map kV)) → H T = none → Pv i H → DcStep S g tt tk tv vs σ D (Pv (i + 1)) (.ref T) (upd H T (.tup [.ref q, v]))) (hd : ∀ H, Pv kvs.length H → Qd H) : DcGoal S ob0 (ItiT d o kvs) g tt tk tv vs σ H1 D Qd :=
  dS_it walk_itemsT Pv h0 hG (fun i x H H' hi p ⟨T, k, v, q, e2, e3, e4, e5, e6⟩ => by subst e3 e6; exact hs i k v q T _ e2 e5 e4 p) hd
end
theorem dputAll_snoc {α β : Type} [DecidableEq α] : ∀ (xs : List (α × β)) (D : List (α × β)) (x : α) (y : β), dputAll D (xs ++ [(x, y)]) = dput (dputAll D xs) x y
  | [], _, _, _ => rfl
  | p :: xs, D, x, y => dputAll_snoc xs (dput D p.1 p.2) x y
section
variable {M : Addr → Prop} {F H : Hp} {σ : L2.St} {tc : TE} {r' : R2} {y : V} {Q : VK} {a c : Bool} {P : Hp → Hp → Prop}
theorem chJV (h2 : a = true → ∀ Q : VK, (∀ F' H', Gr M F H F' H' → P F' H' → Q (.bl c) H') → tc σ H fun w' H4 => r' y w' H4 Q) (h3 : a = false → c = false ∧ P F H) (fh : Same F H)
    (q : ∀ F' H', Gr M F H F' H' → P F' H' → Q (.bl c) H') : if a = true then (tc σ H fun w' H4 => r' y w' H4 Q) else Q (.bl false) H :=
  andJV (tb := fun σ H Q => tc σ H fun w' H4 => r' y w' H4 Q) h2 h3 fh q
end
/-- a list of one kind or of another -/
def lenA {α β : Type} : List α ⊕ List β → Nat
  | .inl xs => xs.length
  | .inr ys => ys.length
theorem R.alt_lst {α β : Type} [Enc α] [Enc β] {K : PySem.W.Frag} {F : Hp} {v : V} {x : List α ⊕ List β} (h : R K F v x) : ∃ p ws, v = .ref p ∧ SqL K F p ws ∧ ws.length = lenA x := by
  cases x with
  | inl xs =>
    obtain ⟨p, ws, e, hS, _, hA⟩ := R.lst_v (show R K F v xs from h)
    exact ⟨p, ws, e, hS, RL.len hA⟩
  | inr xs =>
    obtain ⟨p, ws, e, hS, _, hA⟩ := R.lst_v (show R K F v xs from h)
    exact ⟨p, ws, e, hS, RL.len hA⟩
end G
/-! My base, part 33: t[::-1] of tuples; xs.index(x). -/
namespace G
open PySem PySem.Spec PyProof.Rows L2 TL HT
theorem fm_map {α β : Type} {f : α → Option β} {g : α → β} : ∀ {l : List α}, (∀ m ∈ l, f m = some (g m)) → l.filterMap f = l.map g
  | [], _ => rfl
  | x :: l, h => by
    rw [List.filterMap_cons, h x (List.mem_cons_self ..), List.map_cons, fm_map fun m hm => h m (List.mem_cons_of_mem _ hm)]
theorem pick_rev (xs : Array Value) : ((List.range xs.size).filterMap fun (m : Nat) => xs[(((xs.size : Nat) : Int) - 1 + (m : Int) * -1).toNat]?).toArray = xs.toList.reverse.toArray := by
  congr 1
  have e : ∀ m ∈ List.range xs.size, xs[(((xs.size : Nat) : Int) - 1 + (m : Int) * -1).toNat]? = some ((xs.toList.reverse)[m]?.getD .none) := fun m hm => by
    have hm := List.mem_range.mp hm
    have e1 : (((xs.size : Nat) : Int) - 1 + (m : Int) * -1).toNat = xs.size - 1 - m := by omega
    rw [e1, List.getElem?_reverse (by rw [Array.length_toList]; exact hm), Array.length_toList, Array.getElem?_toList, Array.getElem?_eq_getElem (by omega)]
    rfl
  rw [fm_map e]
  refine List.ext_getElem? fun i => ?_
  rw [List.getElem?_map]
  by_cases c : i < xs.size
  · rw [List.getElem?_range c]
    have : i < xs.toList.reverse.length := by rw [List.length_reverse, Array.length_toList]; exact c
    rw [Option.map_some, List.getElem?_eq_getElem this, Option.getD_some]
  · rw [List.getElem?_eq_none (by rw [List.length_range]; omega), List.getElem?_eq_none (by rw [List.length_reverse, Array.length_toList]; omega)]
    rfl
section
variable {prog : Program} {w : World} {A : Around} {E : Value → Shared → Prop} {s : Shared}
theorem adjust_rev (n : Nat) : Builtin.Slice.sliceAdjust none none (-1) (n : Int) = (((n : Nat) : Int) - 1, -1) := by
  unfold Builtin.Slice.sliceAdjust
  simp
theorem places_rev (n : Nat) : Builtin.Slice.slicePlaces (((n : Nat) : Int) - 1) (-1) (-1) = n := by
  unfold Builtin.Slice.slicePlaces
  rw [if_neg (by decide)]
  split <;> simp <;> omega
theorem sliceApplied_rev {sl : Addr} {vl vu vs : Value} {n : Nat} {Q : Int × Int × Nat → Shared → Prop} (hs : s.heap.IsSliceOf sl vl vu vs) (pl : IsPart vl none) (pu : IsPart vu none) (ps : IsPart vs (some (-1)))
    (h : Q (((n : Nat) : Int) - 1, -1, n) s) : wpAny (model prog w) A (Builtin.Slice.sliceApplied (.ref sl) (pure (n : Int))) Q E s := by
  obtain ⟨os, hos, hcs, hds⟩ := id hs
  unfold Builtin.Slice.sliceApplied Builtin.Slice.sliceFields
  refine wpAny_bind (wpAny_bind (wpAny_field hos hds (x := vl) rfl (wpAny_bind (wpAny_field hos hds (x := vu) rfl (wpAny_bind (wpAny_field hos hds (x := vs) rfl (wpAny_pure ?_)))))))
  refine wpAny_bind (slicePart_ ps ?_)
  show wpAny _ _ (if ((-1 : Int) == 0) = true then _ else _) _ _ s
  rw [if_neg (by decide)]
  refine wpAny_bind (slicePart_ pl (wpAny_bind (slicePart_ pu (wpAny_bind (wpAny_pure ?_)))))
  show wpAny _ _ (match Builtin.Slice.sliceAdjust none none (-1) (n : Int) with | (lo, hi) => pure (lo, (-1 : Int), Builtin.Slice.slicePlaces lo hi (-1))) _ _ s
  rw [adjust_rev n]
  show wpAny _ _ (pure (((n : Nat) : Int) - 1, (-1 : Int), Builtin.Slice.slicePlaces (((n : Nat) : Int) - 1) (-1) (-1))) _ _ s
  rw [places_rev]
  exact wpAny_pure h
theorem getItem_tuple_rev {t sl : Addr} {items : Array Value} {vl vu vs : Value} {Q : Value → Shared → Prop} (ht : IsTup s.heap t items) (hs : s.heap.IsSliceOf sl vl vu vs) (pl : IsPart vl none) (pu : IsPart vu none) (ps : IsPart vs (some (-1)))
    (h : Q (.ref s.heap.objs.size) { s with heap := s.heap.push { cls := .type "tuple", data := .seq items.toList.reverse.toArray } })
    (hsz : items.size ≤ sizeLine) : wpAny (model prog w) A (getItem (.ref t) (.ref sl)) Q E s := by
  have htake : sizeOk (.seq items.toList.reverse.toArray) := by
    show items.toList.reverse.toArray.size ≤ sizeLine
    rw [List.size_toArray, List.length_reverse, Array.length_toList]
    exact hsz
  obtain ⟨os, hos, hcs, hds⟩ := id hs
  have hTs : s.TypeIs (.ref sl) "slice" := ⟨os, hos, hcs⟩
  unfold getItem
  try with_reducible refine wpAny_holding ?_
  first | refine wpAny_bind (wpAny_pure ?_) | skip
  refine wpAny_bind (wpAny_sequenceKey ht.typeIs (by decide) ?_)
  refine wpAny_bind (wpAny_callSpecial?_slot (name := Str.ofString "__getitem__") ht.typeIs PyProof.Rows.slot_tuple_getitem
    (wpAny_call_entry PyProof.Rows.slot_tuple_getitem ht.typeIs entry_tuple_getitem ?_ (args_tuple_getitem _ _)))
  show wpAny _ _ (Builtin.Tuple.tupleItemsOf (.ref t) >>= _) _ _ s
  refine wpAny_bind (tupleItemsOf_ ht ?_)
  refine wpAny_bind (wpAny_typeOf hTs ?_)
  rw [if_pos (by decide)]
  refine wpAny_bind (sliceApplied_rev hs pl pu ps ?_)
  have hno : ¬ ((((items.size : Nat) : Int) - 1 == 0 && (-1 : Int) == 1 && items.size == items.size) = true) := by
    intro q
    rw [Bool.and_eq_true, Bool.and_eq_true] at q
    exact absurd (eq_of_beq q.1.2) (by decide)
  show wpAny _ _ (if (((items.size : Nat) : Int) - 1 == 0 && (-1 : Int) == 1 && items.size == items.size) = true then _ else _) _ _ s
  rw [if_neg hno, pick_rev]
  first
    | exact wpAny_bind (m := Builtin.Tuple.tupleExact _) (wpAny_newObj_type (wpAny_pure ⟨_, rfl, wpAny_pure h⟩) htake)
    | exact wpAny_bind (m := Builtin.Tuple.tupleExact _) (wpAny_newObj_type (wpAny_bind (wpAny_pure (wpAny_pure ⟨_, rfl, wpAny_pure h⟩))) htake)
end
def tRevT (K : PySem.W.Frag) (te : TE) : TE := fun σ H Q => te σ H fun x H1 => ∃ a xs, x = .ref a ∧ SqT K H1 a xs ∧ ∀ p, H1 p = none → Q (.ref p) (upd H1 p (.tup xs.reverse))
theorem pe_revT {X : Cx} {e : Expr} {te : TE} {k : Nat} {p1 p2 p3 pos : Pos} (he : PE X e te) : PE X (.Subscript e (.Slice none none (some (.UnaryOp .USub (.Constant (.int 1) k p1) p2)) p3) pos) (tRevT X.K te) := by
  refine ⟨fun pins s σ H Q I h => ?_⟩
  refine Subscript_ (thn (he.run pins s σ H _ I h) fun v s1 ⟨x, H1, I1, r1, q1⟩ => ?_)
  obtain ⟨a, xs, ex, hx, q⟩ := q1
  subst ex
  cases r1
  have hst : PO X (some (.UnaryOp .USub (.Constant (.int 1) k p1) p2)) (tPart (tUn (rU fun i => .int (-i)) (tC (.int 1)))) := po_some (pe_un un_neg pe_int)
  refine wpAny_Slice (thn (po_none.run pins s1 σ H1 (fun o H2 => o = none ∧ H2 = H1) I1 ⟨rfl, rfl⟩) fun vl s2 ⟨l, H2, I2, pl, el, e2⟩ => ?_)
  subst el e2
  refine thn (po_none.run pins s2 σ H2 (fun o H3 => o = none ∧ H3 = H2) I2 ⟨rfl, rfl⟩) fun vu s3 ⟨u, H3, I3, pu, eu, e3⟩ => ?_
  subst eu e3
  refine thn (hst.run pins s3 σ H3 (fun o H4 => o = some (-1) ∧ H4 = H3) I3 ⟨1, rfl, -1, rfl, rfl, rfl⟩) fun vs s4 ⟨o, H4, I4, ps, eo, e4⟩ => ?_
  subst eo e4
  have I5 : Inv X pins σ H4 { s4 with heap := s4.heap.push { cls := .type "slice", data := .fields #[vl, vu, vs] } } := I4.kept (t' := s4.toks) fun b ob q => Heap.get?_push_of_some _ q
  obtain ⟨its, r, ht, hz⟩ := I5.tuple hx
  have hlen := r.length
  show wpAny (model X.prog X.w) X.A (subscriptTail e (.Slice none none (some (.UnaryOp .USub (.Constant (.int 1) k p1) p2)) p3) (.ref a) (.ref s4.heap.objs.size)) (EP X pins σ Q) X.xe { s4 with heap := s4.heap.push { cls := .type "slice", data := .fields #[vl, vu, vs] } }
  refine tail_any (ops := [.ref a, .ref s4.heap.objs.size]) ht.typeIs PyProof.Rows.slot_tuple_getitem.lookup ?_ (by with_unfolding_all rfl)
  refine getItem_tuple_rev ht (Heap.IsSliceOf.new _ vl vu vs) pl pu ps ?_ (by rw [List.size_toArray]; omega)
  refine ⟨.ref _, _, I5.laid (t' := s4.toks) (o := .tup xs.reverse) (fun b ob q => Heap.get?_push_of_some _ q) (Nat.le_refl _) ?_, rfl, q _ (I5.hok.fresh (Nat.le_refl _))⟩
  exact ⟨by rw [List.length_reverse]; exact hz, _, r.reverse, IsTup.new _ _⟩
theorem pe_revTK {X : Cx} {K : PySem.W.Frag} {e : Expr} {te : TE} {k : Nat} {p1 p2 p3 pos : Pos} (he : PE X e te) (h : X.K = K := by rfl) : PE X (.Subscript e (.Slice none none (some (.UnaryOp .USub (.Constant (.int 1) k p1) p2)) p3) pos) (tRevT K te) := by
  subst h; exact pe_revT he
/-! ### xs.index(x) -/
def idxN {α : Type} [Enc α] (xs : List α) (x : α) : Option Nat := xs.findIdx? fun y => eqD y x
def idxO {α : Type} [Enc α] (xs : List α) (x : α) : Option Int := (idxN xs x).map fun j => ((j : Nat) : Int)
theorem idxO_ok {α : Type} [Enc α] {xs : List α} {x : α} {r : Int} (h : idxO xs x = some r) : ∃ j, idxN xs x = some j ∧ ((j : Nat) : Int) = r := Option.map_eq_some_iff.mp h
def rIdx (α : Type) [Enc α] (K : PySem.W.Frag) : V → List V → Hp → VK → Prop := fun x ys H Q => ∃ (y : V) (xs : List α) (z : α) (j : Nat), ys = [y] ∧ R K H x xs ∧ R K H y z ∧ idxN xs z = some j ∧ Q (.int (j : Nat)) H
theorem mt_idx {α : Type} [Enc α] [Dep α] {X : Cx} (hd : Dep.n α ≤ 60) (hu : X.A.units + 65 < cLine) : MtR X "list.index" (rIdx α X.K) := by
  intro pins s σ H x xs v us Q I rx rxs h
  obtain ⟨y, l, z, j, rfl, hx, hy, hj, q⟩ := h
  obtain ⟨a, ws, rfl, hS, hl, hA⟩ := R.lst_v hx
  obtain ⟨h1, h2, h3⟩ := List.findIdx?_eq_some_iff_getElem.mp hj
  refine mt_indexD hu pins s σ H _ _ v us Q I rx rxs ⟨a, y, Enc.d z, l.map Enc.d, j, Enc.d l[j], rfl, rfl, Rp.dp _ _ hx, Rp.dp _ _ hy, ?_, R.shaped hy (by omega), ?_, h2, fun m z' hm hz' => ?_, q⟩
  · exact Bool.and_eq_true_iff.mpr ⟨Rp.lay _ _ hx, decide_eq_true (Nat.le_trans (Dep.le l) (by show Dep.n α + 1 ≤ 64; omega))⟩
  · rw [List.getElem?_map, List.getElem?_eq_getElem h1]; rfl
  · have hml : m < l.length := by omega
    rw [List.getElem?_map, List.getElem?_eq_getElem hml] at hz'
    rw [← Option.some.inj hz']
    have := h3 m hm
    exact Bool.eq_false_iff.mpr this
theorem mt_idxK {α : Type} [Enc α] [Dep α] {X : Cx} {K : PySem.W.Frag} (hu : X.A.units + 65 < cLine) (hd : Dep.n α ≤ 60 := by decide) (h : X.K = K := by rfl) : MtR X "list.index" (rIdx α K) := by subst h; exact mt_idx hd hu
end G
/-! My base, part 34: defs that run where nothing is being shown (no guards around them); repr of data; how the law's call begins there. -/
namespace G
open PySem PySem.Spec PyProof.Rows L2 TL
/-- a promise that is kept where no guard stands around -/
structure GnOk (P : Program) (w : World) (K : PySem.W.Frag) (mg : Str → Option Value) (base : Heap) (cx : CXT) (k : Nat) (f : Addr) (fd : FuncData) (ps : List Str) (sp : Sp) : Prop where
  ln : ∀ xs Hx Qx Ex, sp xs Hx Qx Ex → xs.length = ps.length
  go : ∀ (Ar : Around) (out : List Env) (sh : Shared) (Hx : Hp) (args : Args) (us : List Value) (xs : List V) (Qx : VK) (Ex : XK), Room k Ar → Ar.guards = some [] → Env0 P w K mg base Ar out sh Hx →
    BindsTo sh fd args (ps.zip us) → Vals xs us → sp xs Hx Qx Ex → codeAny (model P w) Ar (.call (.ref f) args) (CR cx out P w Hx sh Qx Ex) sh
theorem GnOk.of {P : Program} {w : World} {K : PySem.W.Frag} {mg : Str → Option Value} {base : Heap} {cx : CXT} {k : Nat} {f : Addr} {fd : FuncData} {ps : List Str} {sp : Sp} (F : FnOk P w K mg base cx k f fd ps sp) : GnOk P w K mg base cx k f fd ps sp :=
  ⟨F.len, fun Ar out sh Hx args us xs Qx Ex hr _ => F.run Ar out sh Hx args us xs Qx Ex hr⟩
section
variable {P : Program} {w : World} {K : PySem.W.Frag} {mg : Str → Option Value} {base : Heap} {x qual : Str} {params : Arguments} {body : List Stmt} {scope : Scope} {f : Addr} {fd : FuncData}
theorem fd_okG {N ps : List Str} {k : Nat} {sp : Sp} (F : FunD K x qual params body scope [] [] f fd) (S : FnScope N ps scope) (len : ∀ vs H Q E, sp vs H Q E → vs.length = ps.length)
    (hbody : ∀ (cdv : Value) (A : Around) (outer : List Env) (s : Shared) (H : Hp) (vs : List V) (Q : VK) (E : XK), Room k (A.deeper (envOfC qual scope s.heap.objs.size f cdv)) → (A.deeper (envOfC qual scope s.heap.objs.size f cdv)).guards = some [] → sp vs H Q E →
      ∃ t, PSs (cxOf CX0 P w K mg base N qual scope f cdv A outer s H E).nox body t ∧ t { nx := fun _ H' => Q .non H', rt := Q } (start N vs) H) : GnOk P w K mg base CX0 (k + 1) f fd ps sp := by
  obtain ⟨oc, od, dV, kV, doc, pm, an, cdv, ct, osl, rfl, lk, hcd, _, _⟩ := F.ex
  refine ⟨len, fun Ar out sh Hx args us xs Qx Ex hr hgd e0 hb rel hsp => ?_⟩
  have lenE := len _ _ _ _ hsp
  have kin0 : K.In sh.heap := e0.mod.kin.keeps fun a ob q => (e0.bs a ob q).1
  have lim0 : sh.heap.NoLimit := e0.mod.nolimit.keeps fun a ob q => (e0.bs a ob q).1
  have kinds : ∀ z ∈ ps.zip us, scope.names.lookup z.1 = some .local ∨ (scope.names.lookup z.1 = some .cell ∧ ((cellsFrom (sh.heap.objs.size + 1) scope.names []).lookup z.1).isSome = true) := fun ⟨m, u⟩ hz =>
    (S.par m (List.of_mem_zip hz).1).elim .inl fun c => .inr ⟨c, PySem.W.cellsFrom_some _ _ _ (.inl c)⟩
  refine codeAny_call_function hr.depth (kin0 _ _ lk) rfl S.co S.gen rfl (PySem.W.codeRec_of kin0 hcd) (hb _ _ _ _ (wpAny_newFunctionEnv_cells S.kind kinds fun en hen s1 inc => ?_))
  subst hen
  refine ⟨lim0.keeps inc.toInCall.keep, codeAny_func ?_⟩
  obtain ⟨t, ht, hq⟩ := hbody cdv Ar out sh Hx xs Qx Ex (hr.deeper _) hgd hsp
  have I0 : Inv (cxOf CX0 P w K mg base N qual scope f cdv Ar out sh Hx Ex) [] (start N xs) Hx s1 := inv_start S hr.hd e0 lenE rel inc
  refine wpAny_mono (ht.nox.run [] s1 (start N xs) Hx _ I0 hq) (fun fl s2 hs => ?_) fun e s2 hs => hs
  have close : ∀ {σ2 : L2.St} {H2 : Hp} {v : V} {u : Value}, Inv (cxOf CX0 P w K mg base N qual scope f cdv Ar out sh Hx Ex) [] σ2 H2 s2 → RelV v u → Qx v H2 → CE out P w Hx sh Qx u s2 :=
    fun {σ2 H2 v u} J rv qv => ⟨v, H2, J.os, J.bare, J.base, J.hok, rv, qv⟩
  match fl, hs with
  | .ret u, ⟨v, σ2, H2, J, rv, qv⟩ => exact close J rv qv
  | .next, ⟨σ2, H2, J, qv⟩ => exact close (v := V.non) (u := Value.none) J rfl qv
  | .brk, ⟨_, _, _, qv⟩ => exact False.elim qv
  | .cont, ⟨_, _, _, qv⟩ => exact False.elim qv
end
section
variable {X : Cx} {cx : CXT} {k : Nat} {f : Addr} {fd : FuncData} {ps : List Str} {sp : Sp} {dvs : List V} {ds : List Value} {E : XK} {x : Str} {p pos : Pos} {e : Expr} {es : List Expr} {t : TA}
theorem pe_callG (F : GnOk X.prog X.w X.K X.mg X.base cx k f fd ps sp) (hgd : X.A.guards = some []) (hr : Room k X.A) (hg : Gl X x) (hm : X.mg x = some (.ref f)) (hk : PySem.W.keepIn X.K (.ref f) = true) (hb : Binds X.K fd ps ds) (hd : Vals dvs ds) (hx : Passes cx X E)
    (ha : PA X (e :: es) t) (hdb : (x == ("__debug__" : Str)) = false := by decide) (he : starEach (e :: es) X.env = (false, eval e X.env) :: starEach es X.env := by rfl) (hpl : (backTo pos (starEach es X.env)).any (·.1) = false := by rfl) :
    PE X (.Call (.Name x p) (e :: es) [] pos) (tCall sp dvs E t) := by
  refine ⟨fun pins s σ H Q I h => wpAny_Call_Name_kw (ld_glob I hg hm ?_ hdb)⟩
  refine PySem.W.callWith_K (h₀ := X.base) I.ok.mod.kin hk (thn (ha.run pos pins s σ H _ I h) fun us s1 ⟨vs, H1, I1, r, q⟩ => ⟨I1.kIn, ?_⟩) he hpl
  have rel : Vals (vs ++ dvs) (us ++ ds) := r.append hd
  have lenU : (us ++ ds).length = ps.length := by rw [← rel.length]; exact F.ln _ _ _ _ q
  refine wpAny_call (codeAny_mono (F.go X.A X.stack s1 H1 ⟨us, []⟩ (us ++ ds) (vs ++ dvs) Q E hr hgd I1.env0 (hb s1 us I1.kIn lenU) rel q) fun res s2 hq => ?_)
  match res, hq with
  | .error ev, hq => exact hx pins σ H1 s1 ev s2 I1 hq
  | .ok (.ret u), hq => exact I1.after hq
  | .ok .next, hq => exact False.elim hq
  | .ok .brk, hq => exact False.elim hq
  | .ok .cont, hq => exact False.elim hq
end
/-! ### repr of data -/
section
variable {K : PySem.W.Frag} {F : Hp}
mutual
theorem Rp.nodict : ∀ (d : PyData) (v : V), Rp K F v d → d.hasDict = false
  | .none, _, _ => rfl
  | .bool b, _, _ => rfl
  | .int i, _, _ => rfl
  | .str x, _, _ => rfl
  | .list ds, _, h => by cases h with | lst hs hl ha => exact RpA.nodict ds _ ha
  | .tuple ds, _, h => by cases h with | tup hs hl ha => exact RpA.nodict ds _ ha
  | .dict _, _, h => by cases h
theorem RpA.nodict : ∀ (ds : List PyData) (vs : List V), RpA K F vs ds → PyData.hasDictAll ds = false
  | [], _, _ => rfl
  | d :: ds, _, h => by
    cases h with
    | cons h1 h2 =>
      show (d.hasDict || PyData.hasDictAll ds) = false
      rw [Rp.nodict d _ h1, RpA.nodict ds _ h2]
      rfl
end
end
/-- the text that is shown of a thing -/
def reprO {α : Type} [Enc α] (x : α) : Option Str := if (Enc.d x).showable = true ∧ (Enc.d x).shown.length ≤ sizeLine then some (Enc.d x).shown else none
theorem reprO_ok {α : Type} [Enc α] {x : α} {r : Str} (h : reprO x = some r) : ((Enc.d x).showable = true ∧ (Enc.d x).shown.length ≤ sizeLine) ∧ (Enc.d x).shown = r := by
  unfold reprO at h
  split at h
  · next c => exact ⟨c, Option.some.inj h⟩
  · cases h
def rReprD (α : Type) [Enc α] (K : PySem.W.Frag) : List V → Hp → VK → Prop := fun xs H Q => ∃ (p : Addr) (x : α), xs = [.ref p] ∧ R K H (.ref p) x ∧ ((Enc.d x).showable = true ∧ (Enc.d x).shown.length ≤ sizeLine) ∧ Q (.str (Enc.d x).shown) H
theorem call_reprD {α : Type} [Enc α] [Dep α] {X : Cx} (hgd : X.A.guards = some []) (hu : X.A.units + 65 < cLine) (hd : Dep.n α ≤ 60) : CallR X (.builtin "repr") (rReprD α X.K) := by
  intro pins s σ H xs us Q I r h
  obtain ⟨p, x, rfl, hx, ⟨sh, sz⟩, q⟩ := h
  obtain ⟨u, rfl, ru⟩ := vals1 r
  obtain rfl : u = Value.ref p := ru
  obtain ⟨as, rd⟩ := Dp.reads I _ _ _ (Rp.dp _ _ hx) rfl
  have dp := Dep.le x
  exact repr_of_reads' rd sh (fun z => by rw [Rp.nodict _ _ hx] at z; cases z) hgd (by omega) (fun _ _ e => e) (fun h' u tk hk => ⟨.str _, H, I.kept hk, ⟨u, rfl⟩, q⟩) sz
theorem call_reprDK {α : Type} [Enc α] [Dep α] {X : Cx} {K : PySem.W.Frag} (hgd : X.A.guards = some []) (hu : X.A.units + 65 < cLine) (hd : Dep.n α ≤ 60 := by decide) (h : X.K = K := by rfl) : CallR X (.builtin "repr") (rReprD α K) := by subst h; exact call_reprD hgd hu hd
/-! ### the law's own call -/
theorem law_begin {P : Program} {w : World} {K : PySem.W.Frag} {mg mb : Str → Option Value} {k : Nat} {fa a : Addr} {fd : FuncData} {x : Str} {sp : Sp} {s₁ : Shared} {vs : List Value} {ns : List Int}
    (kin : K.In s₁.heap) (nsm : s₁.heap.Ns mainGlobals mg) (nsb : s₁.heap.Ns builtinsNs mb) (boot : ∀ y : Str, y ≠ "__name__" → mb y = bootBuiltins y) (lim : s₁.heap.NoLimit) (nog : s₁.gens = #[])
    (scr : s₁.heap.get? a = some { cls := .type "list", data := .seq vs.toArray }) (sInts : IntsAre vs ns) (few : ns.length ≤ sizeLine) (room : Room k callerA)
    (F : ∀ base : Heap, K.In base → base.Ns mainGlobals mg → GnOk P w K mg base CX0 k fa fd [x] sp) (hbind : ∀ (s : Shared) (u : Value), BindsTo s fd ⟨[u], []⟩ [(x, u)])
    (hsp : ∀ H : Hp, Only H → SqL K H a (ns.map V.int) → sp [.ref a] H (fun v _ => v = .bl true) fun _ _ _ => False) :
    codeAny (model P w) callerA (.call (.ref fa) ⟨[.ref a], []⟩) (fun r s' => r = .ok (.ret (.bool true)) ∧ OldK s₁.heap s'.heap ∧ s'.os = s₁.os ∧ AllBare s'.gens) s₁ := by
  -- whatever is told of the script ahead
  have from_ : ∀ Hx : Hp, Only Hx → SqL K Hx a (ns.map V.int) → HOk P w Hx s₁.heap → (∀ b, Hx b ≠ none → b = a) → (Hx a ≠ none → K.lookup a = none) →
      codeAny (model P w) callerA (.call (.ref fa) ⟨[.ref a], []⟩) (fun r s' => r = .ok (.ret (.bool true)) ∧ OldK s₁.heap s'.heap ∧ s'.os = s₁.os ∧ AllBare s'.gens) s₁ := by
    intro Hx only seq ok one notK
    have hidden : ∀ {b : Addr} {ob : Obj}, s₁.heap.get? b = some ob → Hx b = none → (hidT s₁.heap Hx).get? b = some ob := fun q n => hidT_get q n
    have nodict : ∀ {b : Addr} {ob : Obj} {es : Array DictEntry} {ep : Nat}, s₁.heap.get? b = some ob → ob.data = .dict es ep → Hx b = none := fun {b ob es ep} q dd => Classical.byContradiction fun ne => by
      obtain rfl := one b ne
      rw [scr] at q
      cases q
      have z : Data.seq vs.toArray _ = Data.dict es ep := dd
      cases z
    have keepNs : ∀ {b : Addr} {m : Str → Option Value}, s₁.heap.Ns b m → (hidT s₁.heap Hx).Ns b m := fun {b m} ⟨ob, es, ep, q, dd, rr⟩ => ⟨ob, es, ep, hidden q (nodict q dd), dd, rr⟩
    have kinH : K.In (hidT s₁.heap Hx) := fun b ob q => hidden (kin b ob q) (Classical.byContradiction fun ne => by
      obtain rfl := one b ne
      rw [notK ne] at q
      cases q)
    have modH : Mod K mg (hidT s₁.heap Hx) := ⟨kinH, keepNs nsm, ⟨mb, keepNs nsb, boot⟩, let ⟨mc, z1, z2⟩ := lim; ⟨mc, keepNs z1, z2⟩⟩
    have env : Env0 P w K mg (hidT s₁.heap Hx) callerA [] s₁ Hx := ⟨rfl, modH, fun b ob q => of_hidT q, Nat.le_of_eq (hidT_size _ _), trivial, fun b hb => (List.not_mem_nil (show b ∈ ([] : List Addr) from hb)).elim, ok, .of_eq nog⟩
    refine codeAny_mono ((F _ kinH (keepNs nsm)).go callerA [] s₁ Hx ⟨[.ref a], []⟩ [.ref a] [.ref a] _ _ room rfl env (hbind s₁ (.ref a)) (.cons rfl .nil) (hsp Hx only seq)) fun res s2 hq => ?_
    match res, hq with
    | .error ev, hq => exact hq.elim
    | .ok .next, hq => exact False.elim hq
    | .ok .brk, hq => exact False.elim hq
    | .ok .cont, hq => exact False.elim hq
    | .ok (.ret u), ⟨v, H2, os2, bare2, un2, ok2, rel2, tv⟩ =>
      have tv2 : v = .bl true := tv
      subst tv2
      obtain rfl : u = Value.bool true := rel2
      refine ⟨rfl, OldK.of_keep fun b ob q => ?_, os2, bare2⟩
      rcases only b with z | ⟨ob2, xs, z⟩
      · exact un2.keep b ob q z (fun y => List.not_mem_nil (show b ∈ ([] : List Addr) from y)) (by simp)
      · have z2 := un2.frzs b ob2 _ z
        obtain ⟨e1, _⟩ := ok b _ z
        obtain ⟨e2, _⟩ := ok2 b _ z2
        rw [q] at e1
        cases e1
        exact e2
  have rel := vals_ints sInts
  have lenV := sInts.length
  cases hk : K.lookup a with
  | some ob =>
    have e := kin a ob hk
    rw [scr] at e
    cases e
    exact from_ (fun _ => none) (fun _ => .inl rfl) (.inr ⟨_, vs.toArray, _, hk, rfl, rfl, rfl, by rw [List.size_toArray, lenV]; exact few, by simpa using rel⟩) (fun b u z => by cases (show (none : Option HO) = some u from z)) (fun b z => absurd rfl z) fun z => absurd rfl z
  | none =>
    let one : Hp := fun b => if b = a then some (.frz { cls := .type "list", data := .seq vs.toArray } (.lst (ns.map V.int))) else none
    have at_ : one a = some (.frz { cls := .type "list", data := .seq vs.toArray } (.lst (ns.map V.int))) := if_pos rfl
    have off : ∀ b, b ≠ a → one b = none := fun b hb => if_neg hb
    refine from_ one (fun b => ?_) (.inl (.inr ⟨_, at_⟩)) (fun b u z => ?_) (fun b z => Classical.byContradiction fun ne => z (off b ne)) fun _ => hk
    · by_cases hb : b = a
      · exact .inr ⟨_, _, by rw [hb]; exact at_⟩
      · exact .inl (off b hb)
    · by_cases hb : b = a
      · subst hb
        rw [at_] at z
        cases z
        exact ⟨scr, by rw [List.length_map]; exact few, vs, _, rel, scr⟩
      · rw [off b hb] at z
        cases z
theorem walk_ofG {l : PySem.W.OpenLaw} {n k : Nat} {q : Program} {loose : List Str} {XP : (Str → Option Value) → Heap → Prop} {YP : World → Heap → Prop} {d : DefRec} {x : Str}
    (hn : l.most = some n) (hn2 : n ≤ sizeLine) (hdf : d.params.defaults = []) (room : Room k callerA)
    (F : ∀ (w : World) (mg : Str → Option Value) (fa : Addr) (hp : Heap), YP w hp → hp.Ns mainGlobals mg → mg d.name = some (.ref fa) →
      ∃ (K : PySem.W.Frag) (fd : FuncData) (sp : Sp), K.In hp ∧ (∀ (sh : Shared) (u : Value), BindsTo sh fd ⟨[u], []⟩ [(x, u)]) ∧
        (∀ (Hx : Hp) (a : Addr) (ns : List Int), ns.length ≤ n → Only Hx → SqL K Hx a (ns.map V.int) → sp [.ref a] Hx (fun v _ => v = .bl true) fun _ _ _ => False) ∧
        ∀ base : Heap, K.In base → base.Ns mainGlobals mg → GnOk l.prog w K mg base CX0 k fa fd [x] sp) :
    PySem.W.WalkO q loose XP YP l.row.toRowW d [] (fun f vs => PySem.call f vs) := by
  refine Att.attach_call hn hdf fun w s0 s1 mg mb fa ob pm cd doc a vs ns Gr_ Y _ _ _ hmg scr sInts few nog => ?_
  obtain ⟨K, fd, sp, kin, hb, hsp, hF⟩ := F w mg fa _ Y Gr_.T.g hmg
  exact law_begin kin Gr_.T.g Gr_.T.b Gr_.T.builtins Gr_.T.nolimit nog scr sInts (Nat.le_trans few hn2) room hF hb fun Hx hO hS => hsp Hx a ns few hO hS
end G
/-! My base, part 35: repr of data as the generator wants it. -/
namespace G
open PySem PySem.Spec PyProof.Rows L2 TL
def rReprO (α : Type) [Enc α] (K : PySem.W.Frag) : List V → Hp → VK → Prop := fun xs H Q => ∃ (p : Addr) (x : α) (t : Str), xs = [.ref p] ∧ R K H (.ref p) x ∧ reprO x = some t ∧ Q (.str t) H
theorem call_reprOK {α : Type} [Enc α] [Dep α] {X : Cx} {k : Nat} {K : PySem.W.Frag} (hgd : X.A.guards = some []) (hr : Room k X.A) (hd : Dep.n α ≤ 60 := by decide) (h : X.K = K := by rfl) : CallR X (.builtin "repr") (rReprO α K) := by
  subst h
  intro pins s σ H xs us Q I r h
  obtain ⟨p, x, t, rfl, hx, e, q⟩ := h
  obtain ⟨⟨h1, h2⟩, h3⟩ := reprO_ok e
  exact call_reprD (α := α) hgd (by have := hr.un; omega) hd pins s σ H _ us Q I r ⟨p, x, rfl, hx, ⟨h1, h2⟩, by rw [h3]; exact q⟩
section
variable {α β : Type} [Enc α] [Enc β] {K : PySem.W.Frag} {F : Hp} {ws : List V}
theorem RL.some {xs : List α} (h : RL K F ws xs) : RL K F ws (xs.map Option.some) := by
  show RpA K F ws _
  rw [List.map_map]
  exact h
theorem RL.inl {xs : List α} (h : RL K F ws xs) : RL K F ws (xs.map (Sum.inl : α → α ⊕ β)) := by
  show RpA K F ws _
  rw [List.map_map]
  exact h
end
/-! ### a list of lists of one's own is changed no more -/
section
variable {M : Addr → Prop} {F0 H0 F H F' : Hp} {f p q : Addr} {K : PySem.W.Frag} {rows : List (Addr × List V)} {ws : List V} {ob : HO}
theorem Nest.settle {α : Type} [Enc α] {xs : List (List α)} (w : Nest H0 F H f rows) (hA : RN K F rows xs) (g : Gr M F0 H0 F H) :
    ∃ F', Gr M F0 H0 F' H ∧ Same F F' ∧ Ow H0 F' H f (refsN rows) ∧ RL K F' (refsN rows) xs ∧ (∀ q, (∀ r ∈ rows, r.1 ≠ q) → F' q = F q) := by
  let F' : Hp := fun a => if a ∈ rows.map (·.1) then H a else F a
  have off : ∀ q, (∀ r ∈ rows, r.1 ≠ q) → F' q = F q := fun q h => if_neg fun m => by
    obtain ⟨r, hr, e⟩ := List.mem_map.mp m
    exact h r hr e
  have on : ∀ r ∈ rows, F' r.1 = H r.1 := fun r hr => if_pos (List.mem_map.mpr ⟨r, hr, rfl⟩)
  have cs : ∀ a, (∃ r ∈ rows, r.1 = a) ∨ F' a = F a := fun a => by
    by_cases h : a ∈ rows.map (·.1)
    · obtain ⟨r, hr, e⟩ := List.mem_map.mp h
      exact .inl ⟨r, hr, e⟩
    · exact .inr (if_neg h)
  have sm : Same F F' := fun b u e => by
    rcases cs b with ⟨r, hr, rfl⟩ | h
    · rw [w.rF r hr] at e; cases e
    · rw [h]; exact e
  have hF : ∀ j (r : Addr × List V), rows[j]? = some r → ∀ x : List α, RL K F r.2 x → r.2.length ≤ sizeLine → R K F' (.ref r.1) x := fun j r hj x h1 h2 => by
    have hr := List.mem_of_getElem? hj
    exact R.mkl (.inl (.inl ((on r hr).trans (w.rh r hr)))) h2 (RpA.up h1 sm)
  refine ⟨F', ⟨fun b u e => ?_, fun b u e => sm b u (g.ff b u e), g.keep, g.there, fun a e n => ?_⟩, sm, ⟨w.h, ?_, w.n0⟩, ?_, off⟩
  · rcases cs b with ⟨r, hr, rfl⟩ | h
    · rw [← on r hr]; exact e
    · rw [h] at e; exact g.fh b u e
  · rcases cs a with ⟨r, hr, rfl⟩ | h
    · exact absurd (w.r0 r hr) e
    · rw [h]; exact g.new a e n
  · rw [off f w.rf]; exact w.nF
  · obtain ⟨hl, hr⟩ := hA
    have go : ∀ (rs : List (Addr × List V)) (ys : List (List α)), rs.length = ys.length → (∀ (j : Nat) (r : Addr × List V), rs[j]? = some r → ∃ y, ys[j]? = some y ∧ R K F' (.ref r.1) y) → RL K F' (refsN rs) ys := by
      intro rs
      induction rs with
      | nil => intro ys e _; cases ys with | nil => exact .nil | cons _ _ => cases e
      | cons r rs ih =>
        intro ys e h
        cases ys with
        | nil => cases e
        | cons y ys =>
          obtain ⟨y', e1, h1⟩ := h 0 r rfl
          cases e1
          exact .cons h1 (ih ys (Nat.succ.inj e) fun j r' hj => h (j + 1) r' hj)
    exact go rows xs hl fun j r hj => by
      obtain ⟨x, h1, h2, h3⟩ := hr j r hj
      exact ⟨x, h1, hF j r hj x h2 h3⟩
theorem Ow.settle (w : Ow H0 F H p ws) (e : F' p = F p) : Ow H0 F' H p ws := ⟨w.h, e.trans w.nF, w.n0⟩
theorem Od.settle (w : Od H0 F H p ob) (e : F' p = F p) : Od H0 F' H p ob := ⟨w.h, e.trans w.nF, w.n0, w.nt⟩
end
/-! ### xs.extend(any list) -/
theorem ext_lst (l : Addr) (xs : Array Value) (n : Nat) (b : Addr) (ys : Array Value) (n2 : Nat) (sl : Array (Option Value)) (h0 : ¬(!xs.isEmpty && Builtin.List.listTooLong (xs.size + ys.size)) = true) (h1 : xs.size ≤ sizeLine) (h2 : xs.size + ys.size ≤ sizeLine + 1) :
    Meets (Builtin.«list.extend» ⟨[.ref l, .ref b], []⟩) (fun _ R s => s.heap.get? l = some { cls := .type "list", dict := none, data := .seq xs n, slots := #[] } ∧ s.heap.get? b = some { cls := .type "list", dict := none, data := .seq ys n2, slots := sl } ∧ R (.ok (.ret Value.none)) { s with heap := s.heap.update l (Obj.mapSeq fun x => x ++ ys), toks := s.toks }) :=
  .of_wp fun prog w A R s h => by
    obtain ⟨hp, g, d, tk, os⟩ := s; obtain ⟨hl, hb, h⟩ := h; have q1 := AutoSeq1.idx_int; have q2 := AutoSeq1.sub_tuple_tuple; have q3 := AutoSeq1.sub_list_list; have q4 := AutoSeq1.sub_tuple_list; have q5 := AutoSeq1.sub_list_tuple
    have hz : (xs ++ ys).size ≤ sizeLine + 1 := by rw [Array.size_append]; exact h2
    wp_walk using (wpAny_updateSeq hl rfl (hz := h1) (_hz' := hz)), AutoSeq1.wpAny_loadPart' hl, AutoSeq1.wpAny_loadPart' hb; exact ⟨_, rfl, h⟩
section
variable {X : Cx}
def rExtL (K : PySem.W.Frag) : V → List V → Hp → VK → Prop := fun x vs H Q => ∃ l b xs zs, x = .ref l ∧ vs = [.ref b] ∧ H l = some (.lst xs) ∧ SqL K H b zs ∧ xs.length + zs.length ≤ sizeLine ∧ Q .non (upd H l (.lst (xs ++ zs)))
theorem mt_extL : MtM X "list.extend" (rExtL X.K) := by
  intro pins s σ H x vs v us Q I rx rv h
  obtain ⟨l, b, xs, zs, rfl, rfl, hH, hB, hz, q⟩ := h
  cases rx
  obtain ⟨u, rfl, ru⟩ := rv.one
  cases ru
  obtain ⟨z, its, n, r, hl, e⟩ := I.lstM hH
  obtain ⟨its2, r2, ⟨⟨oc, od, dt, sl⟩, n2, ho, hc, hdi, hd⟩, hz2⟩ := I.list hB
  simp only at hc hd hdi
  subst hc; subst hd; subst hdi
  have hl2 := r2.length
  have hsz : its.toArray.size + its2.toArray.size ≤ sizeLine := by rw [List.size_toArray, List.size_toArray]; omega
  have hlong : ¬ (!its.toArray.isEmpty && Builtin.List.listTooLong (its.toArray.size + its2.toArray.size)) = true := by rw [notLongL hsz, Bool.and_false]; exact Bool.false_ne_true
  refine call_meets F.slot_list_extend ⟨_, e, rfl⟩ F.entry_list_extend (F.args_list_extend_2 _ _) (ext_lst l its.toArray n b its2.toArray n2 sl hlong (by rw [List.size_toArray]; omega) (by omega)) ⟨e, ho, ?_⟩
  exact ⟨.non, _, I.lset (its' := its ++ its2) hH e (by simp) (r.append r2) (by rw [List.length_append]; omega), rfl, q⟩
theorem mt_extLK {K : PySem.W.Frag} (h : X.K = K := by rfl) : MtM X "list.extend" (rExtL K) := by subst h; exact mt_extL
end
/-! ### loops that are left by break -/
section
variable {D : Ends} {σ : L2.St} {H : Hp} {t : TS} {g : TG} {c : TT} {wi : TI}
theorem p_forB (h : ∀ nx_ : L2.St → Hp → Prop, (∀ σ' H', D.nx σ' H' → nx_ σ' H') → tFor wi g t { D with nx := nx_ } σ H) : tFor wi g t D σ H := h D.nx fun _ _ z => z
theorem p_whileB (h : ∀ nx_ : L2.St → Hp → Prop, (∀ σ' H', D.nx σ' H' → nx_ σ' H') → tWhile c t { D with nx := nx_ } σ H) : tWhile c t D σ H := h D.nx fun _ _ z => z
theorem p_postL {P : Prop} {nx_ : L2.St → Hp → Prop} (Post : L2.St → Hp → Prop) (h2 : (∀ σ' H', Post σ' H' → nx_ σ' H') → P) (h1 : ∀ σ' H', Post σ' H' → nx_ σ' H') : P := h2 h1
end
end G
/-! My base, part 36: the pot (a bag whose inner list may be another one behind a draw); zip of two tuples in a comprehension. -/
namespace G
open PySem PySem.Spec PyProof.Rows L2 TL RZ
abbrev potP : Int := 170141183460469231731687303715884105727
structure Pot where
  cells : List Int
  stir : Int
  cnt : Int
structure PotAt (F H : Hp) (B C : Addr) (b : Pot) : Prop where
  hB : H B = some (.lst [.ref C, .int b.stir, .int b.cnt, .int potP])
  hC : H C = some (.lst (b.cells.map V.int))
  ne : B ≠ C
  fB : F B = none
  fC : F C = none
section
variable {M : Addr → Prop} {F0 H0 F H F' H' : Hp} {p q B C C0 C1 : Addr} {o : HO} {b b' : Pot} {ws : List V}
theorem PotAt.frz (a : PotAt F H B C b) (hq : H q = none) : PotAt (upd F q o) (upd H q o) B C b :=
  have n1 := ne_of_none a.hB hq
  have n2 := ne_of_none a.hC hq
  ⟨(upd_ne n1).trans a.hB, (upd_ne n2).trans a.hC, a.ne, (upd_ne n1).trans a.fB, (upd_ne n2).trans a.fC⟩
theorem PotAt.own (a : PotAt F H B C b) (hq : H q = none) : PotAt F (upd H q o) B C b :=
  have n1 := ne_of_none a.hB hq
  have n2 := ne_of_none a.hC hq
  ⟨(upd_ne n1).trans a.hB, (upd_ne n2).trans a.hC, a.ne, a.fB, a.fC⟩
theorem PotAt.nb (a : PotAt F H B C b) (hq : H q = none) : ¬ Bc B C q := fun z => by
  rcases z with z | z
  · exact ne_of_none a.hB hq z.symm
  · exact ne_of_none a.hC hq z.symm
theorem PotAt.other (a : PotAt F H B C b) (m : ¬ Bc B C q) : PotAt F (upd H q o) B C b :=
  have n1 : B ≠ q := fun z => m (.inl z.symm)
  have n2 : C ≠ q := fun z => m (.inr z.symm)
  ⟨(upd_ne n1).trans a.hB, (upd_ne n2).trans a.hC, a.ne, a.fB, a.fC⟩
theorem PotAt.fz (a : PotAt F H B C b) (m : ¬ Bc B C q) : PotAt (upd F q o) H B C b :=
  have n1 : B ≠ q := fun z => m (.inl z.symm)
  have n2 : C ≠ q := fun z => m (.inr z.symm)
  ⟨a.hB, a.hC, a.ne, (upd_ne n1).trans a.fB, (upd_ne n2).trans a.fC⟩
theorem PotAt.gr0 (a : PotAt F H B C b) (g : Gr M0 F H F' H') : PotAt F' H' B C b :=
  ⟨g.keep _ _ id a.hB, g.keep _ _ id a.hC, a.ne, g.newL (by rw [a.hB]; simp) a.fB (fun ts z => by rw [g.keep _ _ id a.hB] at z; cases z), g.newL (by rw [a.hC]; simp) a.fC (fun ts z => by rw [g.keep _ _ id a.hC] at z; cases z)⟩
theorem PotAt.apart (a : PotAt F H B C b) (k : Gr M0 H H F' H') : PotAt F H' B C b := ⟨k.keep _ _ id a.hB, k.keep _ _ id a.hC, a.ne, a.fB, a.fC⟩
theorem PotAt.put (a : PotAt F H B C b) (e : b'.cells = b.cells) : PotAt F (upd H B (.lst [.ref C, .int b'.stir, .int b'.cnt, .int potP])) B C b' :=
  ⟨upd_same, by rw [upd_ne a.ne.symm, a.hC, e], a.ne, a.fB, a.fC⟩
theorem PotAt.adopt {ts : List V} (a : PotAt F H B C b) (h : H q = some (.tup ts)) : PotAt (upd F q (.tup ts)) H B C b :=
  have n1 : B ≠ q := fun z => by subst z; rw [a.hB] at h; cases h
  have n2 : C ≠ q := fun z => by subst z; rw [a.hC] at h; cases h
  ⟨a.hB, a.hC, a.ne, (upd_ne n1).trans a.fB, (upd_ne n2).trans a.fC⟩
theorem Gr.transC (g : Gr (Bc B C0) F0 H0 F H) (c : C = C0 ∨ H0 C = none) (k : Gr (Bc B C) F H F' H') : Gr (Bc B C0) F0 H0 F' H' :=
  ⟨k.fh, g.ff.trans k.ff, fun a o m e => k.keep a o (fun z => by
      rcases z with z | z
      · exact m (.inl z)
      · rcases c with c | c
        · exact m (.inr (z.trans c))
        · rw [z, c] at e; cases e) (g.keep a o m e), fun a e => k.there a (g.there a e), fun a e n => by
    cases q : F a with
    | none => exact k.new a (g.there a e) q
    | some o =>
      rcases g.new a e n with z | ⟨ts, z⟩
      · rw [z] at q; cases q
      · have := g.fh a o q
        rw [z] at this; cases this
        exact .inr ⟨ts, k.fh _ _ (k.ff _ _ q)⟩⟩
theorem CF.step (g : Gr (Bc B C0) F0 H0 F H) (c : C = C0 ∨ H0 C = none) (c1 : C1 = C ∨ H C1 = none) : C1 = C0 ∨ H0 C1 = none := by
  rcases c1 with c1 | n
  · rw [c1]; exact c
  · exact .inr (g.none0 n)
theorem Nb.step (n : ¬ Bc B C p) (h : H p = some o) (c1 : C1 = C ∨ H C1 = none) : ¬ Bc B C1 p := fun z => by
  rcases z with z | z
  · exact n (.inl z)
  · rcases c1 with c1 | c1
    · exact n (.inr (z.trans c1))
    · rw [← z, h] at c1; cases c1
end
/-! ### zip of two lists, or of two tuples -/
theorem pi_zipAK {X : Cx} {K : PySem.W.Frag} {e e2 : Expr} {ta : TA} {p pos tpos : Pos} {elts : List Expr} {kk : Nat} (hg : Gl X "zip") (hm : X.mg "zip" = none) (ha : PA X [e, e2] ta) (h : X.K = K := by rfl)
    (hs : starEach [e, e2] X.env = (false, eval e X.env) :: starEach [e2] X.env := by rfl) (hpl : (backTo pos (starEach [e2] X.env)).any (·.1) = false := by rfl) :
    PI X (.Tuple elts kk tpos) (.Call (.Name "zip" p) [e, e2] [] pos) (iZipA K ta) := by subst h; exact pi_zipA hg hm ha hs hpl
section
variable {K : PySem.W.Frag} {a b : Addr} {xs ys : List V}
theorem walk_zipT {n : Nat} (hn : n = min xs.length ys.length) : Walk (ItzT K a b) n (fun H => SqT K H a xs ∧ SqT K H b ys) (YPair (fun i => xs[i]?) (fun i => ys[i]?)) := by
  subst hn
  refine ⟨fun i _ hi q => ?_, fun _ q => ⟨xs, ys, q.1, q.2, by omega⟩, fun i H v H' _ q y => ?_⟩
  · have h1 : i < xs.length := by omega
    have h2 : i < ys.length := by omega
    exact ⟨xs, ys, xs[i], ys[i], q.1, q.2, by simp [h1], by simp [h2]⟩
  · obtain ⟨T, x, z, h1, h2, h3, h4, h5⟩ := y
    exact ⟨T, x, z, h1, h2, h3, h4 xs q.1, h5 ys q.2⟩
theorem lc_zipT {g : TG} {tt : TT} {te : TE} {vs : List Nat} {σ : L2.St} {H1 : Hp} {D : Addr} {Qd : Hp → Prop} (Pv : Nat → Hp → Prop) (h0 : Pv 0 (upd H1 D (.lst [])))
    (hl : ∀ i H, i ≤ min xs.length ys.length → Pv i H → SqT K H a xs ∧ SqT K H b ys)
    (hs : ∀ i x y T H, xs[i]? = some x → ys[i]? = some y → H T = none → Pv i H → g (.ref T) (wipe σ vs) (upd H T (.tup [x, y])) fun σ2 H2 => wipe σ2 vs = wipe σ vs ∧ tt σ2 H2 fun b H3 =>
      if b = true then te σ2 H3 fun y H4 => ∃ acc, H4 D = some (.lst acc) ∧ acc.length < sizeLine ∧ Pv (i + 1) (upd H4 D (.lst (acc ++ [y]))) else Pv (i + 1) H3) (hd : ∀ H, Pv (min xs.length ys.length) H → Qd H) :
    ∃ W : Nat → Nat → Hp → Prop, (∃ m, W 0 m (upd H1 D (.lst []))) ∧ ∀ i m H, W i m H →
      ((ItzT K a b).stop i H ∧ Qd H) ∨ ((ItzT K a b).go i H ∧ ∃ Nx : Hp → Prop, (∀ H', Nx H' → ∃ m', m' < m ∧ W (i + 1) m' H') ∧ ∀ x H', (ItzT K a b).yld i H x H' → g x (wipe σ vs) H' fun σ2 H2 => wipe σ2 vs = wipe σ vs ∧ tt σ2 H2 fun b H3 =>
        if b = true then te σ2 H3 fun y H4 => ∃ acc, H4 D = some (.lst acc) ∧ acc.length < sizeLine ∧ Nx (upd H4 D (.lst (acc ++ [y]))) else Nx H3) :=
  lc_it (walk_zipT rfl) Pv h0 hl (fun i v H H' _ p ⟨T, x, y, e1, e2, e3, e4, e5⟩ => by subst e1 e3; exact hs i x y T H e4 e5 e2 p) hd
end
theorem al_sq2 {K : PySem.W.Frag} {H : Hp} {v1 v2 : V} {d : PyData} {n : Nat} (r1 : Rp K H v1 d) (r2 : Rp K H v2 d) (hc : (tyD d == "list" || tyD d == "tuple") = true) (hd : d.depth ≤ n) :
    ∃ a1 ws1 a2 ws2 ds m, v1 = .ref a1 ∧ v2 = .ref a2 ∧ ((SqL K H a1 ws1 ∧ SqL K H a2 ws2) ∨ (SqT K H a1 ws1 ∧ SqT K H a2 ws2)) ∧ ws1.length ≤ sizeLine ∧ ws2.length ≤ sizeLine ∧ RpA K H ws1 ds ∧ RpA K H ws2 ds ∧ n = m + 1 ∧ ∀ d ∈ ds, d.depth ≤ m := by
  cases r1 with
  | non => exact absurd hc (by decide)
  | bl b => exact absurd hc (by simp [tyD])
  | int i => exact absurd hc (by simp [tyD])
  | str x _ => exact absurd hc (by simp [tyD])
  | lst h1 h2 h3 =>
    cases r2 with
    | lst k1 k2 k3 =>
      cases n with
      | zero => exact absurd hd (Nat.not_succ_le_zero _)
      | succ m => exact ⟨_, _, _, _, _, m, rfl, rfl, .inl ⟨h1, k1⟩, h2, k2, h3, k3, rfl, fun d hd2 => depth_list hd hd2⟩
  | tup h1 h2 h3 =>
    cases r2 with
    | tup k1 k2 k3 =>
      cases n with
      | zero => exact absurd hd (Nat.not_succ_le_zero _)
      | succ m => exact ⟨_, _, _, _, _, m, rfl, rfl, .inr ⟨.inl (.inl h1), .inl (.inl k1)⟩, h2, k2, h3, k3, rfl, fun d hd2 => depth_list hd hd2⟩
end G
/-! My base, part 37: a list of one's own, or None; min and max of a list of data. -/
namespace G
open PySem PySem.Spec PyProof.Rows L2 TL
def oV {α : Type} : Option α → Addr → V
  | none, _ => .non
  | some _, p => .ref p
theorem oV_isN {α : Type} (o : Option α) (p : Addr) : decide (oV o p = .non) = o.isNone := by cases o <;> rfl
/-- where there is a list, it is ours -/
def OwC {α : Type} (H0 F H : Hp) (p : Addr) (ws : List V) (o : Option α) : Prop := o.isSome = true → Ow H0 F H p ws
section
variable {α : Type} {M : Addr → Prop} {F0 H0 F H F' H' : Hp} {p q : Addr} {o : HO} {ws : List V} {r : Option α}
theorem OwC.frz (w : OwC H0 F H p ws r) (hq : H q = none) : OwC H0 (upd F q o) (upd H q o) p ws r := fun c => (w c).frz hq
theorem OwC.own (w : OwC H0 F H p ws r) (hq : H q = none) : OwC H0 F (upd H q o) p ws r := fun c => (w c).own hq
theorem OwC.other (w : OwC H0 F H p ws r) (ne : r.isSome = true → p ≠ q) : OwC H0 F (upd H q o) p ws r := fun c => (w c).other (ne c)
theorem OwC.ne (w : OwC H0 F H p ws r) (hq : H q = none) : r.isSome = true → p ≠ q := fun c => (w c).ne hq
theorem OwC.gr (w : OwC H0 F H p ws r) (g : Gr M F H F' H') (m : r.isSome = true → ¬ M p) : OwC H0 F' H' p ws r := fun c => (w c).gr g (m c)
theorem OwC.gr0 (w : OwC H0 F H p ws r) (g : Gr M0 F H F' H') : OwC H0 F' H' p ws r := fun c => (w c).gr0 g
theorem OwC.fz (w : OwC H0 F H p ws r) (ne : r.isSome = true → p ≠ q) : OwC H0 (upd F q o) H p ws r := fun c => (w c).fz (ne c)
theorem OwC.apart (w : OwC H0 F H p ws r) (k : Gr M0 H H F' H') : OwC H0 F H' p ws r := fun c => (w c).apart k
theorem OwC.adopt {ts : List V} (w : OwC H0 F H p ws r) (h : H q = some (.tup ts)) : OwC H0 (upd F q (.tup ts)) H p ws r := fun c => (w c).adopt h
end
def RLO {α : Type} [Enc α] (K : PySem.W.Frag) (F : Hp) (ws : List V) : Option (List α) → Prop
  | none => True
  | some l => RL K F ws l
theorem RLO.up {α : Type} [Enc α] {K : PySem.W.Frag} {F F' : Hp} {ws : List V} {o : Option (List α)} (h : RLO K F ws o) (e : Same F F') : RLO K F' ws o := by
  cases o with
  | none => trivial
  | some l => exact RpA.up h e
/-! ### min, max of a list of data -/
def bestI {α : Type} [Enc α] (xs : List α) : Nat := PySem.argBest (fun i j => PySem.W.dataLt ((xs.map Enc.d).getD i .none) ((xs.map Enc.d).getD j .none)) (xs.length - 1)
def bestX {α : Type} [Enc α] (xs : List α) : Nat := PySem.argBest (fun i j => PySem.W.dataLt ((xs.map Enc.d).getD j .none) ((xs.map Enc.d).getD i .none)) (xs.length - 1)
def minL {α : Type} [Enc α] (xs : List α) : Option α := xs[bestI xs]?
def maxL {α : Type} [Enc α] (xs : List α) : Option α := xs[bestX xs]?
theorem alikeAll_of {α : Type} [Enc α] [Alk α] (xs : List α) : PySem.W.AlikeAll (xs.map Enc.d) :=
  ⟨fun x hx y hy => by
    obtain ⟨a, _, rfl⟩ := List.mem_map.mp hx
    obtain ⟨b, _, rfl⟩ := List.mem_map.mp hy
    exact Alk.ak a b, fun x hx => by
    obtain ⟨a, _, rfl⟩ := List.mem_map.mp hx
    exact Alk.nn a⟩
def rMinL (α : Type) [Enc α] (f : List α → Nat) (K : PySem.W.Frag) : List V → Hp → VK → Prop := fun vs H Q => ∃ (a : Addr) (ws : List V) (xs : List α) (w : V), vs = [V.ref a] ∧ SqL K H a ws ∧ RL K H ws xs ∧ xs ≠ [] ∧ ws[f xs]? = some w ∧ Q w H
theorem cr_minL {α : Type} [Enc α] [Alk α] [Dep α] {X : Cx} (hc : X.calm = true) (hd : Dep.n α ≤ 60) (hu : X.A.units + 64 < cLine) : CallR X (.builtin "min") (rMinL α bestI X.K) := by
  intro pins s σ H vs us Q I r h
  obtain ⟨a, ws, xs, w, rfl, hs, hA, hne, hw, q⟩ := h
  obtain ⟨its, rv, hl, _⟩ := I.list hs
  rw [Vals.ref1 r]
  obtain ⟨as, ra⟩ := Dp.readsAll I _ _ _ (RpA.dp _ _ hA) rv
  have hl2 := hA.len
  have hlen : its.length = xs.length := by rw [← rv.length]; exact hl2
  have hn : 0 < xs.length := List.length_pos_iff.mpr hne
  have hroom : X.A.units + 1 + PyData.depthAll (xs.map Enc.d) < cLine := by
    have := depthAll_le xs
    omega
  refine PySem.call_min_walkH (PySem.W.iter_listW (A := X.A.in1) (I.ok.hd hc) hl.isList fun s₂ e W st hfp hw2 hk => ?_)
  refine ⟨_, _, _, _, _, _, _, s.heap, _, rfl, W, st, hfp, by rw [List.size_toArray]; omega, hw2, hk, PySem.W.cmpIn_lt (A := X.A.in1) (by simpa using ra) (alikeAll_of xs) (by show X.A.units + 1 + _ < _; exact hroom), fun v s' hP m => ?_⟩
  obtain ⟨h', tk, rfl, hk'⟩ := PySem.W.moved_old e rfl m
  obtain ⟨u, hu1, ru⟩ := rv.get hw
  have eu : v = u := by
    have e1 : its.toArray.size - 1 = xs.length - 1 := by rw [List.size_toArray]; omega
    rw [e1] at hP
    have h2 : its[bestI xs]? = some v := by
      have : its.toArray[bestI xs]? = some v := hP
      simpa using this
    rw [hu1] at h2
    exact (Option.some.inj h2).symm
  subst eu
  exact ⟨w, H, I.kept hk', ru, q⟩
theorem cr_maxL {α : Type} [Enc α] [Alk α] [Dep α] {X : Cx} (hc : X.calm = true) (hd : Dep.n α ≤ 60) (hu : X.A.units + 64 < cLine) : CallR X (.builtin "max") (rMinL α bestX X.K) := by
  intro pins s σ H vs us Q I r h
  obtain ⟨a, ws, xs, w, rfl, hs, hA, hne, hw, q⟩ := h
  obtain ⟨its, rv, hl, _⟩ := I.list hs
  rw [Vals.ref1 r]
  obtain ⟨as, ra⟩ := Dp.readsAll I _ _ _ (RpA.dp _ _ hA) rv
  have hl2 := hA.len
  have hlen : its.length = xs.length := by rw [← rv.length]; exact hl2
  have hn : 0 < xs.length := List.length_pos_iff.mpr hne
  have hroom : X.A.units + 1 + PyData.depthAll (xs.map Enc.d) < cLine := by
    have := depthAll_le xs
    omega
  refine PySem.call_max_walkH (PySem.W.iter_listW (A := X.A.in1) (I.ok.hd hc) hl.isList fun s₂ e W st hfp hw2 hk => ?_)
  refine ⟨_, _, _, _, _, _, _, s.heap, _, rfl, W, st, hfp, by rw [List.size_toArray]; omega, hw2, hk, PySem.W.cmpIn_gt (A := X.A.in1) (by simpa using ra) (alikeAll_of xs) (by show X.A.units + 1 + _ < _; exact hroom), fun v s' hP m => ?_⟩
  obtain ⟨h', tk, rfl, hk'⟩ := PySem.W.moved_old e rfl m
  obtain ⟨u, hu1, ru⟩ := rv.get hw
  have eu : v = u := by
    have e1 : its.toArray.size - 1 = xs.length - 1 := by rw [List.size_toArray]; omega
    rw [e1] at hP
    have h2 : its[bestX xs]? = some v := by
      have : its.toArray[bestX xs]? = some v := hP
      simpa using this
    rw [hu1] at h2
    exact (Option.some.inj h2).symm
  subst eu
  exact ⟨w, H, I.kept hk', ru, q⟩
theorem cr_minLK {α : Type} [Enc α] [Alk α] [Dep α] {X : Cx} {K : PySem.W.Frag} (hc : X.calm = true) (hu : X.A.units + 64 < cLine) (hd : Dep.n α ≤ 60 := by decide) (h : X.K = K := by rfl) : CallR X (.builtin "min") (rMinL α bestI K) := by subst h; exact cr_minL hc hd hu
theorem cr_maxLK {α : Type} [Enc α] [Alk α] [Dep α] {X : Cx} {K : PySem.W.Frag} (hc : X.calm = true) (hu : X.A.units + 64 < cLine) (hd : Dep.n α ≤ 60 := by decide) (h : X.K = K := by rfl) : CallR X (.builtin "max") (rMinL α bestX K) := by subst h; exact cr_maxL hc hd hu
theorem get_ne {α : Type} {xs : List α} {i : Nat} {x : α} (h : xs[i]? = some x) : xs ≠ [] := fun e => by rw [e] at h; cases h
theorem p_par {i j : Nat} {ta : TA} {D : Ends} {σ : L2.St} {H : Hp} (h : ta σ H fun vs H1 => ∃ v w, vs = [v, w] ∧ D.nx ((σ.set i (some v)).set j (some w)) H1) : tPar i j ta D σ H := h
theorem p_par3 {i j l : Nat} {ta : TA} {D : Ends} {σ : L2.St} {H : Hp} (h : ta σ H fun vs H1 => ∃ u v w, vs = [u, v, w] ∧ D.nx (((σ.set i (some u)).set j (some v)).set l (some w)) H1) : tPar3 i j l ta D σ H := h
/-- a comprehension within a comprehension -/
theorem relabel_free {env : Env} : ∀ {names : List (Str × NameKind)} {x : Str}, (names.lookup x = some .cell ∨ names.lookup x = some .free) →
    ((names.map fun (n, k) => if (k == NameKind.free && env.scope.kind == .function && env.kindOf n == some .cell) then (n, NameKind.cell) else (n, k)).lookup x = some .cell ∨
     (names.map fun (n, k) => if (k == NameKind.free && env.scope.kind == .function && env.kindOf n == some .cell) then (n, NameKind.cell) else (n, k)).lookup x = some .free)
  | [], x, h => by simp at h
  | (n, k) :: r, x, h => by
    have ih := @relabel_free env r x
    rw [List.map_cons]
    cases hx : x == n with
    | true =>
      rw [List.lookup_cons, hx] at h
      by_cases c : (k == NameKind.free && env.scope.kind == .function && env.kindOf n == some .cell) = true
      · refine .inl ?_
        show List.lookup x ((if _ then (n, NameKind.cell) else (n, k)) :: _) = _
        rw [if_pos c, List.lookup_cons, hx]
      · show List.lookup x ((if _ then (n, NameKind.cell) else (n, k)) :: _) = _ ∨ List.lookup x ((if _ then (n, NameKind.cell) else (n, k)) :: _) = _
        rw [if_neg c, List.lookup_cons, hx]
        exact h
    | false =>
      rw [List.lookup_cons, hx] at h
      show List.lookup x ((if _ then (n, NameKind.cell) else (n, k)) :: _) = _ ∨ List.lookup x ((if _ then (n, NameKind.cell) else (n, k)) :: _) = _
      split <;> (rw [List.lookup_cons, hx]; exact ih h)
theorem blkOk_in {X : Cx} {s : Shared} {H : Hp} {sc0 scope : Scope} {cl : List (Str × Addr)} {C : Addr} {fp : List Addr} {own : List (Str × Nat)} {N : List Str} (hN : X.N = N) (h : blkC N sc0 scope own = true) :
    BlkOk (X.blk s H sc0 (compEnvC sc0 cl C X.env) fp).N (X.blk s H sc0 (compEnvC sc0 cl C X.env) fp).env.scope scope own := by
  subst hN
  have h2 : BlkOk X.N sc0 scope own := blkOk_by h
  exact ⟨h2.kind, h2.uniq, h2.ix, fun y hy e => relabel_free (h2.free y hy e), h2.own⟩
end G
/-! My base, part 38: sorted(a list of data). -/
namespace G
open PySem PySem.Spec PyProof.Rows L2 TL
open PySem.W (EachIs)
class Srt (α : Type) [Enc α] : Prop where
  ok : (∀ b : α, ∃ x r, Enc.d b = PyData.tuple (x :: r)) ∨ (∀ b : α, Enc.d b ≠ PyData.none ∧ ∀ xs, Enc.d b ≠ PyData.tuple xs)
instance {α : Type} [Enc α] : Srt (List α) := ⟨.inr fun _ => ⟨nofun, nofun⟩⟩
instance : Srt Int := ⟨.inr fun _ => ⟨nofun, nofun⟩⟩
instance : Srt Str := ⟨.inr fun _ => ⟨nofun, nofun⟩⟩
instance {α β : Type} [Enc α] [Enc β] : Srt (α × β) := ⟨.inl fun _ => ⟨_, _, rfl⟩⟩
instance {α β γ : Type} [Enc α] [Enc β] [Enc γ] : Srt (T3 α β γ) := ⟨.inl fun _ => ⟨_, _, rfl⟩⟩
instance {α β γ δ : Type} [Enc α] [Enc β] [Enc γ] [Enc δ] : Srt (T4 α β γ δ) := ⟨.inl fun _ => ⟨_, _, rfl⟩⟩
def sortD {α : Type} [Enc α] (xs : List α) : List α := xs.mergeSort (PySem.W.dataLe false Enc.d)
theorem sortD_perm {α : Type} [Enc α] (xs : List α) : (sortD xs).Perm xs := List.mergeSort_perm _ _
theorem sortD_len {α : Type} [Enc α] (xs : List α) : (sortD xs).length = xs.length := (sortD_perm xs).length_eq
def rSortedD (α : Type) [Enc α] (K : PySem.W.Frag) : List V → Hp → VK → Prop := fun vs H Q => ∃ (a : Addr) (xs : List V) (ds : List α), vs = [V.ref a] ∧ SqL K H a xs ∧ RL K H xs ds ∧
  ∀ (ys : List V) (p : Addr), ys.length = xs.length → (∀ F, RL K F xs ds → RL K F ys (sortD ds)) → H p = none → Q (.ref p) (upd H p (.lst ys))
section
variable {α : Type} [Enc α]
theorem each_zip {K : PySem.W.Frag} {F : Hp} : ∀ {xs : List V} {ds : List α} {its : List Value}, Vals xs its → RL K F xs ds → EachIs (fun (u : Value) (q : V × α) => RelV q.1 u) its (xs.zip ds)
  | [], _, _, r, h => by
    cases r
    exact .nil
  | x :: xs, ds, _, r, h => by
    cases r with
    | cons h1 h2 =>
      cases ds with
      | nil => exact absurd (RL.len h) (by simp)
      | cons d ds =>
        cases h with
        | cons k1 k2 => exact .cons h1 (each_zip h2 k2)
theorem each_reads {h : Heap} : ∀ {xs : List V} {ds : List α} {its : List Value} {as : List Addr}, xs.length = ds.length → its.length = xs.length → ReadsAll h its (ds.map Enc.d) as → EachIs (fun (v : Value) (q : V × α) => ∃ as, Reads h v (Enc.d q.2) as) its (xs.zip ds)
  | [], _, its, _, _, hl2, _ => by
    have : its = [] := List.eq_nil_of_length_eq_zero hl2
    subst this
    exact .nil
  | x :: xs, [], _, _, hl, _, _ => by cases hl
  | x :: xs, d :: ds, its, as, hl, hl2, r => by
    cases its with
    | nil => cases hl2
    | cons v its =>
      have r' : ReadsAll h (v :: its) (Enc.d d :: ds.map Enc.d) as := r
      cases r' with
      | cons h1 h2 => exact .cons ⟨_, h1⟩ (each_reads (Nat.succ.inj hl) (Nat.succ.inj hl2) h2)
theorem each_vals : ∀ {out : List Value} {l : List (V × α)}, EachIs (fun (u : Value) (q : V × α) => RelV q.1 u) out l → Vals (l.map (·.1)) out
  | _, _, .nil => .nil
  | _, _, .cons h t => .cons h (each_vals t)
theorem RL.of_pairs {K : PySem.W.Frag} {F : Hp} : ∀ {l : List (V × α)}, (∀ q ∈ l, R K F q.1 q.2) → RL K F (l.map (·.1)) (l.map (·.2))
  | [], _ => .nil
  | q :: l, h => .cons (h q (List.mem_cons_self ..)) (RL.of_pairs fun x hx => h x (List.mem_cons_of_mem _ hx))
theorem RL.pairs {K : PySem.W.Frag} {F : Hp} : ∀ {xs : List V} {ds : List α}, RL K F xs ds → ∀ q ∈ xs.zip ds, R K F q.1 q.2
  | [], _, _, _, hq => by simp at hq
  | x :: xs, ds, h, q, hq => by
    cases ds with
    | nil => simp at hq
    | cons d ds =>
      cases h with
      | cons k1 k2 =>
        rw [List.zip_cons_cons] at hq
        rcases List.mem_cons.mp hq with rfl | hq
        · exact k1
        · exact RL.pairs k2 q hq
theorem cr_sortedD {X : Cx} [Alk α] [Dep α] [Srt α] (hd : Dep.n α ≤ 60) (hu : X.A.units + 64 < cLine) : CallR X (.builtin "sorted") (rSortedD α X.K) := by
  intro pins s σ H vs us Q I r h
  obtain ⟨a, xs, ds, rfl, hs, hA, q⟩ := h
  have hlen : xs.length = ds.length := RL.len hA
  obtain ⟨its, rv, hl, hz⟩ := I.list hs
  rw [Vals.ref1 r]
  obtain ⟨as, ra⟩ := Dp.readsAll I _ _ _ (RpA.dp _ _ hA) rv
  have hil : its.length = xs.length := rv.length.symm
  have hzl : (xs.zip ds).length = xs.length := by rw [List.length_zip, hlen, Nat.min_self]
  have hsnd : (xs.zip ds).map (·.2) = ds := by rw [List.map_snd_zip (by omega)]
  have hfst : (xs.zip ds).map (·.1) = xs := by rw [List.map_fst_zip (by omega)]
  refine PySem.W.sorted_data (β := V × α) (enc := fun q => Enc.d q.2) (vs := its) (bs := xs.zip ds) hl.isList (each_zip rv hA) (each_reads hlen hil ra) (PySem.W.AllAlike.of fun b b' => Alk.ak b.2 b'.2)
    (by rcases (Srt.ok : (∀ b : α, ∃ x r, Enc.d b = PyData.tuple (x :: r)) ∨ (∀ b : α, Enc.d b ≠ PyData.none ∧ ∀ xs, Enc.d b ≠ PyData.tuple xs)) with h | h
        · exact PySem.W.Sortable.tuples fun b => h b.2
        · exact PySem.W.Sortable.others fun b => h b.2) (by rw [hzl]; exact hz) (fun b _ => by have := Dep.le b.2; omega) fun out h1 h2 => ?_
  have hv := each_vals h2
  have hmap : ((xs.zip ds).mergeSort (PySem.W.dataLe false fun q : V × α => Enc.d q.2)).map (·.2) = sortD ds := by
    have := List.map_mergeSort (f := fun q : V × α => q.2) (r := PySem.W.dataLe false fun q : V × α => Enc.d q.2) (s := PySem.W.dataLe false (Enc.d : α → PyData)) (l := xs.zip ds) (fun _ _ _ _ => rfl)
    rw [this, hsnd]
    rfl
  obtain ⟨ep, he⟩ := PyProof.Rows.sortedAll_at s.heap its (List.toArray out)
  have hyl : (((xs.zip ds).mergeSort (PySem.W.dataLe false fun q : V × α => Enc.d q.2)).map (·.1)).length = xs.length := by rw [List.length_map, List.length_mergeSort, hzl]
  refine ⟨.ref _, upd H (s.heap.objs.size + 1) (.lst (((xs.zip ds).mergeSort (PySem.W.dataLe false fun q : V × α => Enc.d q.2)).map (·.1))), I.laid (t' := s.toks) (fun _ _ => PyProof.Rows.sortedAll_old) (Nat.le_succ _) ⟨by rw [hyl]; exact hz, out, ep, hv, he⟩, rfl, q _ _ hyl (fun F hF => ?_) (I.hok.fresh (Nat.le_succ _))⟩
  rw [← hmap]
  exact RL.of_pairs fun q hq => RL.pairs hF q ((List.mergeSort_perm _ _).mem_iff.mp hq)
theorem cr_sortedDK {X : Cx} [Alk α] [Dep α] [Srt α] {K : PySem.W.Frag} (hu : X.A.units + 64 < cLine) (hd : Dep.n α ≤ 60 := by decide) (h : X.K = K := by rfl) : CallR X (.builtin "sorted") (rSortedD α K) := by subst h; exact cr_sortedD hd hu
end
end G
/-! My base, part 39: x.replace(written, written), where a token is out. -/
namespace G
open PySem PySem.Spec PyProof.Rows L2 TL CwR
theorem thnT {α : Type} {M : Model} {A : Around} {c : Sem α} {Q Q' : α → Shared → Prop} {E : Value → Shared → Prop} {s : Shared} (h : wpAny M A c Q E s) (k : ∀ v s1, s.toks ≤ s1.toks → Q v s1 → Q' v s1) : wpAny M A c Q' E s :=
  wpAny_mono (PySem.wpAny_toks h) (fun v s1 q => k v s1 q.1 q.2) fun _ _ z => z.2
section
variable {X : Cx}
theorem psst_nox {st : List Stmt} {t : TS} (h : PSsT X.nox st t) : PSsT X st t := fun pins s σ H D h0 I hw =>
  wpAny_mono (h pins s σ H D h0 (I.wish _) hw) (fun _ _ q => q.unwish) fun _ _ z => False.elim z
theorem pst_asg {tg e : Expr} {te : TE} {g : TG} {pos : Pos} (he : PET X e te) (hg : PG X tg g) (hs : swapsWithSole [tg] e pos.line X.env = pure false := by rfl) (hw : swappedStores [tg] e X.env = pure none := by rfl)
    (h1 : (assignEach [tg] X.env).map (·.2) = [assign tg X.env] := by rfl) : PST X (.Assign [tg] e pos) (tAsg te g) := by
  intro pins s σ H D h0 I h
  refine wpAny_Assign_stores (thn (he pins s σ H _ h0 I h) fun v s1 ⟨x, H1, I1, r1, q1⟩ => ?_) hs hw
  rw [h1]
  exact thn (hg.run pins s1 σ H1 x v _ I1 r1 q1) fun _ s2 q => q
theorem pst_set {i : Nat} {x : Str} {e : Expr} {te : TE} {pos pos' : Pos} (hN : X.N.Nodup) (hi : X.N[i]? = some x) (hx : Loc X.env.scope x) (he : PET X e te) (hs : swapsWith e (some (.Name x pos')) pos.line X.env = pure false := by rfl) (hf : X.fn x = true ∨ X.env.scope.names.lookup x = some .local := by first | exact .inl rfl | exact .inr rfl | assumption) :
    PST X (.Assign [.Name x pos'] e pos) (tAsg te (gName i)) := by
  intro pins s σ H D h0 I h
  refine wpAny_Assign_Name (thn (he pins s σ H _ h0 I h) fun v s1 ⟨y, H1, I1, r1, q1⟩ => ?_) hs
  exact store_ok I1 hN hi hx r1 (fun s2 I2 => ⟨_, H1, I2, q1⟩) hf
theorem psst_cut {st : Stmt} {rest : List Stmt} {t u : TS} (h1 : PST X st t) (h2 : PSsT X rest u) : PSsT X (st :: rest) (tCut t u) := by
  intro pins s σ H D h0 I h
  obtain ⟨Mid, hm, hu⟩ := h
  refine wpAny_execs_cons (thnT (h1 pins s σ H { D with nx := Mid } h0 I hm) fun f s1 k1 q => ?_)
  cases f with
  | next =>
    obtain ⟨σ', H', I', q⟩ := q
    exact h2 pins s1 σ' H' D (Nat.le_trans h0 k1) I' (hu σ' H' q)
  | ret v => exact q
  | brk => exact q
  | cont => exact q
theorem pst_forT {tg iter : Expr} {body : List Stmt} {wi : TI} {g : TG} {tb : TS} {pos : Pos} (hp : PassesOwn (model X.prog X.w) X.A X.env X.xe) (hc : X.calm = true) (hi : PI X tg iter wi) (hg : PG X tg g) (hb : PSsT X body tb)
    (hs : ∀ x, foldedSetIterable iter X.env x = pure x := by intro _; rfl) : PST X (.For tg iter body [] pos) (tFor wi g tb) := by
  intro pins s σ H D h0 I h
  refine wpAny_For (thnT (hi.run pins s σ H _ I h) fun v s1 k1 h1 => thnT h1 fun itv s2 k2 h2 => ?_) hs
  obtain ⟨it, fp, tn, J, H2, e, I2, T, st2, f2, W, ⟨m0, w0⟩, turn⟩ := h2
  subst e
  have t2 : 1 ≤ s2.toks := by omega
  have stat : ∀ {H' : Hp}, (∀ b ∈ fp, H' b = none) → ∀ b ∈ fp, FpOk X pins H' b := fun hn b hb => ⟨hn b hb, (f2 b hb).2⟩
  refine codeAny_forLoop_any (fun n s' => 1 ≤ s'.toks ∧ ∃ i σ' H', Inv X pins σ' H' s' ∧ tn i s'.heap ∧ (∀ b ∈ fp, H' b = none) ∧ W i n σ' H') ?_ m0 ⟨t2, 0, σ, H2, I2, st2, fun b hb => (f2 b hb).1, w0⟩
  rintro n s3 ⟨t3, i, σ3, H3, I3, st3, fr3, w3⟩
  rcases turn i n σ3 H3 w3 with ⟨stop, qn⟩ | ⟨go, N, hN, step⟩
  · refine wpAny_passesOwn hp (thn (T.done X rfl rfl rfl hc i pins s3 σ3 H3 X.xe I3 (stat fr3) st3 stop) fun r s4 ⟨hr, I4⟩ => ?_)
    subst hr
    exact wpAny_execs_nil ⟨σ3, H3, I4, qn⟩
  · refine wpAny_passesOwn hp (thnT (T.item X rfl rfl rfl hc i pins s3 σ3 H3 X.xe I3 (stat fr3) st3 go) fun r s4 k4 ⟨u, hr, h4⟩ => ?_)
    subst hr
    refine wpAny_passesOwn hp (thnT h4 fun _ s5 k5 ⟨x, H5, I5, r5, y5, st5, fr5⟩ => ?_)
    have I5' := I5.pinned (stat fr5) (T.obj _ _ st5)
    refine wpAny_passesOwn hp (thnT (hg.run _ s5 σ3 H5 x u _ I5' r5 (step x H5 y5)) fun _ s6 k6 ⟨σ6, H6, I6, q6⟩ => ?_)
    have t6 : 1 ≤ s6.toks := by omega
    refine wpAny_passesOwn hp (thnT (hb _ s6 σ6 H6 _ t6 I6 q6) fun f s7 k7 q7 => ?_)
    have t7 : 1 ≤ s7.toks := by omega
    have again : ∀ {σ7 : L2.St} {H7 : Hp}, Inv X (pins ++ pinsAt fp s5.heap) σ7 H7 s7 → N σ7 H7 → ∃ m, m < n ∧ (1 ≤ s7.toks ∧ ∃ i σ' H', Inv X pins σ' H' s7 ∧ tn i s7.heap ∧ (∀ b ∈ fp, H' b = none) ∧ W i m σ' H') := fun {σ7 H7} I7 n7 => by
      obtain ⟨m', hm, w7⟩ := hN σ7 H7 n7
      refine ⟨m', hm, t7, i + 1, σ7, H7, I7.unpinned, T.keep _ _ _ st5 fun b hb o e => (I7.pin (b, o) (List.mem_append_right _ (List.mem_append_right _ (mem_pinsAt hb e)))).1, fun b hb => ?_, w7⟩
      obtain ⟨o, e, d⟩ := T.obj _ _ st5 b hb
      exact (I7.pin (b, o) (List.mem_append_right _ (List.mem_append_right _ (mem_pinsAt hb e)))).2.1
    cases f with
    | next => obtain ⟨σ7, H7, I7, n7⟩ := q7; exact again I7 n7
    | cont => obtain ⟨σ7, H7, I7, n7⟩ := q7; exact again I7 n7
    | brk => obtain ⟨σ7, H7, I7, q7⟩ := q7; exact ⟨σ7, H7, I7.unpinned, q7⟩
    | ret v => obtain ⟨x7, σ7, H7, I7, r7, q7⟩ := q7; exact ⟨x7, σ7, H7, I7.unpinned, r7, q7⟩
end
section
variable {P : Program} {w : World} {K : PySem.W.Frag} {mg : Str → Option Value} {base : Heap} {x qual : Str} {params : Arguments} {body : List Stmt} {scope : Scope} {f : Addr} {fd : FuncData}
theorem fd_okT {N ps : List Str} {k : Nat} {sp : Sp} (F : FunD K x qual params body scope [] [] f fd) (S : FnScope N ps scope) (len : ∀ vs H Q E, sp vs H Q E → vs.length = ps.length)
    (hnc : ∀ y ∈ scope.names, y.2 ≠ .cell) (hps : 1 ≤ ps.length)
    (hbody : ∀ (cdv : Value) (A : Around) (outer : List Env) (s : Shared) (H : Hp) (vs : List V) (Q : VK) (E : XK), Room k (A.deeper (envOfC qual scope s.heap.objs.size f cdv)) → sp vs H Q E →
      ∃ t, PSsT (cxOf CX0 P w K mg base N qual scope f cdv A outer s H E).nox body t ∧ t { nx := fun _ H' => Q .non H', rt := Q } (start N vs) H) : FnOk P w K mg base CX0 (k + 1) f fd ps sp := by
  obtain ⟨oc, od, dV, kV, doc, pm, an, cdv, ct, osl, rfl, lk, hcd, _, _⟩ := F.ex
  exact fn_ofT lk hcd S hnc hps len fun A outer s H vs Q E hr hsp =>
    let ⟨t, h, q⟩ := hbody cdv A outer s H vs Q E hr hsp
    ⟨t, psst_nox h, q⟩
end
/-- x.replace(one sign, nothing) -/
def strike (x : Str) (c : Nat) : Str := Txt.replace x ⟨#[c]⟩ ⟨#[]⟩
theorem strike_tl (x : Str) (c : Nat) : tl (strike x c) = (tl x).filter (· != c) := PyProof.Rows.replace_strikes x c
theorem GS.strike {x : Str} (h : GS x) (c : Nat) : GS (strike x c) := by
  refine h.sub (fun d hd => ?_) ?_
  · rw [strike_tl] at hd
    exact (List.mem_filter.mp hd).1
  · rw [strike_tl]
    exact List.length_filter_le ..
theorem GS.strike_len {x : Str} (h : GS x) (c : Nat) : x.length + (x.length + 1) * (⟨#[]⟩ : Str).length ≤ 16777216 := by
  have := h.len
  rw [sizeLine_eq] at this
  show x.length + (x.length + 1) * 0 ≤ _
  omega
/-- str(0 | 1) -/
def strO (i : Int) : Option Str := if i = 0 then some "0" else if i = 1 then some "1" else none
theorem strO_gs {i : Int} {s : Str} (h : strO i = some s) : GS s := by
  unfold strO at h
  split at h
  · cases h
    exact ⟨by decide +kernel, by decide +kernel⟩
  · split at h
    · cases h
      exact ⟨by decide +kernel, by decide +kernel⟩
    · cases h
theorem call_strB {X : Cx} : CallR X (.type "str") (fun xs H Q => ∃ i s, xs = [V.int i] ∧ strO i = some s ∧ Q (.str s) H) := by
  intro pins s σ H xs us Q I r h
  obtain ⟨i, t, e1, e2, q⟩ := h
  subst e1
  unfold strO at e2
  refine call_str_int pins s σ H _ us Q I r ⟨i, rfl, ?_, ?_⟩
  · split at e2
    · next h => subst h; decide +kernel
    · split at e2
      · next h => subst h; decide +kernel
      · cases e2
  · split at e2
    · next h => subst h; cases e2; exact q
    · split at e2
      · next h => subst h; cases e2; exact q
      · cases e2
end G
/-! My base, part 40: comprehensions of two clauses. -/
namespace G
open PySem PySem.Spec PyProof.Rows L2 TL
def lineO {α : Type} (xs : List α) : Option (List α) := if xs.length ≤ sizeLine then some xs else none
theorem lineO_ok {α : Type} {xs r : List α} (h : lineO xs = some r) : xs.length ≤ sizeLine ∧ xs = r := by
  unfold lineO at h
  split at h
  · next h1 => exact ⟨h1, Option.some.inj h⟩
  · cases h
section
variable {K : PySem.W.Frag} {a : Addr} {xs : List V} {g g1 : TG} {tt tt1 : TT} {te : TE} {wi1 : TI} {vs vs1 : List Nat} {σ : L2.St} {H1 : Hp} {D : Addr} {Qd : Hp → Prop}
theorem lc2_list (Pv : Nat → Hp → Prop) (h0 : Pv 0 (upd H1 D (.lst []))) (hl : ∀ i H, i ≤ xs.length → Pv i H → SqL K H a xs)
    (hs : ∀ i x H, xs[i]? = some x → Pv i H → g x (wipe σ vs) H fun σ2 H2 => wipe σ2 vs = wipe σ vs ∧ tt σ2 H2 fun b H3 =>
      if b = true then wi1 σ2 H3 fun J1 H4 => ∃ W1 : Nat → Nat → Hp → Prop, (∃ m, W1 0 m H4) ∧ ∀ j k H, W1 j k H → (J1.stop j H ∧ Pv (i + 1) H) ∨ (J1.go j H ∧ ∃ Nx1 : Hp → Prop, (∀ H', Nx1 H' → ∃ k', k' < k ∧ W1 (j + 1) k' H') ∧
        ∀ x H', J1.yld j H x H' → g1 x (wipe σ2 vs1) H' fun σ3 H5 => wipe σ3 vs1 = wipe σ2 vs1 ∧ tt1 σ3 H5 fun b H6 => if b = true then te σ3 H6 fun y H7 => ∃ acc, H7 D = some (.lst acc) ∧ acc.length < sizeLine ∧ Nx1 (upd H7 D (.lst (acc ++ [y]))) else Nx1 H6)
      else Pv (i + 1) H3) (hd : ∀ H, Pv xs.length H → Qd H) :
    ∃ W : Nat → Nat → Hp → Prop, (∃ m, W 0 m (upd H1 D (.lst []))) ∧ ∀ i m H, W i m H →
      ((Itl K a).stop i H ∧ Qd H) ∨ ((Itl K a).go i H ∧ ∃ Nx : Hp → Prop, (∀ H', Nx H' → ∃ m', m' < m ∧ W (i + 1) m' H') ∧ ∀ x H', (Itl K a).yld i H x H' → g x (wipe σ vs) H' fun σ2 H2 => wipe σ2 vs = wipe σ vs ∧ tt σ2 H2 fun b H3 =>
        if b = true then wi1 σ2 H3 fun J1 H4 => ∃ W1 : Nat → Nat → Hp → Prop, (∃ m, W1 0 m H4) ∧ ∀ j k H, W1 j k H → (J1.stop j H ∧ Nx H) ∨ (J1.go j H ∧ ∃ Nx1 : Hp → Prop, (∀ H', Nx1 H' → ∃ k', k' < k ∧ W1 (j + 1) k' H') ∧
        ∀ x H', J1.yld j H x H' → g1 x (wipe σ2 vs1) H' fun σ3 H5 => wipe σ3 vs1 = wipe σ2 vs1 ∧ tt1 σ3 H5 fun b H6 => if b = true then te σ3 H6 fun y H7 => ∃ acc, H7 D = some (.lst acc) ∧ acc.length < sizeLine ∧ Nx1 (upd H7 D (.lst (acc ++ [y]))) else Nx1 H6)
        else Nx H3) := by
  refine ⟨fun i m H => m = xs.length - i ∧ i ≤ xs.length ∧ Pv i H, ⟨xs.length, by simp, Nat.zero_le _, h0⟩, ?_⟩
  rintro i m H ⟨rfl, hi, p⟩
  have q := hl i H hi p
  by_cases hlt : i < xs.length
  · refine .inr ⟨⟨xs, xs[i], q, by simp [hlt]⟩, Pv (i + 1), fun H' p' => ⟨xs.length - (i + 1), by omega, rfl, hlt, p'⟩, fun x H' y => ?_⟩
    obtain ⟨e, y⟩ := y
    subst e
    exact hs i x _ (y xs q) p
  · have e : i = xs.length := by omega
    subst e
    exact .inl ⟨⟨xs, q, Nat.le_refl _⟩, hd H p⟩
theorem in_tup {Nx : Hp → Prop} (Pv : Nat → Hp → Prop) (h0 : Pv 0 H1) (hl : ∀ i H, i ≤ xs.length → Pv i H → SqT K H a xs)
    (hs : ∀ i x H, xs[i]? = some x → Pv i H → g x (wipe σ vs) H fun σ2 H2 => wipe σ2 vs = wipe σ vs ∧ tt σ2 H2 fun b H3 =>
      if b = true then te σ2 H3 fun y H4 => ∃ acc, H4 D = some (.lst acc) ∧ acc.length < sizeLine ∧ Pv (i + 1) (upd H4 D (.lst (acc ++ [y]))) else Pv (i + 1) H3) (hd : ∀ H, Pv xs.length H → Nx H) :
    ∃ W : Nat → Nat → Hp → Prop, (∃ m, W 0 m H1) ∧ ∀ i m H, W i m H →
      ((Itt K a).stop i H ∧ Nx H) ∨ ((Itt K a).go i H ∧ ∃ Nx1 : Hp → Prop, (∀ H', Nx1 H' → ∃ m', m' < m ∧ W (i + 1) m' H') ∧ ∀ x H', (Itt K a).yld i H x H' → g x (wipe σ vs) H' fun σ2 H2 => wipe σ2 vs = wipe σ vs ∧ tt σ2 H2 fun b H3 =>
        if b = true then te σ2 H3 fun y H4 => ∃ acc, H4 D = some (.lst acc) ∧ acc.length < sizeLine ∧ Nx1 (upd H4 D (.lst (acc ++ [y]))) else Nx1 H3) := by
  refine ⟨fun i m H => m = xs.length - i ∧ i ≤ xs.length ∧ Pv i H, ⟨xs.length, by simp, Nat.zero_le _, h0⟩, ?_⟩
  rintro i m H ⟨rfl, hi, p⟩
  have q := hl i H hi p
  by_cases hlt : i < xs.length
  · refine .inr ⟨⟨xs, xs[i], q, by simp [hlt]⟩, Pv (i + 1), fun H' p' => ⟨xs.length - (i + 1), by omega, rfl, hlt, p'⟩, fun x H' y => ?_⟩
    obtain ⟨e, y⟩ := y
    subst e
    exact hs i x _ (y xs q) p
  · have e : i = xs.length := by omega
    subst e
    exact .inl ⟨⟨xs, q, Nat.le_refl _⟩, hd H p⟩
end
theorem take_at {α : Type} {l : List α} {j : Nat} {x : α} (h : l[j]? = some x) : l.take (j + 1) = l.take j ++ [x] := by rw [List.take_succ, h]; rfl
theorem take_end {α : Type} {l : List α} {n : Nat} (h : n = l.length) : l.take n = l := by subst h; exact List.take_length
theorem lt_two {α : Type} [Enc α] {K : PySem.W.Frag} {F : Hp} {acc : List V} {ds L1 rest l0 : List α} {j : Nat} {x : α} (h : RL K F acc (ds ++ L1.take j)) (he : L1[j]? = some x) (hr : ds ++ (L1 ++ rest) = l0) (hk : l0.length ≤ sizeLine) : acc.length < sizeLine := by
  have h1 := RL.len h
  have h2 := (List.getElem?_eq_some_iff.mp he).1
  rw [List.length_append, List.length_take] at h1
  rw [← hr, List.length_append, List.length_append] at hk
  omega
end G
/-! My base, part 41: sets of texts that grow. -/
namespace G
open PySem PySem.Spec PyProof.Rows L2 TL
def kS (x : Str) : Key := Sum.inr x
def inK (xs : List Str) : Key → Bool
  | .inl _ => false
  | .inr x => decide (x ∈ xs)
def SetT (P : Program) (w : World) (p : Addr) (xs : List Str) : HO := SetK P w p (inK xs) xs.length
theorem SetT.nt {P : Program} {w : World} {p : Addr} {xs : List Str} : ∀ ts, SetT P w p xs ≠ .tup ts := fun ts z => by
  unfold SetT SetK at z
  cases z
def addS (xs : List Str) (x : Str) : List Str := if x ∈ xs then xs else xs ++ [x]
def addO (xs : List Str) (x : Str) : Option (List Str) := if xs.length < 4000 then some (addS xs x) else none
theorem addO_ok {xs r : List Str} {x : Str} (h : addO xs x = some r) : xs.length < 4000 ∧ addS xs x = r := by
  unfold addO at h
  split at h
  · exact ⟨by assumption, Option.some.inj h⟩
  · cases h
theorem add_room {xs : List Str} (h : xs.length < 4000) : xs.length + 1 < scanBound := by
  show xs.length + 1 < 4096
  omega
theorem add_len {xs : List Str} {x : Str} (h : xs.length < 4000) : (addS xs x).length ≤ sizeLine := by
  rw [sizeLine_eq]
  unfold addS
  split
  · omega
  · rw [List.length_append]; show _ + 1 ≤ _; omega
theorem mem_addS {xs : List Str} {x y : Str} : y ∈ addS xs x ↔ y ∈ xs ∨ y = x := by
  unfold addS
  split
  · next h =>
    constructor
    · exact .inl
    · rintro (h1 | rfl)
      · exact h1
      · exact h
  · rw [List.mem_append, List.mem_singleton]
theorem SetT.add {P : Program} {w : World} {p : Addr} {xs : List Str} {x : Str} {H : Hp} :
    upd H p (SetK P w p (fun j => inK xs j || decide (j = kS x)) (if inK xs (kS x) = true then xs.length else xs.length + 1)) = upd H p (SetT P w p (addS xs x)) := by
  unfold SetT
  have e1 : (fun j => inK xs j || decide (j = kS x)) = inK (addS xs x) := funext fun j => by
    cases j with
    | inl i => show (false || decide ((Sum.inl i : Key) = Sum.inr x)) = false; rw [Bool.false_or]; exact decide_eq_false (fun z => nomatch z)
    | inr y =>
      show (decide (y ∈ xs) || decide ((Sum.inr y : Key) = Sum.inr x)) = decide (y ∈ addS xs x)
      rw [Bool.eq_iff_iff, Bool.or_eq_true, decide_eq_true_iff, decide_eq_true_iff, decide_eq_true_iff, mem_addS, Sum.inr.injEq]
  have e2 : (if inK xs (kS x) = true then xs.length else xs.length + 1) = (addS xs x).length := by
    show (if decide (x ∈ xs) = true then _ else _) = _
    unfold addS
    by_cases h : x ∈ xs
    · rw [if_pos h, if_pos (decide_eq_true h)]
    · rw [if_neg h, if_neg (by rw [decide_eq_true_iff]; exact h), List.length_append]
      rfl
  rw [e1, e2]
def RS (ws xs : List Str) : Prop := ws = xs
theorem RS.up {ws xs : List Str} {F F' : Hp} (h : RS ws xs) (_ : Same F F') : RS ws xs := h
theorem RS.re {ws x y : List Str} (e : x = y) (h : RS ws x) : RS ws y := e ▸ h
section
variable {X : Cx}
def rSetT (P : Program) (w : World) : List V → Hp → VK → Prop := fun vs H Q => vs = [] ∧ ∀ p, H p = none → Q (.ref p) (upd H p (SetT P w p []))
theorem SetT.none {P : Program} {w : World} {p : Addr} : SetK P w p (fun _ => false) 0 = SetT P w p [] := by
  unfold SetT
  have e : (fun _ => false) = inK [] := funext fun j => by cases j <;> rfl
  rw [e]
  rfl
theorem call_setT : CallR X (.type "set") (rSetT X.prog X.w) := fun pins s σ H vs us Q I r ⟨e, q⟩ =>
  cr_set0K pins s σ H vs us Q I r ⟨e, fun p hp => by rw [SetT.none]; exact q p hp⟩
def rInT (P : Program) (w : World) : V → V → Hp → VK → Prop := fun x y H Q => ∃ (k : Str) (a : Addr) (xs : List Str), x = V.str k ∧ y = V.ref a ∧ H a = some (SetT P w a xs) ∧ Q (.bl (decide (k ∈ xs))) H
def rNotInT (P : Program) (w : World) : V → V → Hp → VK → Prop := fun x y H Q => ∃ (k : Str) (a : Addr) (xs : List Str), x = V.str k ∧ y = V.ref a ∧ H a = some (SetT P w a xs) ∧ Q (.bl (!decide (k ∈ xs))) H
theorem op_inT : OpR X (compareOp .In) (rInT X.prog X.w) := by
  intro pins s σ H x y v u Q I rx ry h
  obtain ⟨k, a, xs, e1, e2, ha, q⟩ := h
  exact or_sinK pins s σ H x y v u Q I rx ry ⟨kS k, a, inK xs, _, e1, e2, ha, q⟩
theorem op_notInT : OpR X (compareOp .NotIn) (rNotInT X.prog X.w) := by
  intro pins s σ H x y v u Q I rx ry h
  obtain ⟨k, a, xs, e1, e2, ha, q⟩ := h
  exact or_snotinK pins s σ H x y v u Q I rx ry ⟨kS k, a, inK xs, _, e1, e2, ha, q⟩
def tAddT (P : Program) (w : World) (to : TE) (t : TA) : TE := fun σ H Q => tSAddK P w to t σ H fun v H1 => ∃ H2, H1 = H2 ∧ Q v H2
theorem pe_addT {o e : Expr} {to : TE} {t : TA} {apos cpos : Pos} (ho : PE X o to) (ha : PA X [e] t)
    (hbase : attributeBase o "add" X.env (eval o X.env) = eval o X.env := by rfl) (hline : (apos.endLine == cpos.line) = true := by rfl) (hs : starEach [e] X.env = (false, eval e X.env) :: starEach [] X.env := by rfl)
    (hfew : ((backTo cpos (starEach [e] X.env)).all (fun x => !x.1) && (backToKw cpos (keywordEach [] X.env)).all (fun x => x.1.isSome) && decide ([e].length + ([] : List Keyword).length + (if ([] : List Keyword).isEmpty then 0 else 1) < 30)) = true := by rfl) :
    PE X (.Call (.Attribute o "add" apos) [e] [] cpos) (tAddT X.prog X.w to t) :=
  ⟨fun pins s σ H Q I h => thn ((pe_saddK ho ha hbase hfew hline hs rfl).run pins s σ H _ I h) fun v s1 ⟨x, H1, I1, r1, H2, e, q⟩ => ⟨x, H2, e ▸ I1, r1, q⟩⟩
theorem op_inTK {P : Program} {w : World} (h : X.prog = P := by rfl) (h2 : X.w = w := by rfl) : OpR X (compareOp .In) (rInT P w) := by subst h; subst h2; exact op_inT
theorem op_notInTK {P : Program} {w : World} (h : X.prog = P := by rfl) (h2 : X.w = w := by rfl) : OpR X (compareOp .NotIn) (rNotInT P w) := by subst h; subst h2; exact op_notInT
end
end G
/-! My base, part 42: dicts told, whose keys are ints or None and whose values are True. -/
namespace G
open PySem PySem.Spec PyProof.Rows L2 TL
def vN : Option Int → V
  | none => .non
  | some i => .int i
def nk (x : Option Int) : Option Key := x.map Sum.inl
theorem nk_inj {x y : Option Int} : nk x = nk y ↔ x = y := by
  cases x <;> cases y <;> simp [nk]
theorem vN_is {P : Program} {w : World} {x : Option Int} {u : Value} (r : RelV (vN x) u) : (noneKind P w).is (nk x) u = true := by
  cases x with
  | none =>
    obtain rfl : u = Value.none := r
    rfl
  | some i => exact kV_is (P := P) (w := w) (k := .inl i) r
theorem is_vN {P : Program} {w : World} {x : Option Int} {u : Value} (h : (noneKind P w).is (nk x) u = true) : RelV (vN x) u := by
  cases x with
  | none =>
    have e : nkIs none u = true := h
    rw [nk_none e]
    rfl
  | some i => exact relV_key (k := .inl i) h
theorem R_vN {K : PySem.W.Frag} {F : Hp} {v : V} {x : Option Int} (r : R K F v x) : v = vN x := by
  cases x with
  | none => cases (show Rp K F v PyData.none from r); rfl
  | some i => exact R.int_v r
theorem R_ofN {K : PySem.W.Frag} {F : Hp} (x : Option Int) : R K F (vN x) x := by
  cases x with
  | none => exact Rp.non
  | some i => exact Rp.int i
def prN (ks : List (Option Int)) : List (Option Key × Value) := ks.map fun x => (nk x, Value.bool true)
theorem pairs_all {P P' : Program} {w w' : World} {es : List DictEntry} {kvs : List (Option Key × Value)} (h : Pairs (noneKind P w) es kvs) : Pairs (noneKind P' w') es kvs := by
  induction h with
  | nil => exact .nil
  | cons h1 h2 r ih => exact .cons h1 h2 ih
theorem pairs_mem {P : Program} {w : World} {es : List DictEntry} {kvs : List (Option Key × Value)} (h : Pairs (noneKind P w) es kvs) : ∀ e ∈ es, ∃ kv ∈ kvs, (noneKind P w).is kv.1 e.key = true := by
  induction h with
  | nil => exact fun _ h => nomatch h
  | @cons e kv es kvs h1 h2 r ih =>
    intro f hf
    rcases List.mem_cons.mp hf with rfl | hf
    · exact ⟨kv, List.mem_cons_self .., h1⟩
    · obtain ⟨q, hq, h3⟩ := ih f hf
      exact ⟨q, List.mem_cons_of_mem _ hq, h3⟩
/-- whatever the world: None's hash and the ints' do not ask it -/
theorem kinds {P P' : Program} {w w' : World} {h : Heap} {d : Addr} {ks : List (Option Int)} (x : h.DictOf (noneKind P w) d (prN ks)) : h.DictOf (noneKind P' w') d (prN ks) := by
  obtain ⟨o, es, ep, ho, hx, hdt, hk, hp, hn⟩ := x
  refine ⟨o, es, ep, ho, hx, hdt, fun e he => ?_, pairs_all hp, hn⟩
  obtain ⟨k, h1, h2⟩ := hk e he
  obtain ⟨kv, hkv, h3⟩ := pairs_mem hp e (by simpa using he)
  obtain ⟨z, hz, rfl⟩ := List.mem_map.mp hkv
  have e2 := (noneKind P w).inj _ _ _ h1 h3
  subst e2
  refine ⟨nk z, h3, h2.trans ?_⟩
  cases z <;> rfl
def DN (d : Addr) (ks : List (Option Int)) : HO := .ext fun h => ks.length ≤ sizeLine ∧ (d == sysModules) = false ∧ ∀ P w, h.DictOf (noneKind P w) d (prN ks)
theorem dictOf_at {P : Program} {w : World} {h h' : Heap} {a : Addr} {kvs : List (Option Key × Value)} (x : h.DictOf (noneKind P w) a kvs) (k : ∀ o, h.get? a = some o → h'.get? a = some o) : h'.DictOf (noneKind P w) a kvs := by
  obtain ⟨o, es, ep, ho, r⟩ := x
  exact ⟨o, es, ep, k o ho, r⟩
theorem dn_ok {P : Program} {w : World} {H : Hp} {h : Heap} {d : Addr} {ks : List (Option Int)} (hl : ks.length ≤ sizeLine) (hd : (d == sysModules) = false) (x : h.DictOf (noneKind P w) d (prN ks)) : ObjOk P w H h d (DN d ks) := by
  have ⟨o, _, _, ho, _⟩ := x
  exact ⟨⟨hl, hd, fun _ _ => kinds x⟩, ⟨o, ho⟩, fun h1 h2 p k => ⟨p.1, p.2.1, fun P w => dictOf_at (p.2.2 P w) k⟩⟩
theorem dn_frz {P : Program} {w : World} {H : Hp} {h : Heap} {d : Addr} {ks : List (Option Int)} (hl : ks.length ≤ sizeLine) (hd : (d == sysModules) = false) (x : h.DictOf (noneKind P w) d (prN ks)) : ∃ o, h.get? d = some o ∧ ObjOk P w H h d (.frz o (DN d ks)) := by
  have ⟨o, _, _, ho, _⟩ := x
  exact ⟨o, ho, ho, dn_ok hl hd x⟩
theorem dict_none {P : Program} {w : World} {h : Heap} {a : Addr} (x : h.DictOf (mixKind P w) a []) : h.DictOf (noneKind P w) a [] := by
  obtain ⟨o, es, ep, ho, hx, hdt, hk, hp, hn⟩ := x
  have e : es.toList = [] := by
    have := hp.length
    exact List.length_eq_zero_iff.mp this
  have e2 : es = #[] := by
    apply Array.toList_inj.mp
    rw [e]
  subst e2
  exact ⟨o, #[], ep, ho, hx, hdt, fun e he => by simp at he, .nil, List.nodup_nil⟩
theorem val_prN (ks : List (Option Int)) (k : Option Int) : (valueAt (prN ks) (nk k)).isSome = decide (k ∈ ks) := by
  unfold valueAt prN
  rw [Option.isSome_map, List.find?_map, Option.isSome_map, Bool.eq_iff_iff, List.find?_isSome, decide_eq_true_iff]
  constructor
  · rintro ⟨x, hx, e⟩
    have e : nk x = nk k := of_decide_eq_true e
    exact nk_inj.mp e ▸ hx
  · exact fun h => ⟨k, h, decide_eq_true rfl⟩
def putN (ks : List (Option Int)) (k : Option Int) : List (Option Int) := if k ∈ ks then ks else ks ++ [k]
theorem putN_len (ks : List (Option Int)) (k : Option Int) : (putN ks k).length ≤ ks.length + 1 := by
  unfold putN
  split
  · exact Nat.le_succ _
  · rw [List.length_append]; exact Nat.le_refl _
theorem stored_prN (ks : List (Option Int)) (k : Option Int) : stored (prN ks) (nk k) (Value.bool true) = prN (putN ks k) := by
  unfold stored
  have e : ((prN ks).any fun kv => kv.1 = nk k) = decide (k ∈ ks) := by
    unfold prN
    rw [List.any_map, Bool.eq_iff_iff, List.any_eq_true, decide_eq_true_iff]
    constructor
    · rintro ⟨x, hx, e⟩
      have e : nk x = nk k := of_decide_eq_true e
      exact nk_inj.mp e ▸ hx
    · exact fun h => ⟨k, h, decide_eq_true rfl⟩
  rw [e]
  unfold putN
  by_cases h : k ∈ ks
  · rw [if_pos (decide_eq_true h), if_pos h]
    unfold prN
    rw [List.map_map]
    refine List.map_congr_left fun x _ => ?_
    show (if nk x = nk k then (nk x, Value.bool true) else (nk x, Value.bool true)) = _
    split <;> rfl
  · rw [if_neg (by rw [decide_eq_true_iff]; exact h), if_neg h]
    unfold prN
    rw [List.map_append]
    rfl
section
variable {X : Cx} {pins : List (Addr × Obj)} {σ : L2.St} {H : Hp} {s : Shared} {d : Addr} {o : Obj} {ks : List (Option Int)}
theorem frzN (I : Inv X pins σ H s) (h : H d = some (.frz o (DN d ks))) : (d == sysModules) = false ∧ s.heap.get? d = some o ∧ ks.length ≤ sizeLine ∧ s.heap.DictOf (noneKind X.prog X.w) d (prN ks) := by
  obtain ⟨hd, ⟨hl, hs, dd⟩, _⟩ := I.hok d _ h
  exact ⟨hs, hd, hl, dd _ _⟩
/-- the dict that is being made -/
def NH (H : Hp) (p : Addr) (ks : List (Option Int)) : Prop := (ks = [] ∧ H p = some (.dK [])) ∨ H p = some (DN p ks)
theorem nh_at (I : Inv X pins σ H s) (h : NH H d ks) : ks.length ≤ sizeLine ∧ (d == sysModules) = false ∧ s.heap.DictOf (noneKind X.prog X.w) d (prN ks) ∧ Mut (H d) := by
  rcases h with ⟨rfl, h⟩ | h
  · obtain ⟨z, hd, vs, rel, dd⟩ := dk_of I.hok h
    cases rel
    exact ⟨Nat.zero_le _, hd, dict_none dd, by rw [h]; exact True.intro⟩
  · obtain ⟨⟨hl, hs, dd⟩, _⟩ := I.hok d _ h
    exact ⟨hl, hs, dd _ _, by rw [h]; exact True.intro⟩
theorem nh_lock (I : Inv X pins σ H s) (h : NH H d ks) : ∃ o, Inv X pins σ (upd H d (.frz o (DN d ks))) s := by
  obtain ⟨hl, hd, dd, mu⟩ := nh_at I h
  obtain ⟨o, ho, new⟩ := dn_frz (H := upd H d (.frz (Classical.choose dd) (DN d ks))) hl hd dd
  have ⟨o2, _, _, ho2, _⟩ := dd
  exact ⟨o, I.write (x := d) (e := d) (t' := s.toks) (h' := s.heap) mu (.inl rfl) (fun b v _ q => q) ⟨o, ho⟩ ⟨ho, dn_ok hl hd dd⟩⟩
def SN : Hp → Addr → V → V → Hp → Prop := fun H D y z H' => ∃ ks k, NH H D ks ∧ y = vN k ∧ z = .bl true ∧ ks.length < sizeLine ∧ H' = upd H D (DN D (putN ks k))
theorem storeN {P : Program} {w : World} : StoreOk P w SN (.dK []) := ⟨fun H h hb => dk_empty h hb, @fun X pins σ H H' s E D y z u r Q hP hw hu I g ry rv h => by
  subst hP hw
  obtain ⟨ks, k, nh, rfl, rfl, hl, rfl⟩ := g
  obtain ⟨hl2, hd, dd, mu⟩ := nh_at I nh
  obtain rfl : r = Value.bool true := rv
  refine wpAny_dictSet_pairs (hsz := by unfold prN; rw [List.length_map]; exact hl2) (vN_is ry) dd fun h' dd' hs => h _ ?_
  rw [stored_prN] at dd'
  have ⟨q, _, _, hq, _⟩ := dd'
  have hn : (putN ks k).length ≤ sizeLine := by have := putN_len ks k; omega
  exact d_write I mu hs ⟨q, hq⟩ (dn_ok hn hd dd')⟩
/-- {k: True for ..}, told -/
def tDcN (wi : TI) (g : TG) (tt : TT) (tk tv : TE) (vs : List Nat) : TE := fun σ H Q => tDcS SN (.dK []) wi g tt tk tv vs σ H fun v H1 => ∃ p ks, v = .ref p ∧ NH H1 p ks ∧ ∀ o, Q v (upd H1 p (.frz o (DN p ks)))
theorem pe_dcN {kx vx tg iter : Expr} {ifs : List Expr} {scope : Scope} {own : List (Str × Nat)} {pos : Pos} {wi : TI} {g : TG} {tt : TT} {tk tv : TE} (hc : X.calm = true) (hu : X.A.units + 1 < cLine) (hN : X.N.Nodup)
    (hi : PI X tg iter wi) (ok : BlkOk X.N X.env.scope scope own)
    (hg : ∀ (s : Shared) (H : Hp) (C : Addr) (cl : List (Str × Addr)) (fp : List Addr), PG (X.blk s H scope (compEnvC scope cl C X.env) fp) tg g) (ht : ∀ (s : Shared) (H : Hp) (C : Addr) (cl : List (Str × Addr)) (fp : List Addr), PTs (X.blk s H scope (compEnvC scope cl C X.env) fp) ifs tt)
    (hk : ∀ (s : Shared) (H : Hp) (C : Addr) (cl : List (Str × Addr)) (fp : List Addr), PE (X.blk s H scope (compEnvC scope cl C X.env) fp) kx tk)
    (he : ∀ (s : Shared) (H : Hp) (C : Addr) (cl : List (Str × Addr)) (fp : List Addr), PE (X.blk s H scope (compEnvC scope cl C X.env) fp) vx tv) (hs : ∀ x, foldedSetIterable iter X.env x = pure x := by intro _; rfl) :
    PE X (.DictComp kx vx [⟨tg, iter, ifs, 0⟩] scope pos) (tDcN wi g tt tk tv (own.map (·.2))) :=
  ⟨fun pins s σ H Q I h => thn ((pe_dcS storeN hc hu hN hi ok hg ht hk he hs).run pins s σ H _ I h) fun v s1 ⟨x, H1, I1, r1, p, ks, e, nh, q⟩ => by
    obtain ⟨o, I2⟩ := nh_lock I1 nh
    exact ⟨x, _, I2, r1, q o⟩⟩
/-- a statement behind which a dict that was made is told -/
def tFzN (t : TS) : TS := fun D σ H => t ⟨fun σ' H' => ∃ p ks, NH H' p ks ∧ ∀ o, D.nx σ' (upd H' p (.frz o (DN p ks))), D.rt, D.bk, D.ct⟩ σ H
theorem ps_fzN {st : Stmt} {t : TS} (h : PS X st t) : PS X st (tFzN t) := ⟨fun pins s σ H D I hw => thn (h.run pins s σ H _ I hw) fun f s1 q => by
  cases f with
  | next =>
    obtain ⟨σ', H', I2, p, ks, nh, q⟩ := q
    obtain ⟨o, I3⟩ := nh_lock I2 nh
    exact ⟨σ', _, I3, q o⟩
  | brk => exact q
  | cont => exact q
  | ret v => exact q⟩
/-- {k: True}, told -/
def tDispN (tk tv : TE) : TE := fun σ H Q => ∀ p, H p = none → tk σ (upd H p (.dK [])) fun y H2 => tv σ H2 fun z H3 => H3 p = some (.dK []) ∧ z = .bl true ∧ ∃ k : Option Int, y = vN k ∧ ∀ o, Q (.ref p) (upd H3 p (.frz o (DN p [k])))
theorem pe_dispN {e v : Expr} {pos : Pos} {tk tv : TE} (hk : PE X e tk) (hv : PE X v tv) : PE X (.Dict [some e] [v] pos) (tDispN tk tv) := by
  refine ⟨fun pins s σ H Q I q => ?_⟩
  have hn := I.hok.fresh (Nat.le_refl s.heap.objs.size)
  have I1 := I.laid (a := s.heap.objs.size) (o := .dK []) (h' := s.heap.push { cls := .type "dict", data := .dict #[] }) (t' := s.toks) (fun _ _ q => Heap.get?_push_of_some _ q) (Nat.le_refl _) (dk_empty s.heap I.big)
  have pp : PPs X pos [some e] [v] [(tk, tv)] := pps_cons hk hv pps_nil
  refine wpAny_Dict_walk (knd := noneKind X.prog X.w) rfl rfl (fun z => nomatch z) (by show 1 ≤ 15; decide) (thn (pp.run pins _ σ _ (fun ps H2 => match ps with
    | [(y, z)] => H2 s.heap.objs.size = some (.dK []) ∧ z = .bl true ∧ ∃ k : Option Int, y = vN k ∧ ∀ o, Q (.ref s.heap.objs.size) (upd H2 s.heap.objs.size (.frz o (DN s.heap.objs.size [k])))
    | _ => False) I1 (q _ hn)) fun ws s2 ⟨ps, H2, I2, rel, q2⟩ => ?_)
  match ps, rel, q2 with
  | [(y, z)], rel1, ⟨e2, e3, k, e4, q2⟩ =>
    obtain ⟨b1, b2, ew, r1, r2⟩ : ∃ b1 b2, ws = [(b1, b2)] ∧ RelV y b1 ∧ RelV z b2 := by
      cases rel1 with
      | @cons _ b _ _ hab t =>
        cases t
        obtain ⟨b1, b2⟩ := b
        exact ⟨b1, b2, rfl, hab.1, hab.2⟩
    subst e3 e4 ew
    obtain rfl : b2 = Value.bool true := r2
    obtain ⟨hl, hd, dd, mu⟩ := nh_at I2 (d := s.heap.objs.size) (ks := []) (.inl ⟨rfl, e2⟩)
    refine ⟨[(nk k, Value.bool true)], ⟨vN_is r1, rfl, True.intro⟩, dd, fun h' dd' hs => ?_⟩
    have dd2 : h'.DictOf (noneKind X.prog X.w) s.heap.objs.size (prN [k]) := dd'
    have hl1 : ([k] : List (Option Int)).length ≤ sizeLine := by rw [sizeLine_eq]; show 1 ≤ 16777216; decide
    obtain ⟨o, ho, new⟩ := dn_frz (H := H2) hl1 hd dd2
    exact ⟨.ref s.heap.objs.size, _, d_write (ob := .frz o (DN s.heap.objs.size [k])) I2 mu hs ⟨o, ho⟩ ⟨ho, dn_ok hl1 hd dd2⟩, rfl, q2 o⟩
end
end G
/-! My base, part 43: told dicts of None and ints: in, walks, list(d), d != {}. -/
namespace G
open PySem PySem.Spec PyProof.Rows L2 TL
/-- the keys of the told dict at d -/
def Itn (d : Addr) (o : Obj) (ks : List (Option Int)) : It :=
  ⟨fun i H => H d = some (.frz o (DN d ks)) ∧ i < ks.length, fun i H x H' => H' = H ∧ ∃ k, ks[i]? = some k ∧ x = vN k, fun i H => H d = some (.frz o (DN d ks)) ∧ ks.length ≤ i⟩
def YKeyN (ks : List (Option Int)) : Nat → Hp → V → Hp → Prop := fun i H x H' => H' = H ∧ ∃ k, ks[i]? = some k ∧ x = vN k
theorem walk_keysN {d : Addr} {o : Obj} {ks : List (Option Int)} : Walk (Itn d o ks) ks.length (fun H => H d = some (.frz o (DN d ks))) (YKeyN ks) :=
  ⟨fun i H hi h => ⟨h, hi⟩, fun H h => ⟨h, Nat.le_refl _⟩, fun i H x H' hi h y => y⟩
theorem prN_len (ks : List (Option Int)) : (prN ks).length = ks.length := List.length_map ..
theorem prN_at {ks : List (Option Int)} {i : Nat} {k : Option Int} (h : ks[i]? = some k) : (prN ks)[i]? = some (nk k, Value.bool true) := by
  unfold prN
  rw [List.getElem?_map, h]
  rfl
theorem size_prN {P : Program} {w : World} {h : Heap} {d : Addr} {ks : List (Option Int)} {o : Obj} {es : Array DictEntry} {ep : Nat} (x : h.DictOf (noneKind P w) d (prN ks)) (ho : h.get? d = some o) (hdt : o.data = .dict es ep) : es.size = ks.length ∧ h.DictAt (noneKind P w) d (prN ks) ep := by
  obtain ⟨o2, es2, ep2, ho2, hx, hdt2, hk, hp, hn⟩ := x
  rw [ho] at ho2
  cases ho2
  rw [hdt] at hdt2
  cases hdt2
  have l1 := hp.length
  rw [Array.length_toList, prN_len] at l1
  exact ⟨l1, o, es, ho, hx, hdt, hk, hp, hn⟩
section
variable {P : Program} {w : World} {K : PySem.W.Frag} {tg : Expr} {d : Addr} {o : Obj} {es : Array DictEntry} {ep : Nat} {ks : List (Option Int)}
theorem turn_keysN (it : Addr) (hod : o.data = .dict es ep) : Turn P w K tg (Itn d o ks) [it] it (fun i h => h.IsKeyIter it d i ks.length ep) where
  mem := List.mem_singleton.mpr rfl
  obj := fun i h st b hb => by
    obtain rfl := List.mem_singleton.mp hb
    obtain ⟨oi, e1, e2, e3⟩ := st
    exact ⟨oi, e1, fun v z => by rw [e3] at z; cases z⟩
  keep := fun i h h' st k => st.at fun oi e => k it (List.mem_singleton.mpr rfl) oi e
  item := by
    intro X hP hw hK hc i pins s σ H E I hf st hg
    subst hP hw hK
    obtain ⟨hd, hi⟩ := hg
    obtain ⟨f0, f1, f2, f3, f4, f5⟩ := hf it (List.mem_singleton.mpr rfl)
    obtain ⟨hs, hgd, hl, dd⟩ := frzN I hd
    obtain ⟨hsz, hm⟩ := size_prN dd hgd hod
    have hk : ks[i]? = some ks[i] := List.getElem?_eq_getElem hi
    have st2 : s.heap.IsKeyIter it d i (prN ks).length ep := by rw [prN_len]; exact st
    refine wpAny_pyNext_dict_item st2 hm (prN_at hk) fun key h' hkey st' sb => ?_
    rw [prN_len] at st'
    have I1 : Inv X pins σ H { s with heap := h' } := I.turned (t' := s.toks) (fun b ob hb e => (sb.2 b hb).trans e) f0 f1 f3 f4 f5
    obtain ⟨oi, e1, e2, e3⟩ := id st'
    exact ⟨key, rfl, go_of (s := { s with heap := h' }) e1 e2 e3 (by decide) ⟨vN ks[i], H, I1, is_vN hkey, ⟨rfl, ks[i], hk, rfl⟩, st', fun b hb => (hf b hb).1⟩⟩
  done := by
    intro X hP hw hK hc i pins s σ H E I hf st hg
    subst hP hw hK
    obtain ⟨hd, hi⟩ := hg
    obtain ⟨f0, f1, f2, f3, f4, f5⟩ := hf it (List.mem_singleton.mpr rfl)
    obtain ⟨hs, hgd, hl, dd⟩ := frzN I hd
    obtain ⟨hsz, hm⟩ := size_prN dd hgd hod
    exact next_key_end (I.ok.hd hc) st hgd hod hsz hi fun h' eb => ⟨rfl, I.turned (t' := s.toks) (fun b ob hb e => eb b ob hb e) f0 f1 f3 f4 f5⟩
  self := fun A i s Q E st h => wpAny_pyIter_keyiter st h
end
section
variable {X : Cx}
def iKeysN (td : TE) : TI := fun σ H R => td σ H fun x H1 => ∃ d o ks, x = .ref d ∧ H1 d = some (.frz o (DN d ks)) ∧ R (Itn d o ks) H1
theorem pi_keysN {tg e : Expr} {td : TE} (he : PE X e td) : PI X tg e (iKeysN td) := by
  refine ⟨fun pins s σ H R I h => thn (he.run pins s σ H _ I h) fun u s1 ⟨x, H1, I1, rx, d, o, ks, ex, hd, q⟩ => ?_⟩
  subst ex
  obtain rfl : u = Value.ref d := rx
  obtain ⟨hs, hgd, hl, dd⟩ := frzN I1 hd
  obtain ⟨o2, es, ep, ho2, hx, hdt, _⟩ := id dd
  rw [hgd] at ho2
  cases ho2
  obtain ⟨hsz, hm⟩ := size_prN dd hgd hdt
  refine iter_keys hs hgd hx hdt (pi_one (tk := s1.toks) I1 _ (turn_keysN _ hdt) ⟨_, Heap.get?_push_size _ rfl, rfl, ?_⟩ q)
  rw [hsz] <;> rfl
def rInN : V → V → Hp → VK → Prop := fun x y H Q => ∃ k d o ks, x = vN k ∧ y = .ref d ∧ H d = some (.frz o (DN d ks)) ∧ Q (.bl (decide (k ∈ ks))) H
def rNotInN : V → V → Hp → VK → Prop := fun x y H Q => ∃ k d o ks, x = vN k ∧ y = .ref d ∧ H d = some (.frz o (DN d ks)) ∧ Q (.bl (!decide (k ∈ ks))) H
theorem op_inN : OpR X (compareOp .In) rInN := by
  intro pins s σ H x y v u Q I rx ry h
  obtain ⟨k, d, o, ks, rfl, rfl, hd, q⟩ := h
  obtain rfl : u = Value.ref d := ry
  obtain ⟨hs, hgd, hl, dd⟩ := frzN I hd
  exact wpAny_in_of (vN_is rx) hs dd.mapOf (fin_bl (I.tok _) q (val_prN ks k).symm)
theorem op_notInN : OpR X (compareOp .NotIn) rNotInN := by
  intro pins s σ H x y v u Q I rx ry h
  obtain ⟨k, d, o, ks, rfl, rfl, hd, q⟩ := h
  obtain rfl : u = Value.ref d := ry
  obtain ⟨hs, hgd, hl, dd⟩ := frzN I hd
  exact wpAny_notIn_of (vN_is rx) hs dd.mapOf (fin_bl (I.tok _) q (by rw [val_prN ks k]))
/-- d != {} -/
def rNeN : V → V → Hp → VK → Prop := fun x y H Q => ∃ d o ks b, x = .ref d ∧ y = .ref b ∧ H d = some (.frz o (DN d ks)) ∧ H b = some (.dK []) ∧ Q (.bl (!ks.isEmpty)) H
theorem op_neN (hu : X.A.units < cLine) : OpR X (compareOp .NotEq) rNeN := by
  intro pins s σ H x y v u Q I rx ry h
  obtain ⟨d, o, ks, b, rfl, rfl, hd, hb, q⟩ := h
  obtain rfl : v = Value.ref d := rx
  obtain rfl : u = Value.ref b := ry
  obtain ⟨hs, hgd, hl, dd⟩ := frzN I hd
  obtain ⟨hl2, hs2, db, _⟩ := nh_at I (d := b) (ks := []) (.inl ⟨rfl, hb⟩)
  cases ks with
  | nil => exact PySem.W.keq_ne (knd := noneKind X.prog X.w) (r := true) hs hs2 dd db hu (fun _ => .nil) (fin_bl I q rfl)
  | cons k ks => exact PySem.W.keq_ne (knd := noneKind X.prog X.w) (r := true) hs hs2 dd db hu (fun e => by rw [prN_len] at e; exact absurd e (by simp [prN])) (fin_bl I q rfl)
/-- list(d) -/
def rListN : List V → Hp → VK → Prop := fun xs H Q => ∃ d o ks, xs = [.ref d] ∧ H d = some (.frz o (DN d ks)) ∧ ∀ q, H q = none → Q (.ref q) (upd H q (.lst (ks.map vN)))
theorem call_list_N (hc : X.calm = true) : CallR X (.type "list") rListN := by
  intro pins s σ H xs us Q I r h
  obtain ⟨d, o, ks, e, hd, q⟩ := h
  subst e
  obtain ⟨u, eu, rx⟩ := vals1 r
  subst eu
  obtain rfl : u = Value.ref d := rx
  obtain ⟨hs, hgd, hl, dd⟩ := frzN I hd
  obtain ⟨ep, hat⟩ := dd.dictAt
  refine PySem.W.kdl_call (PySem.W.kdl_dict (knd := noneKind X.prog X.w) (kvs := prN ks) (ep := ep) hs) (I.ok.hd hc) hat (by rw [prN_len]; exact hl) fun h' tk acc' c' hkeep hS hacc => ?_
  refine ⟨.ref s.heap.objs.size, upd H s.heap.objs.size (.lst (ks.map vN)), I.laid hkeep (Nat.le_refl _) (show ObjOk X.prog X.w _ _ _ (.lst (ks.map vN)) from ⟨by rw [List.length_map]; exact hl, acc'.toList, c', ?_, by rw [Array.toArray_toList]; exact hS⟩), rfl, q _ (I.hok.fresh (Nat.le_refl _))⟩
  have el : acc'.toList.length = acc'.size := Array.length_toList
  refine vals_of_at (by rw [List.length_map, el, hacc.1, prN_len]) fun j x w h1 h2 => ?_
  obtain ⟨k, y, hky, hi⟩ := hacc.2 j w (by rw [← Array.getElem?_toList]; exact h2)
  rw [List.getElem?_map] at h1
  obtain ⟨k2, hk2, rfl⟩ := Option.map_eq_some_iff.mp h1
  rw [prN_at hk2] at hky
  cases hky
  exact is_vN hi
end
end G
/-! My base, part 44: zip of a text and a tuple. -/
namespace G
open PySem PySem.Spec PyProof.Rows L2 TL
def ItzS (K : PySem.W.Frag) (x : Str) (b : Addr) : It :=
  ⟨fun i H => ∃ (ys : List V) (y : V) (c : Nat), SqT K H b ys ∧ ys[i]? = some y ∧ x.cps[i]? = some c,
    fun i H v H' => ∃ T y c, v = .ref T ∧ H T = none ∧ H' = upd H T (.tup [.str ⟨#[c]⟩, y]) ∧ x.cps[i]? = some c ∧ ∀ ys, SqT K H b ys → ys[i]? = some y,
    fun i H => ∃ ys : List V, SqT K H b ys ∧ i ≤ x.cps.size ∧ i ≤ ys.length ∧ (i = x.cps.size ∨ i = ys.length)⟩
abbrev ZipSt (x : Str) (t : Tok) (z TI TO i1 i2 b : Addr) (i : Nat) (h : Heap) : Prop :=
  IsZip h z TI TO .none ∧ IsTupOf2 h TI (.ref i1) (.ref i2) ∧ (∃ u v, IsTupOf2 h TO u v) ∧ h.IsStrIter i1 (strIterType x) x t i ∧ h.IsTupleIter i2 b i
theorem five {z TI TO i1 i2 c : Addr} (h : c ∈ [z, TI, TO, i1, i2]) : c = z ∨ c = TI ∨ c = TO ∨ c = i1 ∨ c = i2 := by simpa using h
theorem five_not {z TI TO i1 i2 c : Addr} (h : c ∉ [z, TI, TO, i1, i2]) : c ≠ z ∧ c ≠ TI ∧ c ≠ TO ∧ c ≠ i1 ∧ c ≠ i2 := by
  simpa [not_or] using h
theorem turn_zipS {P : Program} {w : World} {K : PySem.W.Frag} {elts : List Expr} {kk : Nat} {tpos : Pos} {x : Str} {t : Tok} {b z TI TO i1 i2 : Addr} (D : ZipSep2 z TI TO i1 i2 [i1] [i2, b]) (hb2 : b ≠ i2) :
    Turn P w K (.Tuple elts kk tpos) (ItzS K x b) [z, TI, TO, i1, i2] z (fun i h => ZipSt x t z TI TO i1 i2 b i h) where
  mem := List.mem_cons_self ..
  obj := fun i h st c hc => by
    obtain ⟨s1, s2, ⟨u, v, s3⟩, ⟨o1, e1, _, d1⟩, ⟨o2, e2, _, d2⟩⟩ := st
    rcases five hc with rfl | rfl | rfl | rfl | rfl
    · exact ⟨_, s1, (fun _ q => nomatch q)⟩
    · exact ⟨_, s2, (fun _ q => nomatch q)⟩
    · exact ⟨_, s3, (fun _ q => nomatch q)⟩
    · exact ⟨o1, e1, fun _ q => by rw [d1] at q; cases q⟩
    · exact ⟨o2, e2, fun _ q => by rw [d2] at q; cases q⟩
  keep := fun i h h' st k => by
    obtain ⟨s1, s2, ⟨u, v, s3⟩, ⟨o1, e1, r1⟩, ⟨o2, e2, r2⟩⟩ := st
    exact ⟨k z (by simp) _ s1, k TI (by simp) _ s2, ⟨u, v, k TO (by simp) _ s3⟩, ⟨o1, k i1 (by simp) _ e1, r1⟩, ⟨o2, k i2 (by simp) _ e2, r2⟩⟩
  item := by
    intro X hP hw hK hc i pins s σ H E I hf st hg
    subst hP hw hK
    obtain ⟨s1, s2, ⟨u0, v0, s3⟩, s4, s5⟩ := st
    obtain ⟨ys, y, c, sq, hy, hcx⟩ := hg
    obtain ⟨its, rv, p, _⟩ := I.tuple sq
    obtain ⟨u, hu, ru⟩ := rv.get hy
    have hzl : z < s.heap.objs.size := Heap.lt_size s1
    have hd1 : X.A.in1.handled = none := I.ok.hd hc
    have hl2 : i < its.toArray.size := by
      have := (List.getElem?_eq_some_iff.mp hu).1
      simpa using this
    refine wpAny_pyNext_zipD2_item D (Draws.text hd1 i1 x t) (Draws.tuple hd1 i2 b hb2 its.toArray) s1 s2 s3 s4 ⟨s5, p⟩ (Array.getElem?_eq_some_iff.mp hcx).1 hl2 fun x1 x2 h' tk p1 p2 z' TO' h1' h2' hT hsz hk => ?_
    obtain ⟨c2, tk2, hc2, rfl⟩ := p1
    rw [hcx] at hc2
    cases hc2
    have e2 : x2 = u := by
      have q2 : its.toArray[i]? = some x2 := p2
      have q3 : its.toArray[i]? = some u := by simpa using hu
      rw [q3] at q2
      exact (Option.some.inj q2).symm
    subst e2
    refine ⟨_, rfl, wpAny_letOwnedTupleGo_zip (s := { s with heap := h', toks := tk }) z' fun h'' z'' sb => ?_⟩
    have hT2 : h''.get? s.heap.objs.size = some { cls := .type "tuple", data := .seq #[.str ⟨#[c]⟩ tk2, x2] } := (sb.2 _ (Nat.ne_of_gt hzl)).trans hT
    have new : ObjOk X.prog X.w (upd H s.heap.objs.size (.tup [.str ⟨#[c]⟩, y])) h'' s.heap.objs.size (.tup [.str ⟨#[c]⟩, y]) :=
      ⟨by show 2 ≤ sizeLine; decide, [.str ⟨#[c]⟩ tk2, x2], .cons ⟨tk2, rfl⟩ (.cons ru .nil), ⟨_, hT2, rfl, _, rfl⟩⟩
    have I1 : Inv X pins σ (upd H s.heap.objs.size (.tup [.str ⟨#[c]⟩, y])) { s with heap := h'', toks := tk } :=
      I.turnedNew (t' := tk) (ch := [z, TI, TO, i1, i2]) (fun d o hb q => by
        obtain ⟨n1, n2, n3, n4, n5⟩ := five_not hb
        exact (sb.2 d n1).trans (hk d o n1 n3 n4 n5 q)) hf (Nat.le_refl _) new
    refine ⟨.ref s.heap.objs.size, _, I1, rfl, ⟨_, y, c, rfl, I.hok.fresh (Nat.le_refl _), rfl, hcx, fun l hl => by rw [I.tuple_inj hl sq]; exact hy⟩, ⟨z'', (sb.2 _ D.TIz).trans (hk _ _ D.TIz D.TITO D.TIi1 D.TIi2 s2), ⟨_, _, (sb.2 _ D.TOz).trans TO'⟩, ?_, ?_⟩, fun d hd => ?_⟩
    · obtain ⟨o1, e1, r1⟩ := h1'
      exact ⟨o1, (sb.2 _ D.zi1.symm).trans e1, r1⟩
    · obtain ⟨⟨o2, e2, r2⟩, _⟩ := h2'
      exact ⟨o2, (sb.2 _ D.zi2.symm).trans e2, r2⟩
    · have hlt : d < s.heap.objs.size := by
        rcases five hd with rfl | rfl | rfl | rfl | rfl
        · exact hzl
        · exact Heap.lt_size s2
        · exact Heap.lt_size s3
        · obtain ⟨_, e1, _⟩ := s4; exact Heap.lt_size e1
        · obtain ⟨_, e2, _⟩ := s5; exact Heap.lt_size e2
      rw [upd_ne (Nat.ne_of_lt hlt)]
      exact (hf d hd).1
  done := by
    intro X hP hw hK hc i pins s σ H E I hf st hg
    subst hP hw hK
    obtain ⟨s1, s2, ⟨u0, v0, s3⟩, s4, s5⟩ := st
    obtain ⟨ys, sq, h1, h2, h3⟩ := hg
    obtain ⟨its, rv, p, _⟩ := I.tuple sq
    have hd1 : X.A.in1.handled = none := I.ok.hd hc
    have hl : its.toArray.size = ys.length := by
      have := rv.length
      simpa using this.symm
    exact wpAny_pyNext_zipD2_end D (Draws.text hd1 i1 x t) (Draws.tuple hd1 i2 b hb2 its.toArray) s1 s2 s3 s4 ⟨s5, p⟩ h1 (by omega) (by omega) fun h' tk hk => ⟨rfl, I.turnedL (t' := tk) (ch := [z, TI, TO, i1, i2]) (fun d o hb q => by
        obtain ⟨n1, n2, n3, n4, n5⟩ := five_not hb
        exact hk d o n1 n3 n4 n5 q) hf⟩
  self := fun A i s Q E st h => wpAny_pyIter_zip st.1 h
theorem zipS_walk {K : PySem.W.Frag} {x : Str} {b : Addr} {ys : List V} : Walk (ItzS K x b) (min x.cps.size ys.length) (fun H => SqT K H b ys) (fun i H v H' => ∃ T y c, v = .ref T ∧ H T = none ∧ H' = upd H T (.tup [.str ⟨#[c]⟩, y]) ∧ x.cps[i]? = some c ∧ ys[i]? = some y) := by
  refine ⟨fun i H hi q => ?_, fun H q => ⟨ys, q, Nat.min_le_left _ _, Nat.min_le_right _ _, by omega⟩, fun i H v H' hi q y => ?_⟩
  · have h1 : i < x.cps.size := by omega
    have h2 : i < ys.length := by omega
    exact ⟨ys, ys[i], x.cps[i], q, List.getElem?_eq_getElem h2, Array.getElem?_eq_getElem h1⟩
  · obtain ⟨T, z, c, e1, e2, e3, e4, e5⟩ := y
    exact ⟨T, z, c, e1, e2, e3, e4, e5 ys q⟩
def iZipS (K : PySem.W.Frag) (ta : TA) : TI := fun σ H R => ta σ H fun vs H1 => ∃ x b ys, vs = [.str x, .ref b] ∧ SqT K H1 b ys ∧ R (ItzS K x b) H1
theorem two_not {a b c : Nat} (h1 : a ≠ b) (h2 : a ≠ c) : a ∉ [b, c] := by simpa [not_or] using ⟨h1, h2⟩
theorem one_not {a b : Nat} (h1 : a ≠ b) : a ∉ [b] := by simpa using h1
theorem sep_zipS (I b : Nat) (h : b < I) : ZipSep2 (I + 4) (I + 2) (I + 3) I (I + 1) [I] [I + 1, b] where
  TIz := (by omega : (I + 2 : Nat) ≠ I + 4)
  TOz := (by omega : (I + 3 : Nat) ≠ I + 4)
  TITO := (by omega : (I + 2 : Nat) ≠ I + 3)
  TIi1 := (by omega : (I + 2 : Nat) ≠ I)
  mem1 := List.mem_cons_self ..
  zf1 := one_not (by omega)
  Tf1 := one_not (by omega)
  TIi2 := (by omega : (I + 2 : Nat) ≠ I + 1)
  mem2 := List.mem_cons_self ..
  zf2 := two_not (by omega) (by omega)
  Tf2 := two_not (by omega) (by omega)
  sep1_2 := two_not (by omega) (by omega)
  sep2_1 := one_not (by omega)
theorem pi_zipS0 {X : Cx} {e e2 : Expr} {ta : TA} {p pos tpos : Pos} {elts : List Expr} {kk : Nat} (hg : Gl X "zip") (hm : X.mg "zip" = none) (ha : PA X [e, e2] ta)
    (hs : starEach [e, e2] X.env = (false, eval e X.env) :: starEach [e2] X.env := by rfl) (hpl : (backTo pos (starEach [e2] X.env)).any (·.1) = false := by rfl) :
    PI X (.Tuple elts kk tpos) (.Call (.Name "zip" p) [e, e2] [] pos) (iZipS X.K ta) := by
  refine ⟨fun pins s σ H R I hz0 => ?_⟩
  refine Call_ (ld_blt I hg hm PyProof.Rows.boot_zip (PyProof.Rows.callWith_type1 (thn (ha.run pos pins s σ H _ I hz0) fun us s1 hq => ?_) hs hpl))
  obtain ⟨vs, H1, I1, r1, q1⟩ := hq
  obtain ⟨x, b, ys, ex, sq, q⟩ := q1
  subst ex
  match us, r1 with
  | [u1, u2], .cons ra (.cons rb .nil) =>
    obtain ⟨t, rfl⟩ := ra
    obtain rfl : u2 = Value.ref b := rb
    obtain ⟨its, rv, p1, _⟩ := I1.tuple sq
    obtain ⟨ob, hob, _⟩ := id p1
    have hbl : b < s1.heap.objs.size := Heap.lt_size hob
    refine zip_begins2 (begins_text x t) (begins_tuple b its.toArray) trivial p1 fun h' hz hTI hTO h1 h2 hsz hk => wpAny_pyIter_zip hz ?_
    have I2 : Inv X pins σ H1 { s1 with heap := h' } := I1.kept (t' := s1.toks) hk
    refine ⟨s1.heap.objs.size + 4, [s1.heap.objs.size + 4, s1.heap.objs.size + 2, s1.heap.objs.size + 3, s1.heap.objs.size, s1.heap.objs.size + 1], _, _, H1, rfl, I2, turn_zipS (x := x) (t := t) (sep_zipS _ _ hbl) (Nat.ne_of_lt (Nat.lt_succ_of_lt hbl)), ⟨hz, hTI, ⟨_, _, hTO⟩, ⟨_, h1, rfl, rfl⟩, ⟨_, h2, rfl, rfl⟩⟩, fun c hc => ?_, q⟩
    have hle : s1.heap.objs.size ≤ c := by
      rcases five hc with rfl | rfl | rfl | rfl | rfl <;> omega
    exact I1.fpOk hle (I1.hok.fresh hle)
theorem pi_zipS {X : Cx} {K : PySem.W.Frag} {e e2 : Expr} {ta : TA} {p pos tpos : Pos} {elts : List Expr} {kk : Nat} (hg : Gl X "zip") (hm : X.mg "zip" = none) (ha : PA X [e, e2] ta) (hK : X.K = K := by rfl)
    (hs : starEach [e, e2] X.env = (false, eval e X.env) :: starEach [e2] X.env := by rfl) (hpl : (backTo pos (starEach [e2] X.env)).any (·.1) = false := by rfl) :
    PI X (.Tuple elts kk tpos) (.Call (.Name "zip" p) [e, e2] [] pos) (iZipS K ta) := by subst hK; exact pi_zipS0 hg hm ha hs hpl
end G
/-! My base, part 45: told dicts of None and ints, trees of them; their walks. -/
namespace G
open PySem PySem.Spec PyProof.Rows L2 TL
/-- the dict while it is made -/
def obN (D : Addr) : List (Option Int) → HO
  | [] => .dK []
  | k :: ks => DN D (k :: ks)
theorem putN_ne (ks : List (Option Int)) (k : Option Int) : putN ks k ≠ [] := by
  unfold putN
  split
  · next h => exact fun e => by rw [e] at h; exact absurd h List.not_mem_nil
  · exact fun e => by cases ks <;> cases e
theorem obN_put (D : Addr) (ks : List (Option Int)) (k : Option Int) : obN D (putN ks k) = DN D (putN ks k) := by
  cases h : putN ks k with
  | nil => exact absurd h (putN_ne ks k)
  | cons x l => rfl
theorem obN_nt {D : Addr} {ks : List (Option Int)} : ∀ ts, obN D ks ≠ .tup ts := fun ts z => by
  cases ks with
  | nil => cases z
  | cons k ks =>
    have z : DN D (k :: ks) = .tup ts := z
    unfold DN at z
    cases z
theorem nh_of {H : Hp} {D : Addr} {ks : List (Option Int)} (h : H D = some (obN D ks)) : NH H D ks := by
  cases ks with
  | nil => exact .inl ⟨rfl, h⟩
  | cons k ks => exact .inr h
theorem sn_put {H : Hp} {D : Addr} {ks : List (Option Int)} {k : Option Int} {y : V} (h : H D = some (obN D ks)) (e : y = vN k) (hl : ks.length < sizeLine) : SN H D y (.bl true) (upd H D (obN D (putN ks k))) :=
  ⟨ks, k, nh_of h, e, rfl, hl, by rw [obN_put]⟩
def putsN (ds : List (Option Int)) : List (Option Int) := ds.foldl putN []
theorem putsN_snoc (ds : List (Option Int)) (k : Option Int) : putsN (ds ++ [k]) = putN (putsN ds) k := by
  unfold putsN
  rw [List.foldl_append]
  rfl
def RNk (acc xs : List (Option Int)) : Prop := acc = xs
theorem RNk.up {acc xs : List (Option Int)} {F F' : Hp} (h : RNk acc xs) (_ : Same F F') : RNk acc xs := h
theorem RNk.re {acc x y : List (Option Int)} (e : x = y) (h : RNk acc x) : RNk acc y := e ▸ h
theorem RNk.put {acc ds : List (Option Int)} (h : RNk acc (putsN ds)) (k : Option Int) : RNk (putN acc k) (putsN (ds ++ [k])) := by
  rw [putsN_snoc]
  exact congrArg (fun z => putN z k) h
theorem sqT_of {K : PySem.W.Frag} {H : Hp} {p : Addr} {xs : List V} (h : H p = some (.tup xs)) : SqT K H p xs := .inl (.inl h)
/-- what is told: a dict, a tree of dicts -/
def RDN (F : Hp) (v : V) (ks : List (Option Int)) : Prop := ∃ p o, v = .ref p ∧ F p = some (.frz o (DN p ks)) ∧ ks.length ≤ sizeLine
theorem RDN.op {F : Hp} {v : V} {ks : List (Option Int)} (h : RDN F v ks) : ∃ p o, v = .ref p ∧ F p = some (.frz o (DN p ks)) ∧ ks.length ≤ sizeLine := h
theorem RNk.rdn {F : Hp} {v : V} {acc xs : List (Option Int)} (e : RNk acc xs) (h : RDN F v acc) : RDN F v xs := e ▸ h
theorem RDN.up {F F' : Hp} {v : V} {ks : List (Option Int)} (h : RDN F v ks) (s : Same F F') : RDN F' v ks := by
  obtain ⟨p, o, e, h1, h2⟩ := h
  exact ⟨p, o, e, s _ _ h1, h2⟩
inductive TrD where
  | leaf (ks : List (Option Int))
  | node (ks : List (Option Int)) (l r : TrD)
def TrD.ks : TrD → List (Option Int)
  | .leaf ks => ks
  | .node ks _ _ => ks
def TrD.hs : TrD → List TrD
  | .leaf _ => []
  | .node _ l r => [l, r]
inductive RTr (F : Hp) : V → TrD → Prop
  | leaf {p e : Addr} {vd : V} {ks : List (Option Int)} : F p = some (.tup [vd, .ref e]) → RDN F vd ks → F e = some (.tup []) → RTr F (.ref p) (.leaf ks)
  | node {p e : Addr} {vd vl vr : V} {ks : List (Option Int)} {l r : TrD} : F p = some (.tup [vd, .ref e]) → RDN F vd ks → F e = some (.tup [vl, vr]) → RTr F vl l → RTr F vr r → RTr F (.ref p) (.node ks l r)
theorem RTr.up {F F' : Hp} {v : V} {t : TrD} (h : RTr F v t) (s : Same F F') : RTr F' v t := by
  induction h with
  | leaf h1 h2 h3 => exact .leaf (s _ _ h1) (h2.up s) (s _ _ h3)
  | node h1 h2 h3 _ _ ih1 ih2 => exact .node (s _ _ h1) (h2.up s) (s _ _ h3) ih1 ih2
inductive RAll (F : Hp) : List V → List TrD → Prop
  | nil : RAll F [] []
  | cons {v : V} {vs : List V} {t : TrD} {ts : List TrD} : RTr F v t → RAll F vs ts → RAll F (v :: vs) (t :: ts)
theorem RAll.up {F F' : Hp} {vs : List V} {ts : List TrD} (h : RAll F vs ts) (s : Same F F') : RAll F' vs ts := by
  induction h with
  | nil => exact .nil
  | cons h1 _ ih => exact .cons (h1.up s) ih
theorem RAll.len {F : Hp} {vs : List V} {ts : List TrD} (h : RAll F vs ts) : vs.length = ts.length := by
  induction h with
  | nil => rfl
  | cons h1 _ ih => exact congrArg Nat.succ ih
theorem RAll.get {F : Hp} {vs : List V} {ts : List TrD} {i : Nat} {v : V} (h : RAll F vs ts) (e : vs[i]? = some v) : ∃ t, ts[i]? = some t ∧ RTr F v t := by
  induction h generalizing i with
  | nil => simp at e
  | @cons w vs t ts h1 _ ih =>
    cases i with
    | zero =>
      simp only [List.getElem?_cons_zero, Option.some.injEq] at e
      subst e
      exact ⟨t, rfl, h1⟩
    | succ j =>
      simp only [List.getElem?_cons_succ] at e ⊢
      exact ih e
def RHv (F : Hp) (v : V) (ts : List TrD) : Prop := ∃ e vs, v = .ref e ∧ F e = some (.tup vs) ∧ RAll F vs ts
theorem RHv.op {F : Hp} {v : V} {ts : List TrD} (h : RHv F v ts) : ∃ e vs, v = .ref e ∧ F e = some (.tup vs) ∧ RAll F vs ts := h
theorem RHv.up {F F' : Hp} {v : V} {ts : List TrD} (h : RHv F v ts) (s : Same F F') : RHv F' v ts := by
  obtain ⟨e, vs, e1, h1, h2⟩ := h
  exact ⟨e, vs, e1, s _ _ h1, h2.up s⟩
theorem RTr.inv {F : Hp} {v : V} {t : TrD} (h : RTr F v t) : ∃ p vd vh, v = .ref p ∧ F p = some (.tup [vd, vh]) ∧ RDN F vd t.ks ∧ RHv F vh t.hs := by
  cases h with
  | leaf h1 h2 h3 => exact ⟨_, _, _, rfl, h1, h2, _, _, rfl, h3, .nil⟩
  | node h1 h2 h3 h4 h5 => exact ⟨_, _, _, rfl, h1, h2, _, _, rfl, h3, .cons h4 (.cons h5 .nil)⟩
theorem zipS_get {x : Str} {ts : List TrD} {i c : Nat} {t : TrD} (h1 : x.cps[i]? = some c) (h2 : ts[i]? = some t) : (List.zip x.cps.toList ts)[i]? = some (c, t) := by
  rw [List.getElem?_zip_eq_some]
  exact ⟨by rw [Array.getElem?_toList]; exact h1, h2⟩
theorem zipS_len {F : Hp} {x : Str} {vs : List V} {ts : List TrD} (h : RAll F vs ts) : min x.cps.size vs.length = (List.zip x.cps.toList ts).length := by
  rw [List.length_zip, h.len, show x.cps.toList.length = x.cps.size from Array.length_toList]
section
variable {g : TG} {tt : TT} {te tk tv : TE} {tb : TS} {D : Ends} {vs : List Nat} {σ : L2.St} {H1 : Hp} {Dl d : Addr} {o : Obj} {Qd : Hp → Prop} {ks : List (Option Int)}
theorem lc_keysN (Pv : Nat → Hp → Prop) (h0 : Pv 0 (upd H1 Dl (.lst []))) (hG : ∀ i H, i ≤ ks.length → Pv i H → H d = some (.frz o (DN d ks)))
    (hs : ∀ i k H, ks[i]? = some k → Pv i H → g (vN k) (wipe σ vs) H fun σ2 H2 => wipe σ2 vs = wipe σ vs ∧ tt σ2 H2 fun b H3 =>
      if b = true then te σ2 H3 fun y H4 => ∃ acc, H4 Dl = some (.lst acc) ∧ acc.length < sizeLine ∧ Pv (i + 1) (upd H4 Dl (.lst (acc ++ [y]))) else Pv (i + 1) H3) (hd : ∀ H, Pv ks.length H → Qd H) :
    ∃ W : Nat → Nat → Hp → Prop, (∃ m, W 0 m (upd H1 Dl (.lst []))) ∧ ∀ i m H, W i m H →
      ((Itn d o ks).stop i H ∧ Qd H) ∨ ((Itn d o ks).go i H ∧ ∃ Nx : Hp → Prop, (∀ H', Nx H' → ∃ m', m' < m ∧ W (i + 1) m' H') ∧ ∀ x H', (Itn d o ks).yld i H x H' → g x (wipe σ vs) H' fun σ2 H2 => wipe σ2 vs = wipe σ vs ∧ tt σ2 H2 fun b H3 =>
        if b = true then te σ2 H3 fun y H4 => ∃ acc, H4 Dl = some (.lst acc) ∧ acc.length < sizeLine ∧ Nx (upd H4 Dl (.lst (acc ++ [y]))) else Nx H3) :=
  lc_it walk_keysN Pv h0 hG (fun i x H H' hi p ⟨e1, k, e2, e3⟩ => by subst e1 e3; exact hs i k _ e2 p) hd
theorem dS_keysN {S : Hp → Addr → V → V → Hp → Prop} {ob0 : HO} (Pv : Nat → Hp → Prop) (h0 : Pv 0 (upd H1 Dl ob0)) (hG : ∀ i H, i ≤ ks.length → Pv i H → H d = some (.frz o (DN d ks)))
    (hs : ∀ i k H, ks[i]? = some k → Pv i H → DcStep S g tt tk tv vs σ Dl (Pv (i + 1)) (vN k) H) (hd : ∀ H, Pv ks.length H → Qd H) : DcGoal S ob0 (Itn d o ks) g tt tk tv vs σ H1 Dl Qd :=
  dS_it walk_keysN Pv h0 hG (fun i x H H' hi p ⟨e1, k, e2, e3⟩ => by subst e1 e3; exact hs i k _ e2 p) hd
theorem for_zipS {K : PySem.W.Frag} {x : Str} {b : Addr} {ys : List V} {H : Hp} (Pv : Nat → L2.St → Hp → Prop) (h0 : Pv 0 σ H) (hl : ∀ i σ H, i ≤ min x.cps.size ys.length → Pv i σ H → SqT K H b ys)
    (hs : ∀ i c y T σ H, x.cps[i]? = some c → ys[i]? = some y → H T = none → Pv i σ H → g (.ref T) σ (upd H T (.tup [.str (sgn c), y])) fun σ2 H2 => tb { D with nx := Pv (i + 1), ct := Pv (i + 1), bk := D.nx } σ2 H2) (hd : ∀ σ H, Pv (min x.cps.size ys.length) σ H → D.nx σ H) :
    ∃ W : Nat → Nat → L2.St → Hp → Prop, (∃ m, W 0 m σ H) ∧ ∀ i m σ H, W i m σ H →
      ((ItzS K x b).stop i H ∧ D.nx σ H) ∨ ((ItzS K x b).go i H ∧ ∃ N : L2.St → Hp → Prop, (∀ σ' H', N σ' H' → ∃ m', m' < m ∧ W (i + 1) m' σ' H') ∧ ∀ v H', (ItzS K x b).yld i H v H' → g v σ H' fun σ2 H2 => tb { D with nx := N, ct := N, bk := D.nx } σ2 H2) :=
  for_it zipS_walk Pv h0 hl (fun i v σ H H' _ p ⟨T, y, c, e1, e2, e3, e4, e5⟩ => by subst e1 e3; exact hs i c y T σ H e4 e5 e2 p) hd
end
/-- a thing of ours is told -/
theorem Od.sf {H0 F H : Hp} {p : Addr} {ob : HO} (w : Od H0 F H p ob) : Same F (upd F p ob) := same_new w.nF
theorem R_vN' {K : PySem.W.Frag} {F : Hp} {v : V} {x : Option Int} (r : R K F v x) : v = vN x := R_vN r
/-- list(d)'s things -/
theorem RL_ofN {K : PySem.W.Frag} {F : Hp} : ∀ ks : List (Option Int), RL K F (ks.map vN) ks
  | [] => RpA.nil
  | k :: ks => RpA.cons (R_ofN k) (RL_ofN ks)
/-- {k: v for ..} set to a name, told behind it -/
theorem ps_setDcN {X : Cx} {i : Nat} {y : Str} {py spos : Pos} {kx vx tg iter : Expr} {ifs : List Expr} {scope : Scope} {own : List (Str × Nat)} {pos : Pos} {wi : TI} {g : TG} {tt : TT} {tk tv : TE} (hc : X.calm = true) (hu : X.A.units + 1 < cLine) (hN : X.N.Nodup) (hy : X.N[i]? = some y) (hyl : X.env.scope.names.lookup y = some .local)
    (hsw : swapsWith (.DictComp kx vx [⟨tg, iter, ifs, 0⟩] scope pos) (some (.Name y py)) spos.line X.env = pure true) (hi : PI X tg iter wi) (ok : BlkOk X.N X.env.scope scope own)
    (hg : ∀ (s : Shared) (H : Hp) (C : Addr) (cl : List (Str × Addr)) (fp : List Addr), PG (X.blk s H scope (compEnvC scope cl C X.env) fp) tg g) (ht : ∀ (s : Shared) (H : Hp) (C : Addr) (cl : List (Str × Addr)) (fp : List Addr), PTs (X.blk s H scope (compEnvC scope cl C X.env) fp) ifs tt)
    (hk : ∀ (s : Shared) (H : Hp) (C : Addr) (cl : List (Str × Addr)) (fp : List Addr), PE (X.blk s H scope (compEnvC scope cl C X.env) fp) kx tk)
    (he : ∀ (s : Shared) (H : Hp) (C : Addr) (cl : List (Str × Addr)) (fp : List Addr), PE (X.blk s H scope (compEnvC scope cl C X.env) fp) vx tv) (hs : ∀ x, foldedSetIterable iter X.env x = pure x := by intro _; rfl) :
    PS X (.Assign [.Name y py] (.DictComp kx vx [⟨tg, iter, ifs, 0⟩] scope pos) spos) (tFzN (tAsg (tDcS SN (.dK []) wi g tt tk tv (own.map (·.2))) (gName i))) := ps_fzN (ps_setDcS storeN hc hu hN hy hyl hsw hi ok hg ht hk he hs)
end G
/-! My base, part 46: sorted(a dict of ints), x.replace of a sign by a sign. -/
namespace G
open PySem PySem.Spec PyProof.Rows L2 TL PySem.Calls PySem.W
/-- sorted(a dict of ints) -/
def rSortedDI : List V → Hp → VK → Prop := fun vs H Q => ∃ (a : Addr) (kvs : List (Key × V)) (xs : List Int), vs = [V.ref a] ∧ Rd H a (.dK kvs) ∧ kvs.map (·.1) = xs.map Sum.inl ∧
  ∀ p : Addr, H p = none → Q (.ref p) (upd H p (.lst ((sortI xs).map V.int)))
theorem cr_sortedDI {X : Cx} (hc : X.calm = true) : CallR X (.builtin "sorted") rSortedDI := by
  intro pins s σ H vs us Q I r h
  obtain ⟨a, kvs, xs, rfl, ha, hk, q⟩ := h
  obtain ⟨u, rfl, ru⟩ := vals1 r
  obtain rfl : u = Value.ref a := ru
  obtain ⟨z, hd, vs0, rel, o, es, ep, ho, hx, hdt, rest⟩ := dk_rd I.hok ha
  have hlen : kvs.length = vs0.length := Paired.length rel
  have hxl : kvs.length = xs.length := by have := congrArg List.length hk; rwa [List.length_map, List.length_map] at this
  have hat : s.heap.DictAt (mixKind X.prog X.w) a vs0 ep := ⟨o, es, ho, hx, hdt, rest⟩
  refine Calls.call_function_entry kind_sorted plain_sorted entry_sorted (args_sorted1 _) ?_
  unfold Builtin.«sorted»
  refine wpAny_bind (m := checkCount "sorted" 1 1 _) (wpAny_pure ?_)
  refine wpAny_bind (gather (kdl_dict (prog := X.prog) (w := X.w) (knd := mixKind X.prog X.w) (kvs := vs0) (ep := ep) hd) (I.ok.hd hc) hat (by omega) fun h' tk vs1 hkp hsz1 hl1 hv1 => ?_)
  have hS : IntsAre vs1 xs := ints_by (by omega) fun j v e => by
    obtain ⟨k, x, e1, e2⟩ := hv1 j v e
    have hj : j < kvs.length := by rw [hlen]; exact (List.getElem?_eq_some_iff.mp e1).1
    obtain ⟨u, e3, _⟩ := kv_get rel (i := j) (k := (kvs[j]).1) (v := (kvs[j]).2) (List.getElem?_eq_getElem hj)
    rw [e1] at e3
    have e4 : k = (kvs[j]).1 := congrArg Prod.fst (Option.some.inj e3)
    have e5 : (kvs.map (·.1))[j]? = some (kvs[j]).1 := by rw [List.getElem?_map, List.getElem?_eq_getElem hj]; rfl
    rw [hk, List.getElem?_map] at e5
    obtain ⟨x', e6, e7⟩ := Option.map_eq_some_iff.mp e5
    rw [e4, ← e7] at e2
    rcases keyIs_shape (show keyIs (Sum.inl x') v = true from e2) with ⟨i, t, z1, z2⟩ | ⟨y, t, z1, z2⟩
    · cases z1
      exact ⟨_, t, e6, z2⟩
    · cases z1
  have hl1' : vs1.length ≤ sizeLine := by omega
  refine wpAny_bind (wpAny_newList ?_ hl1')
  have hoL : (h'.push (seqObj "list" vs1.toArray 0)).get? h'.objs.size = some (seqObj "list" vs1.toArray 0) := Heap.get?_push_size _ rfl
  show wpAny _ _ _ _ _ { s with heap := h'.push (seqObj "list" vs1.toArray 0), toks := tk }
  refine wpAny_bind (wpAny_holding (wpAny_call_entry slot_list_sort ⟨_, hoL, rfl⟩ entry_list_sort (SrtO.list_sort_ord SrtO.swo_int hoL hl1' (fun h2 => SrtO.ints_sortable hS h2) fun out h1 h2 => ⟨_, rfl, ?_⟩) (args_list_sort _)))
  refine wpAny_pure ⟨_, rfl, ?_⟩
  obtain ⟨k1, k2, k3⟩ := SrtO.ints_out hS h1 h2
  have hu := sortI_uniq k2 k3
  obtain ⟨e, hfin⟩ := sortedHeap_at (vs := vs1) (out := out.toArray) hoL
  have hlz : ((sortI xs).map V.int).length ≤ sizeLine := by rw [List.length_map, sortI_len]; omega
  have hkeep : ∀ b u, s.heap.get? b = some u → (sortedHeap (h'.push (seqObj "list" vs1.toArray 0)) h'.objs.size vs1 out.toArray).get? b = some u := fun b u e => by
    have e2 := hkp b u e
    have hlt := Heap.lt_size e2
    rw [sortedHeap_old (Nat.ne_of_lt hlt) (by rw [Heap.size_push]; exact Nat.lt_succ_of_lt hlt), Heap.get?_push_ne _ _ _ (Nat.ne_of_lt hlt)]
    exact e2
  have hfr : s.heap.objs.size ≤ h'.objs.size := Nat.le_of_lt hsz1
  rw [← hu] at k1
  exact ⟨.ref h'.objs.size, upd H h'.objs.size (.lst ((sortI xs).map V.int)), I.laid (t' := tk) hkeep hfr ⟨hlz, out, e, vals_of_ints k1, hfin⟩, rfl, q _ (I.hok.fresh hfr)⟩
/-! ### a sign put for a sign -/
def putc (x : Str) (c d : Nat) : Str := Txt.replace x ⟨#[c]⟩ ⟨#[d]⟩
def putcO (x : Str) (c d : Nat) : Option Str := if x.length ≤ 8000000 then some (putc x c d) else none
theorem putcO_ok {x r : Str} {c d : Nat} (h : putcO x c d = some r) : x.length + (x.length + 1) * (⟨#[d]⟩ : Str).length ≤ 16777216 ∧ putc x c d = r := by
  unfold putcO at h
  split at h
  · next k =>
    refine ⟨?_, Option.some.inj h⟩
    show x.length + (x.length + 1) * 1 ≤ _
    omega
  · cases h
theorem replL_one (c d : Nat) : ∀ l : List Nat, PySem.StrLaws.replL [c] [d] l = l.map fun e => if e = c then d else e
  | [] => PySem.StrLaws.replL_nil
  | e :: l => by
    by_cases h : e = c
    · rw [PySem.StrLaws.replL_hit (List.cons_ne_nil _ _) (by show [e] = [c]; rw [h]), List.map_cons, if_pos h]
      show [d] ++ PySem.StrLaws.replL [c] [d] l = _
      rw [replL_one c d l]
      rfl
    · rw [PySem.StrLaws.replL_miss (by show ¬ [e] = [c]; intro z; cases z; exact h rfl), List.map_cons, if_neg h, replL_one c d l]
theorem putc_tl (x : Str) (c d : Nat) : tl (putc x c d) = (tl x).map fun e => if e = c then d else e := (PySem.StrLaws.replace_list (x := x) (y := ⟨#[c]⟩) (z := ⟨#[d]⟩) (by show 1 ≤ 1; decide)).trans (replL_one c d _)
theorem GS.putc {x : Str} (h : GS x) {c d : Nat} (hd : d < 0x110000) : GS (putc x c d) := by
  refine GS.of ?_ fun e he => ?_
  · rw [putc_tl, List.length_map]; exact h.tll
  · rw [putc_tl] at he
    obtain ⟨z, hz, rfl⟩ := List.mem_map.mp he
    split
    · exact hd
    · exact h.mem z hz
end G
/-! My base, part 47: statements and terms that hold a replace: a tuple, a method's call, a statement of a value. -/
namespace G
open PySem PySem.Spec PyProof.Rows L2 TL CwR
section
variable {X : Cx}
theorem pst_expr {e : Expr} {te : TE} {pos : Pos} (he : PET X e te) (hs : swapsWith e none pos.line X.env = pure false := by rfl) : PST X (.Expr e pos) (tDrop te) := by
  intro pins s σ H D h0 I h
  exact wpAny_Expr_any (thn (he pins s σ H _ h0 I h) fun v s1 ⟨x, H1, I1, r1, q1⟩ => ⟨σ, H1, I1, q1⟩) I.quiet hs
theorem pet_tup {es : List Expr} {x1} {t : TA} {pos : Pos} (h : PAT X es t) : PET X (.Tuple es x1 pos) (tTup t) := by
  intro pins s σ H Q h0 I hq
  refine wpAny_Tuple_spliced (thn (h pos pins s σ H _ h0 I hq) fun us s1 ⟨xs, H1, I1, r, z, q⟩ => ⟨by rw [← r.length]; exact z, ?_⟩)
  have hf : H1 s1.heap.objs.size = none := I1.hok.fresh (Nat.le_refl _)
  refine ⟨.ref s1.heap.objs.size, upd H1 s1.heap.objs.size (.tup xs), I1.laid (t' := s1.toks) (fun b u e => Heap.get?_push_of_some _ e) (Nat.le_refl _) ?_, rfl, q _ hf⟩
  exact ⟨z, us, r, ⟨_, Heap.get?_push_size _ rfl, rfl, _, rfl⟩⟩
theorem pet_bmK {o e : Expr} {es : List Expr} {to : TE} {t : TA} {name : Str} {apos cpos : Pos} {T id : String} {r : V → List V → Hp → VK → Prop} {K : PySem.W.Frag} (pa : PlainAttrs T) (slot : Slot T name id) (hty : typeOf (.builtin id) = pure (.type "method_descriptor")) (hm : MtR X id r) (ho : PET X o to) (ha : PAT X (e :: es) t) (h : X.K = K := by rfl)
    (hbase : attributeBase o name X.env (eval o X.env) = eval o X.env := by rfl)
    (hfew : ((backTo cpos (starEach (e :: es) X.env)).all (fun x => !x.1) && (backToKw cpos (keywordEach [] X.env)).all (fun x => x.1.isSome)
      && decide ((e :: es).length + ([] : List Keyword).length + (if ([] : List Keyword).isEmpty then 0 else 1) < 30)) = true := by rfl)
    (hline : (apos.endLine == cpos.line) = true := by rfl) (hs : starEach (e :: es) X.env = (false, eval e X.env) :: starEach es X.env := by rfl) (hplain : (backTo cpos (starEach es X.env)).any (·.1) = false := by rfl) :
    PET X (.Call (.Attribute o name apos) (e :: es) [] cpos) (tBM K T r to t) := by
  subst h
  intro pins s σ H Q h0 I h
  refine wpAny_Call_method_late hbase hfew hline rfl (thnT (ho pins s σ H _ h0 I h) fun v s1 k1 ⟨x, H1, I1, r1, ty, q1⟩ => ?_)
  obtain ⟨h1, h2⟩ := tyV_is I1 r1 ty
  refine ⟨T, id, pa, slot, hty, h1, h2, ?_⟩
  have hA := ha cpos pins s1 σ H1 _ (Nat.le_trans h0 k1) I1 q1
  rw [hs] at hA ⊢
  refine Calls.callWith_builtin (by show (false || (backTo cpos (starEach es X.env)).any (·.1)) = false; rw [hplain] <;> rfl) (Calls.evalArgs_plain ?_)
  exact thn hA fun us s2 ⟨vs, H2, I2, r2, q2⟩ => hm pins s2 σ H2 x vs v us Q I2 r1 r2 q2
end
end G
/-! My base, part 48: a list comprehension that holds a replace (the kit's rule for comprehensions turned: a token is out all along). -/
namespace G
open PySem PySem.Spec PyProof.Rows L2 TL CwR
theorem thnFT {α : Type} {t : Sem α} {Q Q' : α → Shared → Prop} {M : Model} {A : Around} {E : Value → Shared → Prop} {s : Shared} (h : wpAny M A t Q (fun _ _ => False) s) (hQ : ∀ a s1, s.toks ≤ s1.toks → Q a s1 → Q' a s1) : wpAny M A t Q' E s :=
  wpAny_mono (PySem.wpAny_toks h) (fun v s1 q => hQ v s1 q.1 q.2) fun _ _ z => z.2.elim
def PTsT (X : Cx) (ifs : List Expr) (t : TT) : Prop := ∀ (pins : List (Addr × Obj)) (s : Shared) (σ : L2.St) (H : Hp) (Q : Bool → Hp → Prop), 1 ≤ s.toks → Inv X pins σ H s → t σ H Q →
    wpAny (model X.prog X.w) X.A (forIn ifs true fun c r => if r = true then do let ok ← isTrue c X.env (eval c X.env); pure (ForInStep.yield ok) else pure (ForInStep.yield r)) (TP X pins σ Q) X.xe s
theorem PTsT.of {X : Cx} {ifs : List Expr} {t : TT} (h : PTs X ifs t) : PTsT X ifs t := fun pins s σ H Q _ I w => h.run pins s σ H Q I w
section
variable {X : Cx}
theorem lc_coreT {pins : List (Addr × Obj)} {s : Shared} {σ : L2.St} {H : Hp} {Q : VK} {elt tg iter : Expr} {ifs : List Expr} {scope : Scope} {own : List (Str × Nat)} {pos pos' : Pos} {wi : TI} {g : TG} {tt : TT} {te : TE} {use : Option (Value → Sem Unit)} {Qf : Value → Shared → Prop}
    (h0 : 1 ≤ s.toks) (hc : X.calm = true) (hN : X.N.Nodup) (I : Inv X pins σ H s) (hi : PI X tg iter wi) (ok : BlkOk X.N X.env.scope scope own)
    (hg : ∀ (s : Shared) (H : Hp) (C : Addr) (cl : List (Str × Addr)) (fp : List Addr), PG (X.blk s H scope (compEnvC scope cl C X.env) fp) tg g) (ht : ∀ (s : Shared) (H : Hp) (C : Addr) (cl : List (Str × Addr)) (fp : List Addr), PTsT (X.blk s H scope (compEnvC scope cl C X.env) fp) ifs tt)
    (he : ∀ (s : Shared) (H : Hp) (C : Addr) (cl : List (Str × Addr)) (fp : List Addr), PET (X.blk s H scope (compEnvC scope cl C X.env) fp) elt te) (hs : ∀ x, foldedSetIterable iter X.env x = pure x)
    (h : tLc wi g tt te (own.map (·.2)) σ H Q)
    (hRR : ∀ D C s' m H', Inv X pins σ H' s' → Q (.ref D) H' → s'.heap.Ns C m → FpOk X pins H' C → compPost (model X.prog X.w) X.A X.xe use Qf (.ref D) C (.ok .next) s') :
    wpAny (model X.prog X.w) X.A (comprehension (.ListComp elt [⟨tg, iter, ifs, 0⟩] scope pos) scope X.env pos' (newList []) false (eval iter X.env) use) Qf X.xe s := by
  have hfree : ∀ y ∈ scope.names, y.2 = .free → ∃ c, X.env.cells.lookup y.1 = some c := fun y hy e => by
    rcases ok.free y hy e with k | k
    · exact I.ok.has _ (.inl k)
    · exact I.ok.has _ (.inr k)
  refine wpAny_comprehension_free (use := use) rfl hs (closure_ok hfree) ok.kind (fun y hy e => by rw [ok.uniq y hy, e])
    (thnT (hi.run pins s σ H _ I h) fun xv s1 k1 hx => thnT hx fun itv s2 k2 h2 => ?_)
  obtain ⟨it, fp, tn, J, H2, e, I2, T, st2, f2, q⟩ := h2
  have h02 : 1 ≤ s2.toks := Nat.le_trans h0 (Nat.le_trans k1 k2)
  subst e
  refine wpAny_newObj_type (newEnv_comp ?_) (by show 0 ≤ sizeLine; decide)
  generalize hD : s2.heap.objs.size = D
  have hDn : H2 D = none := I2.hok.fresh (Nat.le_of_eq hD)
  obtain ⟨W, ⟨m0, w0⟩, turn⟩ := q D hDn
  -- the new list
  generalize hs3 : ({ s2 with heap := s2.heap.push { cls := .type "list", data := .seq ([] : List Value).toArray } } : Shared) = s3
  have I3 : Inv X pins σ (upd H2 D (.lst [])) s3 := by
    rw [← hs3]
    refine I2.laid (t' := s2.toks) (fun b o e => Heap.get?_push_of_some _ e) (Nat.le_of_eq hD) ⟨Nat.zero_le _, [], 0, .nil, ?_⟩
    rw [← hD]
    exact Heap.get?_push_size _ rfl
  have h03 : 1 ≤ s3.toks := by rw [← hs3]; exact h02
  have h3 : s3.heap = s2.heap.push { cls := .type "list", data := .seq ([] : List Value).toArray } := by rw [← hs3]
  have sz : ∀ b ∈ fp, b < s2.heap.objs.size := fun b hb => by
    obtain ⟨o, e, _⟩ := T.obj _ _ st2 b hb
    exact Heap.lt_size e
  have f3 : ∀ b ∈ fp, FpOk X pins (upd H2 D (.lst [])) b ∧ b < s3.heap.objs.size := fun b hb => by
    have hlt := sz b hb
    refine ⟨⟨?_, (f2 b hb).2⟩, by rw [h3, Heap.size_push]; exact Nat.lt_succ_of_lt hlt⟩
    rw [upd_ne (by rw [← hD]; exact Nat.ne_of_lt hlt)]
    exact (f2 b hb).1
  have st3 : tn 0 s3.heap := T.keep _ _ _ st2 fun b _ o e => by rw [h3]; exact Heap.get?_push_of_some _ e
  have I4 := block_start I3 ok hN f3
  have pg := hg s3 (upd H2 D (.lst [])) s3.heap.objs.size (cellsFrom (s3.heap.objs.size + 1) scope.names (cloFrom X.env.cells scope.names [])) fp
  have pt := ht s3 (upd H2 D (.lst [])) s3.heap.objs.size (cellsFrom (s3.heap.objs.size + 1) scope.names (cloFrom X.env.cells scope.names [])) fp
  have pe := he s3 (upd H2 D (.lst [])) s3.heap.objs.size (cellsFrom (s3.heap.objs.size + 1) scope.names (cloFrom X.env.cells scope.names [])) fp
  show codeAny _ _ (.compStart (.ListComp elt [⟨tg, iter, ifs, 0⟩] scope pos) 0 (.ref it) (.ref D) (compEnvC scope (cellsFrom (s3.heap.objs.size + 1) scope.names (cloFrom X.env.cells scope.names [])) s3.heap.objs.size X.env)) (compPost (model X.prog X.w) X.A X.xe use Qf (.ref D) s3.heap.objs.size) { s3 with heap := pushCells (s3.heap.push { cls := .type "dict", data := .dict #[] }) scope.names }
  have nfp : ∀ b ∈ fp, (upd H2 D (.lst [])) b = none := fun b hb => (f3 b hb).1.1
  generalize hce : compEnvC scope (cellsFrom (s3.heap.objs.size + 1) scope.names (cloFrom X.env.cells scope.names [])) s3.heap.objs.size X.env = ce at I4 pg pt pe ⊢
  have cL : ce.locals = s3.heap.objs.size := by subst hce; rfl
  generalize hH3 : upd H2 D (.lst []) = H3 at I3 I4 pg pt pe w0 nfp f3
  generalize hs4 : ({ s3 with heap := pushCells (s3.heap.push { cls := .type "dict", data := .dict #[] }) scope.names } : Shared) = s4 at I4 ⊢
  have h04 : 1 ≤ s4.toks := by rw [← hs4]; exact h03
  have st4 : tn 0 s4.heap := T.keep _ _ _ st3 fun b _ o e => by rw [← hs4]; exact pushCells_keeps _ _ _ _ (Heap.get?_push_of_some _ e)
  have stat : ∀ {σ' : L2.St} {H' : Hp} {s' : Shared}, Inv (X.blk s3 H3 scope ce fp) [] σ' H' s' → (∀ b ∈ fp, H' b = none) → ∀ b ∈ fp, FpOk (X.blk s3 H3 scope ce fp) [] H' b := fun {σ' H' s'} I' hn b hb =>
    ⟨hn b hb, (I'.ok.exf b hb).1, I'.ok.exfs b hb, .inl hb, fun x c e => (I'.ok.exf b hb).2 x c e, fun p hp => absurd (show p ∈ ([] : List (Addr × Obj)) ++ [] from hp) (by simp)⟩
  have loop : codeAny (model X.prog X.w) X.A (.compLoop (.ListComp elt [⟨tg, iter, ifs, 0⟩] scope pos) 0 (.ref it) (.ref D) ce) (compPost (model X.prog X.w) X.A X.xe use Qf (.ref D) s3.heap.objs.size) s4 := by
    refine compLoop_any (fun n s' => ∃ i H', 1 ≤ s'.toks ∧ Inv (X.blk s3 H3 scope ce fp) [] (wipe σ (own.map (·.2))) H' s' ∧ tn i s'.heap ∧ (∀ b ∈ fp, H' b = none) ∧ W i n H') ?_ m0 ⟨0, H3, h04, I4, st4, nfp, w0⟩
    rintro n s5 ⟨i, H5, h05, I5, st5, n5, w5⟩
    rcases turn i n H5 w5 with ⟨stop, qq⟩ | ⟨go, Nx, hNx, step⟩
    · have td := T.done (X.blk s3 H3 scope ce fp) rfl rfl rfl hc i [] s5 _ H5 (fun _ _ => False) I5 (stat I5 n5) st5 stop
      refine thnF td fun r s6 ⟨hr, I6⟩ => ?_
      subst hr
      -- back in the def's context
      have I7 : Inv X pins σ H5 s6 := I3.call' (ch := fp) I6.os I6.base I6.hok I6.bare fun b hb => ⟨(f3 b hb).1.2.2.2.1, (f3 b hb).1.2.1, (f3 b hb).1.2.2.2.2.1, (f3 b hb).1.2.2.2.2.2⟩
      have nC : H5 s3.heap.objs.size = none := by
        have z : H5 ce.locals = none := I6.free
        rw [cL] at z
        exact z
      obtain ⟨m, hn, _⟩ := I6.loc
      have hn : s6.heap.Ns ce.locals m := hn
      rw [cL] at hn
      exact hRR D s3.heap.objs.size s6 m H5 I7 qq hn (I3.fpOk (Nat.le_refl _) nC)
    · have ti := T.item (X.blk s3 H3 scope ce fp) rfl rfl rfl hc i [] s5 _ H5 (fun _ _ => False) I5 (stat I5 n5) st5 go
      refine thnFT ti fun r s6 k6 ⟨u, hr, h6⟩ => ?_
      subst hr
      refine thnFT h6 fun _ s7 k7 ⟨x, H7, I7, r7, y7, st7, n7⟩ => ?_
      have h07 : 1 ≤ s7.toks := Nat.le_trans h05 (Nat.le_trans k6 k7)
      have I7' := I7.pinned (stat I7 n7) (T.obj _ _ st7)
      refine thnFT (pg.run _ s7 _ H7 x u _ I7' r7 (step x H7 y7)) fun _ s8 k8 ⟨σ8, H8, I8, hw8, q8⟩ => ?_
      refine thnFT (pt _ s8 σ8 H8 _ (Nat.le_trans h07 k8) I8 q8) fun b s9 k9 ⟨H9, I9, q9⟩ => ?_
      have h09 : 1 ≤ s9.toks := Nat.le_trans h07 (Nat.le_trans k8 k9)
      -- the turn's end
      have fin : ∀ {s' : Shared} {H' : Hp}, 1 ≤ s'.toks → Inv (X.blk s3 H3 scope ce fp) ([] ++ pinsAt fp s7.heap) σ8 H' s' → Nx H' → ∃ m, m < n ∧ ∃ i H', 1 ≤ s'.toks ∧ Inv (X.blk s3 H3 scope ce fp) [] (wipe σ (own.map (·.2))) H' s' ∧ tn i s'.heap ∧ (∀ b ∈ fp, H' b = none) ∧ W i m H' := fun {s' H'} hk' I' nx => by
        obtain ⟨m', hm, w'⟩ := hNx H' nx
        have pin' : ∀ b ∈ fp, ∀ o, s7.heap.get? b = some o → s'.heap.get? b = some o ∧ H' b = none := fun b hb o e =>
          let z := I'.pin (b, o) (List.mem_append_right _ (List.mem_append_right _ (mem_pinsAt hb e)))
          ⟨z.1, z.2.1⟩
        have hl : (wipe σ (own.map (·.2))).length = σ8.length := by rw [← hw8, wipe_length]
        refine ⟨m', hm, i + 1, H', hk', (I'.unpinned (pins := [])).weak hl (fun j v e => ?_), T.keep _ _ _ st7 fun b hb o e => (pin' b hb o e).1, fun b hb => ?_, w'⟩
        · rw [← hw8] at e
          exact (wipe_some e).1
        · obtain ⟨o, e, _⟩ := T.obj _ _ st7 b hb
          exact (pin' b hb o e).2
      cases b with
      | false =>
        simp only [Bool.false_eq_true, if_false] at q9 ⊢
        exact fin h09 I9 q9
      | true =>
        simp only [if_true] at q9 ⊢
        refine thnFT (pe _ s9 σ8 H9 _ h09 I9 q9) fun z s10 k10 ⟨yv, H10, I10, r10, acc, hD10, hz10, nx⟩ => ?_
        exact PySem.wpAny_with_toks (Nat.le_trans h09 k10) (app_ok (X := X.blk s3 H3 scope ce fp) I10 hD10 hz10 r10 fun s11 I11 hk => fin hk I11 nx)
  exact codeAny_compStart_list loop (T.self X.A 0 _ _ _ st4 loop)
theorem pet_lc {elt tg iter : Expr} {ifs : List Expr} {scope : Scope} {own : List (Str × Nat)} {pos : Pos} {wi : TI} {g : TG} {tt : TT} {te : TE} (hc : X.calm = true) (hN : X.N.Nodup) (hi : PI X tg iter wi) (ok : BlkOk X.N X.env.scope scope own)
    (hg : ∀ (s : Shared) (H : Hp) (C : Addr) (cl : List (Str × Addr)) (fp : List Addr), PG (X.blk s H scope (compEnvC scope cl C X.env) fp) tg g) (ht : ∀ (s : Shared) (H : Hp) (C : Addr) (cl : List (Str × Addr)) (fp : List Addr), PTsT (X.blk s H scope (compEnvC scope cl C X.env) fp) ifs tt)
    (he : ∀ (s : Shared) (H : Hp) (C : Addr) (cl : List (Str × Addr)) (fp : List Addr), PET (X.blk s H scope (compEnvC scope cl C X.env) fp) elt te) (hs : ∀ x, foldedSetIterable iter X.env x = pure x := by intro _; rfl) :
    PET X (.ListComp elt [⟨tg, iter, ifs, 0⟩] scope pos) (tLc wi g tt te (own.map (·.2))) := by
  intro pins s σ H Q h0 I h
  rw [eval_ListComp]
  refine lc_coreT h0 hc hN I hi ok hg ht he hs h fun D C s' m H' I' q hn f => ⟨m, hn, fun h'' sb => ?_⟩
  obtain ⟨f0, f1, f2, f3, f4, f5⟩ := f
  exact ⟨.ref D, H', I'.turned (t' := s'.toks) (fun b o hb e => (sb.2 b hb).trans e) f0 f1 f3 f4 f5, rfl, q⟩
/-- name = [..] on one line, the name a local -/
theorem pst_setLc {i : Nat} {y : Str} {py : Pos} {elt tg iter : Expr} {ifs : List Expr} {scope : Scope} {own : List (Str × Nat)} {pos spos : Pos} {wi : TI} {g : TG} {tt : TT} {te : TE} (hc : X.calm = true) (hN : X.N.Nodup) (hy : X.N[i]? = some y) (hyl : X.env.scope.names.lookup y = some .local)
    (hsw : swapsWith (.ListComp elt [⟨tg, iter, ifs, 0⟩] scope pos) (some (.Name y py)) spos.line X.env = pure true) (hi : PI X tg iter wi) (ok : BlkOk X.N X.env.scope scope own)
    (hg : ∀ (s : Shared) (H : Hp) (C : Addr) (cl : List (Str × Addr)) (fp : List Addr), PG (X.blk s H scope (compEnvC scope cl C X.env) fp) tg g) (ht : ∀ (s : Shared) (H : Hp) (C : Addr) (cl : List (Str × Addr)) (fp : List Addr), PTsT (X.blk s H scope (compEnvC scope cl C X.env) fp) ifs tt)
    (he : ∀ (s : Shared) (H : Hp) (C : Addr) (cl : List (Str × Addr)) (fp : List Addr), PET (X.blk s H scope (compEnvC scope cl C X.env) fp) elt te) (hs : ∀ x, foldedSetIterable iter X.env x = pure x := by intro _; rfl) :
    PST X (.Assign [.Name y py] (.ListComp elt [⟨tg, iter, ifs, 0⟩] scope pos) spos) (tAsg (tLc wi g tt te (own.map (·.2))) (gName i)) := by
  intro pins s σ H D h0 I h
  rw [exec_Assign_Name_used _ _ _ _ hsw]
  refine wpAny_bind (wpAny_standAt (wpAny_bind ?_))
  show wpAny _ X.A (do let _ ← comprehension (.ListComp elt [⟨tg, iter, ifs, 0⟩] scope pos) scope X.env (firstIterPos [⟨tg, iter, ifs, 0⟩] pos) (newList []) false (eval iter X.env) (some (assign (.Name y py) X.env))) _ _ s
  have h : tLc wi g tt te (own.map (·.2)) σ H (fun x H1 => gName i x σ H1 D.nx) := h
  refine wpAny_bind (thn (lc_coreT (Qf := fun _ s' => SP X pins D .next s') h0 hc hN I hi ok hg ht he hs h fun L C s' m H' I' q hn f => ?_) fun _ s' hq => wpAny_pure (wpAny_pure hq))
  show wpAny _ _ (assign (.Name y py) X.env (.ref L)) _ _ _
  refine wpAny_assign_Name (store_ok2 (v := V.ref L) I' hN hy (.inl hyl) rfl (fun s2 I2 ⟨a, sb, ha⟩ => ?_) (.inr hyl))
  obtain ⟨f0, f1, f2, f3, f4, f5⟩ := f
  have haC : C ≠ a := by
    rcases ha with z | z
    · rw [z]; exact f1
    · exact fun e => f4 y a z e.symm
  refine ⟨m, hn.sameBut sb haC, fun h3 sb3 => ?_⟩
  exact ⟨_, H', I2.turned (t' := s2.toks) (fun b o hb e => (sb3.2 b hb).trans e) f0 f1 f3 f4 f5, q⟩
end
end G
/-! My base, part 49: x in (a, b, ..), each an int or None. -/
namespace G
open PySem PySem.Spec PyProof.Rows L2 TL
theorem flat_vN (k : Option Int) : flatV (vN k) = true := by cases k <;> rfl
theorem flat_map_vN : ∀ ks : List (Option Int), (ks.map vN).all flatV = true
  | [] => rfl
  | k :: ks => by rw [List.map_cons, List.all_cons, flat_vN, flat_map_vN ks]; rfl
theorem eqV_vN (a b : Option Int) : eqV (vN a) (vN b) = decide (a = b) := by
  cases a with
  | none =>
    cases b with
    | none => rfl
    | some y => rfl
  | some x =>
    cases b with
    | none => rfl
    | some y =>
      show eqV (.int x) (.int y) = _
      by_cases h : x = y
      · subst h
        rw [decide_eq_true rfl]
        simp [eqV]
      · rw [decide_eq_false fun z => h (Option.some.inj z)]
        simp [eqV, h]
theorem inV_vN (k : Option Int) : ∀ ks : List (Option Int), inV (vN k) (ks.map vN) = decide (k ∈ ks)
  | [] => rfl
  | b :: ks => by
    have ih := inV_vN k ks
    unfold inV at ih ⊢
    rw [List.map_cons, List.any_cons, ih, eqV_vN]
    by_cases h : b = k
    · subst h
      rw [decide_eq_true rfl, Bool.true_or, decide_eq_true (List.mem_cons_self ..)]
    · rw [decide_eq_false h, Bool.false_or]
      exact decide_eq_decide.mpr ⟨List.mem_cons_of_mem _, fun z => (List.mem_cons.mp z).elim (fun e => absurd e.symm h) id⟩
def rInO (K : PySem.W.Frag) (neg : Bool) : R2 := fun x y H Q => ∃ (k : Option Int) (p : Addr) (xs : List V) (ks : List (Option Int)), x = vN k ∧ y = .ref p ∧ SqT K H p xs ∧ xs = ks.map vN ∧ Q (.bl (if neg then !decide (k ∈ ks) else decide (k ∈ ks))) H
theorem op_inO {X : Cx} {K : PySem.W.Frag} (h : X.K = K := by rfl) : OpR X (compareOp .In) (rInO K false) := by
  subst h
  exact OpR.imp op_in_seq fun x y H Q ⟨k, p, xs, ks, e1, e2, hS, e3, q⟩ => ⟨p, xs, e2, .inr hS, by rw [e1]; exact flat_vN k, by rw [e3]; exact flat_map_vN ks, by rw [e1, e3, inV_vN]; exact q⟩
theorem op_notInO {X : Cx} {K : PySem.W.Frag} (h : X.K = K := by rfl) : OpR X (compareOp .NotIn) (rInO K true) := by
  subst h
  exact OpR.imp op_notIn_seq fun x y H Q ⟨k, p, xs, ks, e1, e2, hS, e3, q⟩ => ⟨p, xs, e2, .inr hS, by rw [e1]; exact flat_vN k, by rw [e3]; exact flat_map_vN ks, by rw [e1, e3, inV_vN]; exact q⟩
end G
/-! My base, part 50: sorted(rows), each a text of its own and an int or None. -/
namespace G
open PySem PySem.Spec PyProof.Rows L2 TL PySem.W SrtO
abbrev RwT := Str × Option Int
def leR (p q : RwT) : Bool := decide (tl p.1 ≤ tl q.1)
def sortR (xs : List RwT) : List RwT := xs.mergeSort leR
theorem leR_trans (a b c : RwT) (h1 : leR a b = true) (h2 : leR b c = true) : leR a c = true := decide_eq_true (List.le_trans (of_decide_eq_true h1) (of_decide_eq_true h2))
theorem leR_total (a b : RwT) : (leR a b || leR b a) = true := by
  unfold leR
  rcases List.le_total (tl a.1) (tl b.1) with h | h
  · rw [decide_eq_true h]; rfl
  · rw [decide_eq_true h, Bool.or_true]
theorem sortR_perm (xs : List RwT) : (sortR xs).Perm xs := List.mergeSort_perm _ _
theorem sortR_sorted (xs : List RwT) : (sortR xs).Pairwise fun a b => leR a b = true := List.pairwise_mergeSort leR_trans leR_total xs
theorem sortR_len (xs : List RwT) : (sortR xs).length = xs.length := (sortR_perm xs).length_eq
theorem row_of_text {xs : List RwT} (hn : (xs.map (·.1)).Nodup) {p q : RwT} (hp : p ∈ xs) (hq : q ∈ xs) (e : p.1 = q.1) : p = q := by
  induction xs with
  | nil => exact absurd hp List.not_mem_nil
  | cons x xs ih =>
    rw [List.map_cons, List.nodup_cons] at hn
    rcases List.mem_cons.mp hp with rfl | hp1 <;> rcases List.mem_cons.mp hq with rfl | hq1
    · rfl
    · exact absurd (List.mem_map.mpr ⟨q, hq1, e.symm⟩) hn.1
    · exact absurd (List.mem_map.mpr ⟨p, hp1, e⟩) hn.1
    · exact ih hn.2 hp1 hq1
theorem sortR_uniq {xs ys : List RwT} (hn : (xs.map (·.1)).Nodup) (h : ys.Perm xs) (h2 : ys.Pairwise fun a b => leR a b = true) : sortR xs = ys :=
  ((sortR_perm xs).trans h.symm).eq_of_pairwise (le := fun a b => leR a b = true) (fun a b ha hb h3 h4 =>
    row_of_text hn ((sortR_perm xs).mem_iff.mp ha) (h.mem_iff.mp hb) (tl_eq (List.le_antisymm (of_decide_eq_true h3) (of_decide_eq_true h4)))) (sortR_sorted xs) h2
def sortRO (xs : List RwT) : Option (List RwT) := if (xs.map (·.1)).Nodup then some (sortR xs) else none
theorem sortRO_ok {xs r : List RwT} (h : sortRO xs = some r) : (xs.map (·.1)).Nodup ∧ sortR xs = r := by
  unfold sortRO at h
  split at h
  · exact ⟨by assumption, Option.some.inj h⟩
  · cases h
open Classical in
noncomputable def keyR (K : PySem.W.Frag) (H : Hp) (v : V) : RwT := if h : ∃ x : RwT, R K H v x then h.choose else (("" : Str), none)
theorem keyR_spec {K : PySem.W.Frag} {H : Hp} {v : V} {x : RwT} (h : R K H v x) : R K H v (keyR K H v) := by
  unfold keyR
  rw [dif_pos ⟨x, h⟩]
  exact Exists.choose_spec (⟨x, h⟩ : ∃ x : RwT, R K H v x)
def rSortedRK (K : PySem.W.Frag) : List V → Hp → VK → Prop := fun vs H Q => ∃ (a : Addr) (xs : List V) (ds : List RwT), vs = [V.ref a] ∧ SqL K H a xs ∧ RL K H xs ds ∧ (ds.map (·.1)).Nodup ∧
  ∀ (ys : List V) (p : Addr), ys.length = xs.length → (∀ F, RL K F xs ds → RL K F ys (sortR ds)) → H p = none → Q (.ref p) (upd H p (.lst ys))
theorem vN_inj {a b : Option Int} (h : vN a = vN b) : a = b := by
  cases a <;> cases b <;> simp_all [vN]
noncomputable def ltR (K : PySem.W.Frag) (H : Hp) (v u : Value) : Bool := decide (tl (keyR K H (backV v)).1 < tl (keyR K H (backV u)).1)
theorem swo_R (K : PySem.W.Frag) (H : Hp) : Swo (ltR K H) := by
  refine ⟨fun x y h => ?_, fun x y z h1 h2 => ?_⟩
  · have a := of_decide_eq_true h
    exact decide_eq_false fun b => List.lt_irrefl _ (List.lt_trans a b)
  · have a := List.not_lt.mp (of_decide_eq_false h1)
    have b := List.not_lt.mp (of_decide_eq_false h2)
    exact decide_eq_false fun c => List.not_lt.mpr (List.le_trans a b) c
theorem tups_of {h : Heap} : ∀ {vs : List Value}, (∀ v ∈ vs, ∃ (t : Addr) (o : Obj) (x : Str) (k : Tok) (w : Value) (n : Nat), v = .ref t ∧ h.get? t = some o ∧ o.cls = .type "tuple" ∧ o.data = .seq #[.str x k, w] n) → ∃ fs, KatTups h vs fs ∧ fs.length = vs.length ∧ ∀ f ∈ fs, ∃ x k, f = Value.str x k
  | [], _ => ⟨[], KatTups.nil, rfl, fun f hf => absurd hf List.not_mem_nil⟩
  | v :: vs, hv => by
    obtain ⟨fs, h1, h2, h3⟩ := tups_of fun z hz => hv z (List.mem_cons_of_mem _ hz)
    obtain ⟨t, o, x, k, w, n, rfl, ho, hc, hd⟩ := hv v (List.mem_cons_self ..)
    refine ⟨.str x k :: fs, KatTups.cons ho hc hd rfl h1, congrArg Nat.succ h2, fun f hf => ?_⟩
    rcases List.mem_cons.mp hf with rfl | hf
    · exact ⟨x, k, rfl⟩
    · exact h3 f hf
section
variable {X : Cx} {K : PySem.W.Frag}
theorem cr_sortedR : CallR X (.builtin "sorted") (rSortedRK X.K) := by
  intro pins s σ H vs us Q I r h
  obtain ⟨a, xs, ds, rfl, hs, hA, hnd, q⟩ := h
  have hkey : ∀ i v x, xs[i]? = some v → ds[i]? = some x → keyR X.K H v = x ∧ ∃ t w, v = .ref t ∧ SqT X.K H t [.str x.1, w] := fun i v x hv hx => by
    obtain ⟨x', hx', r⟩ := RL.get hA hv
    rw [hx] at hx'
    cases hx'
    have r2 := keyR_spec r
    obtain ⟨p, v1, v2, e, h1, r3, r4⟩ := R.p2_v r
    obtain ⟨p', w1, w2, e', h2, r5, r6⟩ := R.p2_v r2
    subst e
    cases e'
    obtain ⟨rfl, _⟩ := R.str_v r3
    obtain rfl := R_vN r4
    obtain ⟨rfl, _⟩ := R.str_v r5
    obtain rfl := R_vN r6
    have := I.tuple_inj h1 h2
    simp only [List.cons.injEq, V.str.injEq, and_true] at this
    exact ⟨Prod.ext this.1.symm (vN_inj this.2).symm, p, _, rfl, h1⟩
  have hlen : xs.length = ds.length := RL.len hA
  have hmem : ∀ v ∈ xs, keyR X.K H v ∈ ds ∧ ∃ t w, v = .ref t ∧ SqT X.K H t [.str (keyR X.K H v).1, w] := fun v hv => by
    obtain ⟨i, hi, rfl⟩ := List.getElem_of_mem hv
    obtain ⟨k1, k2⟩ := hkey i xs[i] (ds[i]'(by omega)) (List.getElem?_eq_getElem hi) (List.getElem?_eq_getElem (by omega))
    rw [k1]
    exact ⟨List.getElem_mem _, k2⟩
  have hds : xs.map (keyR X.K H) = ds := List.ext_getElem? fun i => by
    rw [List.getElem?_map]
    by_cases hi : i < xs.length
    · rw [List.getElem?_eq_getElem hi, List.getElem?_eq_getElem (by omega)]
      exact congrArg some (hkey i xs[i] (ds[i]'(by omega)) (List.getElem?_eq_getElem hi) (List.getElem?_eq_getElem (by omega))).1
    · rw [List.getElem?_eq_none (by omega), List.getElem?_eq_none (by omega)]
      rfl
  have hinj : ∀ v ∈ xs, ∀ u ∈ xs, (keyR X.K H v).1 = (keyR X.K H u).1 → v = u := fun v hv u hu e => by
    have hn : (xs.map fun v => (keyR X.K H v).1).Nodup := by
      have : xs.map (fun v => (keyR X.K H v).1) = ds.map (·.1) := by rw [← hds, List.map_map]; rfl
      rw [this]
      exact hnd
    obtain ⟨i, hi, rfl⟩ := List.getElem_of_mem hv
    obtain ⟨j, hj, rfl⟩ := List.getElem_of_mem hu
    have hij : i = j := by
      by_cases h : i = j
      · exact h
      · have := List.pairwise_iff_getElem.mp hn
        rcases Nat.lt_or_gt_of_ne h with h | h
        · exact absurd (by rw [List.getElem_map, List.getElem_map]; exact e) (this i j (by simpa using hi) (by simpa using hj) h)
        · exact absurd (by rw [List.getElem_map, List.getElem_map]; exact e.symm) (this j i (by simpa using hj) (by simpa using hi) h)
    subst hij
    rfl
  obtain ⟨its, rv, hl, hz⟩ := I.list hs
  obtain ⟨u, rfl, ru⟩ := vals1 r
  obtain rfl : u = Value.ref a := ru
  obtain ⟨e1, e2⟩ := refs_back rv fun x m => by
    obtain ⟨_, t, w, e, _⟩ := hmem x m
    exact ⟨t, e⟩
  have hobj : ∀ v ∈ its, ∃ (t : Addr) (o : Obj) (k : Tok) (w : Value) (n : Nat), v = .ref t ∧ s.heap.get? t = some o ∧ o.cls = .type "tuple" ∧ o.data = .seq #[.str (keyR X.K H (backV v)).1 k, w] n := fun v hv => by
    obtain ⟨t, rfl⟩ := e2 v hv
    have hm : V.ref t ∈ xs := by rw [e1]; exact List.mem_map.mpr ⟨_, hv, rfl⟩
    obtain ⟨_, t', w, e, ht⟩ := hmem _ hm
    cases e
    obtain ⟨its2, r2, ⟨o, ho, hc, n, hd⟩, _⟩ := I.tuple ht
    obtain ⟨u1, u2, rfl, ri, rj⟩ := vals2 r2
    obtain ⟨t1, rfl⟩ := ri
    exact ⟨t, o, t1, u2, n, rfl, ho, hc, hd⟩
  have hin : ∀ v ∈ its, backV v ∈ xs := fun v hv => by rw [e1]; exact List.mem_map.mpr ⟨_, hv, rfl⟩
  refine SrtO.sorted_ord (swo_R X.K H) hl.isList (by rw [← rv.length]; exact hz) (fun h2 h₁ a' _ hk => ?_) fun out h1 h2 => ?_
  · intro h' hk'
    have hob : ∀ v ∈ its, ∃ (t : Addr) (o : Obj) (k : Tok) (w : Value) (n : Nat), v = .ref t ∧ h'.get? t = some o ∧ o.cls = .type "tuple" ∧ o.data = .seq #[.str (keyR X.K H (backV v)).1 k, w] n := fun v hv => by
      obtain ⟨t, o, k, w, n, rfl, ho, hc, hd⟩ := hobj v hv
      obtain ⟨k1, k2⟩ := hk t o ho
      exact ⟨t, o, k, w, n, rfl, hk' t o k1 k2, hc, hd⟩
    obtain ⟨fs, g1, g2, g3⟩ := tups_of (h := h') fun v hv => by
      obtain ⟨t, o, k, w, n, e, ho, hc, hd⟩ := hob v hv
      exact ⟨t, o, _, k, w, n, e, ho, hc, hd⟩
    refine ⟨tuples' true, fun Q E hq => kat_kind (T := Value.type "str") g1 (by omega) (fun f hf => ?_) rfl hq, fun p u hp hu => ?_⟩
    · obtain ⟨x, k, rfl⟩ := g3 f hf
      exact Looks.now
    · obtain ⟨t1, o1, k1, w1, n1, ep, ho1, _, hd1⟩ := hob p.1 hp
      obtain ⟨t2, o2, k2, w2, n2, eu, ho2, _, hd2⟩ := hob u.1 hu
      show wpAny (model X.prog X.w) _ (keyLt' (tuples' true) p.1 u.1) (fun r s' => s' = _ ∧ r = ltR X.K H p.1 u.1) (fun _ _ => False) _
      by_cases he : (keyR X.K H (backV p.1)).1 = (keyR X.K H (backV u.1)).1
      · have hv := hinj _ (hin _ hp) _ (hin _ hu) he
        have ht : t1 = t2 := by
          rw [ep, eu] at hv
          have hv : V.ref t1 = V.ref t2 := hv
          exact V.ref.inj hv
        subst ht
        have ho : o1 = o2 := by rw [ho1] at ho2; exact Option.some.inj ho2
        subst ho
        have hdd : #[Value.str (keyR X.K H (backV p.1)).1 k1, w1] = #[Value.str (keyR X.K H (backV u.1)).1 k2, w2] := by
          rw [hd1] at hd2
          injection hd2
        rw [ep, eu]
        refine kat_lt ho1 hd1 ho1 hd1 ?_
        refine kat_cons (SeqAt.EqAt.same _ _ _ _ _ (kat_yes (kat_cons (SeqAt.EqAt.same _ _ _ _ _ (kat_yes (kat_nil ⟨rfl, ?_⟩))))))
        have : ltR X.K H (.ref t1) (.ref t1) = false := decide_eq_false (List.lt_irrefl _)
        rw [this]
        exact decide_eq_false (Nat.lt_irrefl _)
      · have hlt : ltR X.K H p.1 u.1 = decide ((keyR X.K H (backV p.1)).1.cps.toList < (keyR X.K H (backV u.1)).1.cps.toList) := rfl
        rw [hlt]
        generalize (keyR X.K H (backV p.1)).1 = x1 at he hd1
        generalize (keyR X.K H (backV u.1)).1 = x2 at he hd2
        rw [ep, eu]
        refine kat_lt ho1 hd1 ho2 hd2 ?_
        refine kat_cons (eqBool_str ?_)
        have hb : (x1 == x2) = false := beq_eq_false_iff_ne.mpr he
        rw [hb]
        exact kat_no (oneLt_str ⟨rfl, rfl⟩)
  · have h3 : ∀ u ∈ out, ∃ a, u = Value.ref a := fun u hu => e2 u (h2.perm.mem_iff.mp hu)
    have hperm : (out.map backV).Perm xs := by
      rw [e1]
      exact h2.perm.map _
    have hso : sortR ds = (out.map backV).map (keyR X.K H) := by
      refine sortR_uniq hnd (by rw [← hds]; exact hperm.map _) ?_
      rw [List.map_map]
      refine List.pairwise_map.mpr (h1.imp fun {x y} h => ?_)
      have h : ltR X.K H y x = false := h
      exact decide_eq_true (List.not_lt.mp (of_decide_eq_false h))
    obtain ⟨ep, he'⟩ := PyProof.Rows.sortedAll_at s.heap its out.toArray
    have hlz : (out.map backV).length ≤ sizeLine := by rw [hperm.length_eq]; exact hz
    refine ⟨.ref _, upd H (s.heap.objs.size + 1) (.lst (out.map backV)), I.laid (t' := s.toks) (fun _ _ => PyProof.Rows.sortedAll_old) (Nat.le_succ _) ⟨hlz, out, ep, vals_back h3, he'⟩, rfl, q _ _ hperm.length_eq (fun F hF => ?_) (I.hok.fresh (Nat.le_succ _))⟩
    rw [hso]
    have hall : ∀ v ∈ out.map backV, R X.K F v (keyR X.K H v) := fun v hv => by
      obtain ⟨i, hi, rfl⟩ := List.getElem_of_mem (hperm.mem_iff.mp hv)
      obtain ⟨x, hx, rx⟩ := RL.get hF (List.getElem?_eq_getElem hi)
      rw [(hkey i xs[i] x (List.getElem?_eq_getElem hi) hx).1]
      exact rx
    have go : ∀ l : List V, (∀ v ∈ l, R X.K F v (keyR X.K H v)) → RL X.K F l (l.map (keyR X.K H)) := fun l => by
      induction l with
      | nil => exact fun _ => .nil
      | cons v l ih => exact fun h => .cons (h v (List.mem_cons_self ..)) (ih fun u hu => h u (List.mem_cons_of_mem _ hu))
    exact go _ hall
theorem cr_sortedRK (h : X.K = K := by rfl) : CallR X (.builtin "sorted") (rSortedRK K) := by subst h; exact cr_sortedR
end
end G
/-! d.setdefault(k, v) of a dict of one's own with int keys; an if whose test is `a and b`, b with effects. -/
namespace G
open PySem PySem.Spec PyProof.Rows L2 TL
def sdK (kvs : List (Key × V)) (k : Key) (v : V) : List (Key × V) := if (valV kvs k).isSome = true then kvs else putK kvs k v
def dsd {α β : Type} [DecidableEq α] (xs : List (α × β)) (x : α) (y : β) : List (α × β) := if (dval xs x).isSome = true then xs else dput xs x y
def dsdO {α β : Type} [DecidableEq α] (xs : List (α × β)) (x : α) (y : β) : Option (List (α × β)) := if xs.length < sizeLine then some (dsd xs x y) else none
theorem dsdO_ok {α β : Type} [DecidableEq α] {xs r : List (α × β)} {x : α} {y : β} (h : dsdO xs x y = some r) : xs.length < sizeLine ∧ dsd xs x y = r := by
  unfold dsdO at h
  split at h
  · rename_i q; exact ⟨q, Option.some.inj h⟩
  · cases h
section
variable {β : Type} [Enc β] {K : PySem.W.Frag} {F : Hp} {kvs : List (Key × V)} {xs : List (Int × β)}
theorem RD.sd (h : RD (α := Int) K F kvs xs) (x : Int) {y : β} {v : V} (r : R K F v y) : RD (α := Int) K F (sdK kvs (.inl x) v) (dsd xs x y) := by
  have e : (valV kvs (Sum.inl x)).isSome = (dval xs x).isSome := RD.is (α := Int) h x
  unfold sdK dsd
  rw [e]
  by_cases q : (dval xs x).isSome = true
  · rw [if_pos q, if_pos q]; exact h
  · rw [if_neg q, if_neg q]; exact RD.put (α := Int) h x trivial r
theorem dsd_le (h : RD (α := Int) K F kvs xs) {x : Int} {v : V} (hl0 : kvs.length ≤ sizeLine) (hl : xs.length < sizeLine) : (sdK kvs (.inl x) v).length ≤ sizeLine := by
  unfold sdK
  split
  · exact hl0
  · exact dput_le (α := Int) h hl
end
def tDSetd1 (td ty tx : TE) : TE := fun σ H Q => td σ H fun x H1 => ∃ a, x = .ref a ∧ IsD H1 a ∧ ty σ H1 fun y H2 => tx σ H2 fun z H3 => ∃ (kvs : List (Key × V)) (k : Key), H3 a = some (.dK kvs) ∧ y = kV k ∧ kvs.length < sizeLine ∧
  Q ((valV kvs k).getD z) (upd H3 a (.dK (sdK kvs k z)))
section
variable {X : Cx} {o e f : Expr} {td ty tx : TE} {apos cpos : Pos}
theorem upd_self {H : Hp} {a : Addr} {o : HO} (h : H a = some o) : upd H a o = H := by
  funext b
  by_cases q : b = a
  · rw [q, upd_same, h]
  · rw [upd_ne q]
theorem pe_dsetd1 (ho : PE X o td) (he : PE X e ty) (hf : PE X f tx) (m : M2 X o "setdefault" apos e f cpos) : PE X (.Call (.Attribute o "setdefault" apos) [e, f] [] cpos) (tDSetd1 td ty tx) := by
  refine ⟨fun pins s σ H Q I h => ?_⟩
  refine wpAny_Call_method m.base m.few m.line PySem.F.plainAttrs_dict PySem.F.slot_dict_setdefault PySem.F.type_dict_setdefault (thn (ho.run pins s σ H _ I h) fun _ s1 hq => ?_)
  obtain ⟨_, H1, I1, rx, a, rfl, d, q1⟩ := hq
  cases rx
  obtain ⟨t1, t2, _⟩ := isD_at I1 d
  refine ⟨t1, t2, ?_⟩
  rw [m.trees]
  refine Calls.callWith_builtin rfl (Calls.evalArgs_plain (Calls.spliced_cons (thn (he.run pins s1 σ H1 _ I1 q1) fun _ s2 hk => ?_)))
  obtain ⟨_, H2, I2, ry, q2⟩ := hk
  refine Calls.spliced_cons (thn (hf.run pins s2 σ H2 _ I2 q2) fun _ s3 hv => Calls.spliced_nil ?_)
  obtain ⟨z, H3, I3, rz, kvs, k, ea, rfl, hl, q3⟩ := hv
  refine d_setd I3 ea ry rz hl (fun v hv w' s4 I4 r4 => ⟨v, H3, I4, r4, ?_⟩) fun hn w' s4 I4 r4 => ⟨z, _, I4, r4, ?_⟩
  · rw [hv] at q3
    have e1 : sdK kvs k z = kvs := by unfold sdK; rw [hv]; rfl
    rw [e1, upd_self ea] at q3
    exact q3
  · rw [hn] at q3
    have e1 : sdK kvs k z = putK kvs k z := by unfold sdK; rw [hn]; rfl
    rw [e1] at q3
    exact q3
end
theorem qFalse {A B : Prop} (h : B) : if (false = true) then A else B := by rw [if_neg (by decide)]; exact h
end G
/-! a def with cells whose first parameter is local: a token is out when its body begins. -/
namespace G
open PySem PySem.Spec PyProof.Rows L2 TL CwR
section
variable {M : Model} {A : Around} {E : Value → Shared → Prop} {s : Shared}
theorem newEnv_cellsT {scope : Scope} {globals : Addr} {n0 : Str} {v0 : Value} {r : List (Str × Value)} {qual : Str} {func : Option Addr} {code : Value} {builtins : Addr} {Q : Env → Shared → Prop}
    (hk : scope.kind = .function) (h0 : scope.names.lookup n0 = some .local)
    (hkind : ∀ x ∈ r, scope.names.lookup x.1 = some .local ∨ (scope.names.lookup x.1 = some .cell ∧ ((cellsFrom (s.heap.objs.size + 1) scope.names []).lookup x.1).isSome = true))
    (hQ : ∀ env, env = newEnv scope s.heap.objs.size globals (cellsFrom (s.heap.objs.size + 1) scope.names []) qual func code none builtins →
      ∀ s', 1 ≤ s'.toks → InCallC s env.locals (PySem.bindL env.kindOf ((n0, v0) :: r) fun _ => none) env.cells (PySem.bindC env.kindOf ((n0, v0) :: r) fun _ => none) s' → Q env s') :
    wpAny M A (newFunctionEnv scope globals [] ((n0, v0) :: r) qual func code none builtins) Q E s := by
  simp only [newFunctionEnv, Option.isSome_none, Bool.false_eq_true, if_false]
  refine wpAny_bind (wpAny_alloc ?_)
  refine wpAny_bind (wpAny_layCells _ (fun name kind cells => by cases hkc : kind == NameKind.cell <;> simp [hkc]) _ _ _ _ ?_)
  have ok := cellsFrom_ok scope.names (s.heap.push { cls := .type "frame", data := .dict #[] }) (s.heap.objs.size + 1) [] ⟨fun _ _ hm => (nomatch hm), List.Pairwise.nil⟩ (by rw [Heap.size_push]; exact Nat.le_refl _)
  rw [Heap.size_push] at ok
  rw [show ({ s with heap := s.heap.push { cls := .type "frame", data := .dict #[] } } : Shared).heap.objs.size = s.heap.objs.size + 1 from Heap.size_push ..]
  have x0 : InCallC s (newEnv scope s.heap.objs.size globals (cellsFrom (s.heap.objs.size + 1) scope.names []) qual func code none builtins).locals (fun _ => none) (newEnv scope s.heap.objs.size globals (cellsFrom (s.heap.objs.size + 1) scope.names []) qual func code none builtins).cells (fun _ => none) ({ s with heap := pushCells (s.heap.push { cls := .type "frame", data := .dict #[] }) scope.names } : Shared) :=
    ⟨⟨⟨_, _, rfl⟩, (Heap.Ns.new s.heap (.type "frame")).keeps (pushCells_keeps _ _), fun b o e => pushCells_keeps _ _ b o (Heap.get?_push_of_some _ e), Nat.le_refl _⟩,
      fun n c hc => (ok.empty n c (mem_of_lookup hc)).1, ok.apart, fun n c hm => (ok.empty n c hm).2⟩
  have hkl : (newEnv scope s.heap.objs.size globals (cellsFrom (s.heap.objs.size + 1) scope.names []) qual func code none builtins).kindOf n0 = some .local := h0
  refine wpAny_bind ?_
  rw [List.forIn_cons]
  refine wpAny_bind (wpAny_bind (wpAny_storeName_local hkl x0.toInCall.ns (fun h' hn' hs' => ?_) (by show ((scope.kind == .class) || _) = false; rw [hk]; rfl)))
  refine wpAny_pure ?_
  show wpAny M A (forIn r PUnit.unit _) _ E _
  have x1 : InCallC s (newEnv scope s.heap.objs.size globals (cellsFrom (s.heap.objs.size + 1) scope.names []) qual func code none builtins).locals (fun y => if y = n0 then some v0 else none) (newEnv scope s.heap.objs.size globals (cellsFrom (s.heap.objs.size + 1) scope.names []) qual func code none builtins).cells (fun _ => none) ({ s with heap := h', toks := s.toks + 1 } : Shared) :=
    ⟨⟨⟨h', _, rfl⟩, hn', fun b o e => hs'.extBut b o (Nat.ne_of_lt (Nat.lt_of_lt_of_le (Heap.lt_size e) x0.toInCall.fresh)) (x0.toInCall.keep b o e), x0.toInCall.fresh⟩,
      fun k c hc => (x0.cell k c hc).sameBut hs' (Nat.ne_of_gt (x0.above k c (mem_of_lookup hc))), x0.apart, x0.above⟩
  refine wpAny_mono (PySem.wpAny_toks (wpAny_bindParams _ (fun _ _ _ => rfl) hk r _ _ _ (fun _ s' => InCallC s _ _ _ _ s') x1 hkind fun s' x => x)) (fun _ s' q => wpAny_pure (hQ _ rfl s' ?_ ?_)) fun _ _ z => z.2
  · have q1 := q.1
    exact Nat.le_trans (Nat.le_add_left 1 _) q1
  · have q2 := q.2
    unfold PySem.bindL PySem.bindC
    rw [if_pos hkl, if_pos hkl]
    exact q2
end
/-- a def's body keeps its promise; its first parameter is local, so a token is out when it begins -/
theorem fn_ofTC {CX : CXT} {P : Program} {w : World} {K : PySem.W.Frag} {mg : Str → Option Value} {base : Heap} {k : Nat} {f : Addr} {name qual : Str} {params : Arguments} {body : List Stmt} {scope : Scope} {dV kV doc pm cdv ct oc : Value} {an od : Option Addr}
    {osl : Array (Option Value)} {N ps : List Str} {n0 : Str} {sp : Sp} (lk : K.lookup f = some ⟨oc, od, .func (PySem.W.fnOf name qual params body scope dV kV doc pm an cdv ct), osl⟩) (hcd : PySem.W.codeIn K cdv qual = true) (S : FnScope N (n0 :: ps) scope)
    (h0 : scope.names.lookup n0 = some .local) (len : ∀ vs H Q E, sp vs H Q E → vs.length = (n0 :: ps).length)
    (hbody : ∀ (A : Around) (outer : List Env) (s : Shared) (H : Hp) (vs : List V) (Q : VK) (E : XK), Room k (A.deeper (envOfC qual scope s.heap.objs.size f cdv)) → sp vs H Q E →
      ∃ t, PSsT (cxOf CX P w K mg base N qual scope f cdv A outer s H E) body t ∧ t { nx := fun _ H' => Q .non H', rt := Q } (start N vs) H) :
    FnOk P w K mg base CX (k + 1) f (PySem.W.fnOf name qual params body scope dV kV doc pm an cdv ct) (n0 :: ps) sp := by
  refine ⟨len, fun A outer s H args us vs Q E hr e0 hb r hsp => ?_⟩
  have hl := len _ _ _ _ hsp
  have KX : K.In s.heap := e0.mod.kin.keeps fun b o e => (e0.bs b o e).1
  have lim : s.heap.NoLimit := e0.mod.nolimit.keeps fun b o e => (e0.bs b o e).1
  have hul : us.length = (n0 :: ps).length := by rw [← r.length, hl]
  obtain ⟨u0, ut, rfl⟩ : ∃ u0 ut, us = u0 :: ut := by
    cases us with
    | nil => rw [List.length_cons] at hul; cases hul
    | cons u0 ut => exact ⟨u0, ut, rfl⟩
  have hkind : ∀ y ∈ ps.zip ut, scope.names.lookup y.1 = some .local ∨ (scope.names.lookup y.1 = some .cell ∧ ((cellsFrom (s.heap.objs.size + 1) scope.names []).lookup y.1).isSome = true) := fun ⟨n, v⟩ hy => by
    rcases S.par n (List.mem_cons_of_mem _ (List.of_mem_zip hy).1) with q | q
    · exact .inl q
    · exact .inr ⟨q, PySem.W.cellsFrom_some _ _ _ (.inl q)⟩
  refine codeAny_call_function hr.depth (KX _ _ lk) rfl S.co S.gen rfl (PySem.W.codeRec_of KX hcd) (hb _ _ _ _ ?_)
  refine newEnv_cellsT (n0 := n0) (v0 := u0) (r := ps.zip ut) S.kind h0 hkind fun env he s1 hto x => ?_
  subst he
  refine ⟨lim.keeps x.toInCall.keep, codeAny_func ?_⟩
  obtain ⟨t, ht, hq⟩ := hbody A outer s H vs Q E (hr.deeper _) hsp
  have I : Inv (cxOf CX P w K mg base N qual scope f cdv A outer s H E) [] (start N vs) H s1 := inv_start S hr.hd e0 hl r x
  refine wpAny_mono (ht [] s1 (start N vs) H _ hto I hq) (fun fl s' hs => ?_) fun e s' hs => hs
  have fin : ∀ {σ' : L2.St} {H' : Hp} {v : V} {u : Value}, Inv (cxOf CX P w K mg base N qual scope f cdv A outer s H E) [] σ' H' s' → RelV v u → Q v H' → CE outer P w H s Q u s' :=
    fun {σ' H' v u} J rv q => ⟨v, H', J.os, J.bare, J.base, J.hok, rv, q⟩
  cases fl with
  | ret u =>
    obtain ⟨v, σ', H', J, rv, q⟩ := hs
    exact fin J rv q
  | next =>
    obtain ⟨σ', H', J, q⟩ := hs
    exact fin (v := V.non) (u := Value.none) J rfl q
  | brk =>
    obtain ⟨_, _, _, q⟩ := hs
    exact False.elim q
  | cont =>
    obtain ⟨_, _, _, q⟩ := hs
    exact False.elim q
section
variable {P : Program} {w : World} {K : PySem.W.Frag} {mg : Str → Option Value} {base : Heap}
theorem fd_okTC {x qual : Str} {params : Arguments} {body : List Stmt} {scope : Scope} {f : Addr} {fd : FuncData} {N ps : List Str} {n0 : Str} {k : Nat} {sp : Sp} (F : FunD K x qual params body scope [] [] f fd) (S : FnScope N (n0 :: ps) scope) (len : ∀ vs H Q E, sp vs H Q E → vs.length = (n0 :: ps).length)
    (h0 : scope.names.lookup n0 = some .local)
    (hbody : ∀ (cdv : Value) (A : Around) (outer : List Env) (s : Shared) (H : Hp) (vs : List V) (Q : VK) (E : XK), Room k (A.deeper (envOfC qual scope s.heap.objs.size f cdv)) → sp vs H Q E →
      ∃ t, PSsT (cxOf CX0 P w K mg base N qual scope f cdv A outer s H E).nox body t ∧ t { nx := fun _ H' => Q .non H', rt := Q } (start N vs) H) : FnOk P w K mg base CX0 (k + 1) f fd (n0 :: ps) sp := by
  obtain ⟨oc, od, dV, kV, doc, pm, an, cdv, ct, osl, rfl, lk, hcd, _, _⟩ := F.ex
  exact fn_ofTC lk hcd S h0 len fun A outer s H vs Q E hr hsp =>
    let ⟨t, h, q⟩ := hbody cdv A outer s H vs Q E hr hsp
    ⟨t, psst_nox h, q⟩
end
end G
/-! Plain laws: how the makings come out. -/
namespace G
open PySem PySem.Spec PyProof.Rows L2 TL
section
variable {α β γ δ S : Type} {I : S → Prop}
def O1 (o : Option α) (P : α → Prop) : Prop := ∃ a, o = some a ∧ P a
def O2 (I : S → Prop) (o : Option (α × S)) (P : α → Prop) : Prop := ∃ a b, o = some (a, b) ∧ I b ∧ P a
theorem O1.ret {a : α} {P : α → Prop} (h : P a) : O1 (some a) P := ⟨a, rfl, h⟩
theorem O1.imp {o : Option α} {P Q : α → Prop} (h : O1 o P) (k : ∀ a, P a → Q a) : O1 o Q := let ⟨a, e, p⟩ := h; ⟨a, e, k a p⟩
theorem O1.bind {o : Option α} {f : α → Option β} {P : α → Prop} {Q : β → Prop} (h : O1 o P) (k : ∀ a, P a → O1 (f a) Q) : O1 (Option.bind o f) Q := by
  obtain ⟨a, rfl, p⟩ := h
  exact k a p
theorem O2.ret {a : α} {b : S} {P : α → Prop} (hb : I b) (h : P a) : O2 I (some (a, b)) P := ⟨a, b, rfl, hb, h⟩
theorem O2.imp {o : Option (α × S)} {P Q : α → Prop} (h : O2 I o P) (k : ∀ a, P a → Q a) : O2 I o Q := let ⟨a, b, e, i, p⟩ := h; ⟨a, b, e, i, k a p⟩
theorem O2.bind1 {o : Option α} {f : α → Option (β × S)} {P : α → Prop} {Q : β → Prop} (h : O1 o P) (k : ∀ a, P a → O2 I (f a) Q) : O2 I (Option.bind o f) Q := by
  obtain ⟨a, rfl, p⟩ := h
  exact k a p
theorem O2.ite {c : Bool} {x y : Option (α × S)} {P : α → Prop} (h1 : c = true → O2 I x P) (h2 : c = false → O2 I y P) : O2 I (if c = true then x else y) P := by
  cases c with
  | true => exact h1 rfl
  | false => exact h2 rfl
theorem O1.ite {c : Bool} {x y : Option α} {P : α → Prop} (h1 : c = true → O1 x P) (h2 : c = false → O1 y P) : O1 (if c = true then x else y) P := by
  cases c with
  | true => exact h1 rfl
  | false => exact h2 rfl
end
section
variable {α β : Type} {S : Type} {I : S → Prop}
theorem O2.bind {o : Option (α × S)} {f : α → S → Option (β × S)} {P : α → Prop} {Q : β → Prop} (h : O2 I o P) (k : ∀ a b, I b → P a → O2 I (f a b) Q) : O2 I (bind2 o f) Q := by
  obtain ⟨a, b, rfl, i, p⟩ := h
  exact k a b i p
end
section
variable {α β γ δ R T S : Type} {I : S → Prop} {Q : T → Prop} {g : R → Option (T × S)}
theorem O2.bL0 {o : Option (Lp Unit R)} {f : Option (T × S)} (e : o = some (.go ())) (k : O2 I f Q) : O2 I (bindL0 o f g) Q := by subst e; exact k
theorem O2.bL1 {o : Option (Lp α R)} {f : α → Option (T × S)} {a : α} (e : o = some (.go a)) (k : O2 I (f a) Q) : O2 I (bindL1 o f g) Q := by subst e; exact k
theorem O2.bL2 {o : Option (Lp (α × β) R)} {f : α → β → Option (T × S)} {a : α} {b : β} (e : o = some (.go (a, b))) (k : O2 I (f a b) Q) : O2 I (bindL2 o f g) Q := by subst e; exact k
theorem O2.bL3 {o : Option (Lp (α × β × γ) R)} {f : α → β → γ → Option (T × S)} {a : α} {b : β} {c : γ} (e : o = some (.go (a, b, c))) (k : O2 I (f a b c) Q) : O2 I (bindL3 o f g) Q := by subst e; exact k
end
theorem O2.true_ {S : Type} {I : S → Prop} {o : Option (Bool × S)} (h : O2 I o (fun r => r = true)) : ∃ b, o = some (true, b) := by
  obtain ⟨r, b, e, _, rfl⟩ := h
  exact ⟨b, e⟩
/-! ### lists and texts -/
theorem atI_O {α : Type} {xs : List α} {i : Int} {P : α → Prop} (h0 : 0 ≤ i) (h1 : i < xs.length) (h : ∀ x ∈ xs, P x) : O1 (atI xs i) P := by
  obtain ⟨n, rfl⟩ := Int.eq_ofNat_of_zero_le h0
  have hn : n < xs.length := by omega
  have e : xs[n]? = some xs[n] := List.getElem?_eq_getElem hn
  exact ⟨_, atI_nat e, h _ (List.getElem_mem hn)⟩
theorem tl_inj {x y : Str} (h : tl x = tl y) : x = y := by
  obtain ⟨⟨l⟩⟩ := x
  obtain ⟨⟨m⟩⟩ := y
  have h' : l = m := h
  rw [h']
theorem eqS_tl {x y : Str} : eqS x y = decide (tl x = tl y) := by
  rw [eqS_iff]
  exact decide_eq_decide.mpr ⟨fun h => by rw [h], tl_inj⟩
theorem tl_cut {z : Str} {lo hi : Option Int} : tl (cutS z lo hi) = ((tl z).drop (HT.sIx (tl z).length 0 lo)).take (HT.sIx (tl z).length (tl z).length hi - HT.sIx (tl z).length 0 lo) := by
  rw [← len_tl]
  unfold cutS tl
  rfl
theorem sIx_neg (n d : Nat) {k : Nat} (hk : 0 < k) : HT.sIx n d (some (-(k : Int))) = n - k := by
  show (if (-(k : Int)) < 0 then (-(k : Int) + (n : Int)).toNat else min (-(k : Int)).toNat n) = n - k
  rw [if_pos (by omega)]
  omega
theorem sIx_neg1 (n d : Nat) : HT.sIx n d (some (-1)) = n - 1 := sIx_neg n d (k := 1) (by decide)
theorem sIx_n (n d : Nat) : HT.sIx n d none = d := rfl
theorem tl_sgn (c : Nat) : tl (sgn c) = [c] := rfl
theorem catS_O {a b : Str} {P : Str → Prop} (h : (tl a).length + (tl b).length ≤ 16777216) (p : P (a ++ b)) : O1 (catS a b) P := by
  refine ⟨a ++ b, ?_, p⟩
  unfold catS
  rw [if_pos (by rw [len_tl, len_tl, sizeLine_eq]; exact h)]
theorem mulS_O {x : Str} {n : Int} {P : Str → Prop} (h1 : -(2 ^ 63 : Int) ≤ n) (h2 : n ≤ 16777216) (h3 : (tl x).length * n.toNat ≤ 16777216) (p : P (Txt.mul x n)) : O1 (mulS x n) P := by
  refine ⟨_, ?_, p⟩
  unfold mulS
  rw [if_pos ⟨h1, h2, by rw [len_tl]; exact h3⟩]
theorem codeAt_O {x : Str} {i : Int} {P : Nat → Prop} (h0 : 0 ≤ i) (h1 : i < (tl x).length) (h : ∀ c ∈ tl x, P c) : O1 (codeAt x i) P := atI_O h0 h1 h
theorem rangeO1_O {n : Int} {P : List Int → Prop} (h : n ≤ 16777216) (h0 : -(2 ^ 62) ≤ n) (p : P (rangeL 0 n.toNat)) : O1 (rangeO1 n) P := by
  refine ⟨_, ?_, p⟩
  unfold rangeO1
  rw [if_pos ⟨⟨h0, by omega⟩, by rw [sizeLine_eq]; omega⟩]
theorem joinS_O {sep : Str} {ys : List Str} {P : Str → Prop} (h : (ys.map fun y => (tl y).length).sum + ys.length * (tl sep).length ≤ 16777216) (p : P (Txt.join sep ys)) : O1 (joinS sep ys) P := by
  refine ⟨_, ?_, p⟩
  unfold joinS
  rw [if_pos]
  have e : (ys.map fun y => y.length) = ys.map fun y => (tl y).length := List.map_congr_left fun y _ => len_tl y
  show (ys.map fun y => y.length).sum + ys.length * sep.length ≤ _
  rw [e, len_tl]
  exact h
theorem tl_empty : tl ("" : Str) = [] := by decide +kernel
theorem joinL_nil : ∀ (ys : List (List Nat)), joinL [] ys = ys.flatten
  | [] => rfl
  | [y] => by show y = [y].flatten; simp
  | y :: z :: r => by
    show y ++ ([] ++ joinL [] (z :: r)) = _
    rw [joinL_nil (z :: r)]
    simp
theorem tl_join0 (ys : List Str) : tl (Txt.join ("" : Str) ys) = (ys.map tl).flatten := by rw [tl_joinS, tl_empty, joinL_nil]
/-- a text of no more than n signs -/
def Sh (n : Nat) (x : Str) : Prop := (tl x).length ≤ n
theorem Sh.mono {n m : Nat} {x : Str} (h : Sh n x) (k : n ≤ m) : Sh m x := Nat.le_trans h k
theorem Sh.cut {n : Nat} {x : Str} {lo hi : Option Int} (h : Sh n x) : Sh n (cutS x lo hi) := by
  unfold Sh at *
  rw [tl_cut, List.length_take, List.length_drop]
  omega
theorem Sh.sgn {c : Nat} : Sh 1 (sgn c) := Nat.le_refl 1
theorem Sh.rev {n : Nat} {x : Str} (h : Sh n x) : Sh n (revS x) := by
  unfold Sh at *
  rw [tl_revS, List.length_reverse]
  exact h
theorem Sh.cat {n m : Nat} {a b : Str} (ha : Sh n a) (hb : Sh m b) : Sh (n + m) (a ++ b) := by
  unfold Sh at *
  rw [tl_append, List.length_append]
  omega
theorem Sh.cat_O {n m : Nat} {a b : Str} (ha : Sh n a) (hb : Sh m b) (h : n + m ≤ 16777216 := by decide) : O1 (catS a b) (Sh (n + m)) :=
  catS_O (Nat.le_trans (Nat.add_le_add ha hb) h) (ha.cat hb)
theorem tl_mul_len (x : Str) (n : Int) : (tl (Txt.mul x n)).length = n.toNat * (tl x).length := by
  rw [tl_mul, List.length_flatten, List.map_replicate, List.sum_replicate_nat]
theorem Sh.mul_O {n m : Nat} {x : Str} {i : Int} (hx : Sh n x) (h0 : -1000000 ≤ i) (h1 : i ≤ (m : Nat)) (h2 : m * n ≤ 16777216) (h3 : m ≤ 16777216) : O1 (mulS x i) (Sh (m * n)) := by
  have h4 : i.toNat ≤ m := by omega
  have h5 : i.toNat * (tl x).length ≤ m * n := Nat.mul_le_mul h4 hx
  refine mulS_O (by omega) (by omega) (by rw [Nat.mul_comm]; omega) ?_
  unfold Sh
  rw [tl_mul_len]
  exact h5
theorem sh_sum {n : Nat} : ∀ {ys : List Str}, (∀ y ∈ ys, Sh n y) → (ys.map fun y => (tl y).length).sum ≤ ys.length * n
  | [], _ => by simp
  | y :: ys, h => by
    have h1 := sh_sum (n := n) (ys := ys) fun z hz => h z (List.mem_cons_of_mem _ hz)
    have h2 : (tl y).length ≤ n := h y (List.mem_cons_self ..)
    rw [List.map_cons, List.sum_cons, List.length_cons, Nat.add_mul, Nat.one_mul]
    omega
theorem Sh.join_O {n m : Nat} {ys : List Str} (h : ∀ y ∈ ys, Sh n y) (hm : ys.length ≤ m) (h2 : m * n ≤ 16777216) : O1 (joinS ("" : Str) ys) (Sh (m * n)) := by
  have h1 := sh_sum h
  have h3 : ys.length * n ≤ m * n := Nat.mul_le_mul_right n hm
  have e : (tl ("" : Str)).length = 0 := by rw [tl_empty]; rfl
  refine joinS_O (by rw [e]; omega) ?_
  unfold Sh
  rw [tl_join0, List.length_flatten, List.map_map]
  exact Nat.le_trans h1 h3
theorem rangeL_length {lo : Int} {n : Nat} : (rangeL lo n).length = n := rangeL_len lo n
/-! ### == of data -/
class EqvD (α : Type) [Enc α] : Prop where
  iff : ∀ x y : α, PyData.eqv (Enc.d x) (Enc.d y) = true ↔ x = y
instance : EqvD Int := ⟨fun x y => by show (x == y) = true ↔ _; exact beq_iff_eq⟩
instance : EqvD Bool := ⟨fun x y => by show (x == y) = true ↔ _; exact beq_iff_eq⟩
instance : EqvD Str := ⟨fun x y => by show (x == y) = true ↔ _; exact beq_iff_eq⟩
instance {α : Type} [Enc α] [EqvD α] [NN α] : EqvD (Option α) := ⟨fun x y => by
  cases x with
  | none =>
    cases y with
    | none => exact ⟨fun _ => rfl, fun _ => rfl⟩
    | some y =>
      have n := NN.ne y
      refine ⟨fun h => ?_, (fun h => nomatch h)⟩
      have h' : PyData.eqv .none (Enc.d y) = true := h
      revert h' n
      generalize Enc.d y = d
      intro n h'
      cases d <;> first | exact absurd rfl n | cases h'
  | some x =>
    cases y with
    | none =>
      have n := NN.ne x
      refine ⟨fun h => ?_, (fun h => nomatch h)⟩
      have h' : PyData.eqv (Enc.d x) .none = true := h
      revert h' n
      generalize Enc.d x = d
      intro n h'
      cases d <;> first | exact absurd rfl n | cases h'
    | some y => exact ⟨fun h => congrArg some ((EqvD.iff x y).mp h), fun h => (EqvD.iff x y).mpr (Option.some.inj h)⟩⟩
theorem eqvAll_iff {α : Type} [Enc α] [EqvD α] : ∀ xs ys : List α, PyData.eqvAll (xs.map Enc.d) (ys.map Enc.d) = true ↔ xs = ys
  | [], [] => ⟨fun _ => rfl, fun _ => rfl⟩
  | [], _ :: _ => ⟨(fun h => nomatch h), (fun h => nomatch h)⟩
  | _ :: _, [] => ⟨(fun h => nomatch h), (fun h => nomatch h)⟩
  | x :: xs, y :: ys => by
    show (PyData.eqv (Enc.d x) (Enc.d y) && PyData.eqvAll (xs.map Enc.d) (ys.map Enc.d)) = true ↔ _
    rw [Bool.and_eq_true, EqvD.iff, eqvAll_iff xs ys, List.cons.injEq]
instance {α : Type} [Enc α] [EqvD α] : EqvD (List α) := ⟨fun x y => eqvAll_iff x y⟩
instance {α : Type} [Enc α] [EqvD α] : EqvD (VT α) := ⟨fun x y => by
  obtain ⟨x⟩ := x
  obtain ⟨y⟩ := y
  rw [VT.mk.injEq]
  exact eqvAll_iff x y⟩
instance {α β : Type} [Enc α] [Enc β] [EqvD α] [EqvD β] : EqvD (α × β) := ⟨fun x y => by
  obtain ⟨a, b⟩ := x
  obtain ⟨c, d⟩ := y
  show (PyData.eqv (Enc.d a) (Enc.d c) && (PyData.eqv (Enc.d b) (Enc.d d) && true)) = true ↔ _
  rw [Bool.and_true, Bool.and_eq_true, EqvD.iff, EqvD.iff, Prod.mk.injEq]⟩
instance {α β γ : Type} [Enc α] [Enc β] [Enc γ] [EqvD α] [EqvD β] [EqvD γ] : EqvD (T3 α β γ) := ⟨fun x y => by
  obtain ⟨a, b, e⟩ := x
  obtain ⟨c, d, f⟩ := y
  show (PyData.eqv (Enc.d a) (Enc.d c) && (PyData.eqv (Enc.d b) (Enc.d d) && (PyData.eqv (Enc.d e) (Enc.d f) && true))) = true ↔ _
  rw [Bool.and_true, Bool.and_eq_true, Bool.and_eq_true, EqvD.iff, EqvD.iff, EqvD.iff, T3.mk.injEq]⟩
instance {α β γ δ : Type} [Enc α] [Enc β] [Enc γ] [Enc δ] [EqvD α] [EqvD β] [EqvD γ] [EqvD δ] : EqvD (T4 α β γ δ) := ⟨fun x y => by
  obtain ⟨a, b, e, g⟩ := x
  obtain ⟨c, d, f, h⟩ := y
  show (PyData.eqv (Enc.d a) (Enc.d c) && (PyData.eqv (Enc.d b) (Enc.d d) && (PyData.eqv (Enc.d e) (Enc.d f) && (PyData.eqv (Enc.d g) (Enc.d h) && true)))) = true ↔ _
  rw [Bool.and_true, Bool.and_eq_true, Bool.and_eq_true, Bool.and_eq_true, EqvD.iff, EqvD.iff, EqvD.iff, EqvD.iff, T4.mk.injEq]⟩
theorem eqD_iff {α : Type} [Enc α] [EqvD α] {x y : α} : eqD x y = true ↔ x = y := EqvD.iff x y
theorem eqD_dec {α : Type} [Enc α] [EqvD α] [DecidableEq α] {x y : α} : eqD x y = decide (x = y) := by
  rw [Bool.eq_iff_iff, eqD_iff, decide_eq_true_iff]
theorem eqD_refl {α : Type} [Enc α] [EqvD α] (x : α) : eqD x x = true := eqD_iff.mpr rfl
theorem eqD_false {α : Type} [Enc α] [EqvD α] {x y : α} (h : x ≠ y) : eqD x y = false := Bool.eq_false_iff.mpr fun e => h (eqD_iff.mp e)
theorem alike_self {α : Type} [DecidableEq α] (x : α) : m_l_alike x x = some true := by
  unfold m_l_alike
  rw [if_pos rfl]
theorem bind2_some {α β γ : Type} {a : α} {b : β} {f : α → β → Option γ} : bind2 (some (a, b)) f = f a b := rfl
theorem notT {α : Type} {a b : α} : (if (!true) = true then a else b) = b := rfl
theorem alike_O {α : Type} [DecidableEq α] {x y : α} {P : Bool → Prop} (h : x = y) (p : P true) : O1 (m_l_alike x y) P := by
  refine ⟨true, ?_, p⟩
  unfold m_l_alike
  rw [if_pos h]
end G
/-! Plain laws: patterns, their worth, addresses written. -/
namespace G
open PySem PySem.Spec PyProof.Rows L2 TL
/-- a sign of '01' -/
def isB (c : Nat) : Bool := decide (c ∈ [48, 49])
theorem isB_iff {c : Nat} : isB c = true ↔ c = 48 ∨ c = 49 := by unfold isB; simp
theorem tl01 : tl ("01" : Str) = [48, 49] := by decide +kernel
theorem tlStar : tl ("*" : Str) = [42] := by decide +kernel
theorem tl0 : tl ("0" : Str) = [48] := by decide +kernel
theorem tl1 : tl ("1" : Str) = [49] := by decide +kernel
def Bits (bs : List Nat) : Prop := ∀ c ∈ bs, isB c = true
theorem Bits.nil : Bits [] := fun _ h => nomatch h
theorem Bits.app {a b : List Nat} (ha : Bits a) (hb : Bits b) : Bits (a ++ b) := fun c h => (List.mem_append.mp h).elim (ha c) (hb c)
theorem Bits.take {a : List Nat} (n : Nat) (ha : Bits a) : Bits (a.take n) := fun c h => ha c (List.mem_of_mem_take h)
theorem Bits.drop {a : List Nat} (n : Nat) (ha : Bits a) : Bits (a.drop n) := fun c h => ha c (List.mem_of_mem_drop h)
theorem Bits.one {c : Nat} (h : isB c = true) : Bits [c] := fun d hd => by rw [List.mem_singleton.mp hd]; exact h
theorem Bits.mem01 {c : Nat} (h : c ∈ tl ("01" : Str)) : isB c = true := by rw [tl01] at h; exact decide_eq_true h
theorem Bits.no42 {a : List Nat} (ha : Bits a) : 42 ∉ a := fun h => absurd (ha 42 h) (by decide)
/-- the pattern of w signs that bits bs make -/
def patL (w : Nat) (bs : List Nat) : List Nat := bs ++ (if bs.length < w then [42] else [])
structure Pat (w : Nat) (bs : List Nat) (x : Str) : Prop where
  bits : Bits bs
  le : bs.length ≤ w
  eq : tl x = patL w bs
theorem tl_strip (x y : Str) : tl (Txt.stripChars x y) = ((tl x).take (stripHi y.cps.contains true x (stripLo y.cps.contains true x))).drop (stripLo y.cps.contains true x) := by
  unfold Txt.stripChars
  rw [stripBy_eq]
  show (x.cps.extract _ _).toList = _
  rw [List.drop_take]
  simp [tl]
theorem tw0 {p : Nat → Bool} : ∀ l : List Nat, (∀ c, l.head? = some c → p c = false) → l.takeWhile p = []
  | [], _ => rfl
  | c :: r, h => by rw [List.takeWhile_cons, if_neg (by rw [h c rfl]; exact Bool.false_ne_true)]
theorem strip_star {x : Str} {bs st : List Nat} (e : tl x = bs ++ st) (h : 42 ∉ bs) (hs : st = [] ∨ st = [42]) : tl (Txt.stripChars x ("*" : Str)) = bs := by
  have hc : ∀ c : Nat, (("*" : Str)).cps.contains c = decide (c = 42) := fun c => by
    have e1 : (("*" : Str)).cps = #[42] := by decide +kernel
    rw [e1]
    simp [Bool.beq_eq_decide_eq]
  rw [tl_strip]
  generalize hg : (("*" : Str)).cps.contains = g at *
  have hx : x.cps.toList = bs ++ st := e
  have hlen : x.length = bs.length + st.length := by rw [len_tl, e, List.length_append]
  cases bs with
  | nil =>
    rcases hs with rfl | rfl
    · rw [e]; simp
    · have h1 : stripLo g true x = 1 := by
        unfold stripLo
        rw [if_pos rfl, hx]
        show (List.takeWhile g [42]).length = 1
        rw [List.takeWhile_cons, if_pos (by rw [hc]; decide)]
        rfl
      rw [h1, e]
      rw [List.drop_eq_nil_iff, List.length_take]
      exact Nat.min_le_right _ _
  | cons c r =>
    have hc42 : g c = false := by rw [hc]; exact decide_eq_false fun z => h (by rw [z]; exact List.mem_cons_self ..)
    have h1 : stripLo g true x = 0 := by
      unfold stripLo
      rw [if_pos rfl, hx]
      show (List.takeWhile g (c :: (r ++ st))).length = 0
      rw [List.takeWhile_cons, if_neg (by rw [hc42]; decide)]
      rfl
    have hlast : ∀ l : List Nat, 42 ∉ l → l.reverse.takeWhile g = [] := fun l hl => tw0 _ fun d hd => by
      rw [hc]
      refine decide_eq_false fun z => hl ?_
      rw [← z]
      exact List.mem_reverse.mp (List.mem_of_mem_head? hd)
    have h2 : stripHi g true x 0 = (c :: r).length := by
      unfold stripHi
      rw [if_pos rfl, hx, List.drop_zero, hlen]
      rcases hs with rfl | rfl
      · rw [List.append_nil, hlast _ h]
        simp
      · rw [List.reverse_append]
        show _ - (List.takeWhile g (42 :: (c :: r).reverse)).length = _
        rw [List.takeWhile_cons, if_pos (by rw [hc]; decide), hlast _ h]
        simp
    rw [h1, h2, e, List.drop_zero, List.take_left]
theorem part_star {x : Str} {bs st : List Nat} (e : tl x = bs ++ st) (h : 42 ∉ bs) (hs : st = [] ∨ st = [42]) : tl (partS x ("*" : Str)).a = bs := by
  have ex : x = ⟨bs.toArray⟩ ++ (⟨st.toArray⟩ : Str) := tl_inj (by rw [tl_append, e])
  have hb : 42 ∉ tl (⟨bs.toArray⟩ : Str) := by simpa [tl] using h
  rcases hs with rfl | rfl
  · have e2 : x = ⟨bs.toArray⟩ := tl_inj (by rw [e]; simp [tl])
    show tl (Txt.partition x ("*" : Str)).1 = bs
    rw [e2, TL.partition_none tlStar hb]
  · have e2 : x = (⟨bs.toArray⟩ : Str) ++ ("*" : Str) ++ Str.empty := tl_inj (by rw [tl_append, tl_append, tlStar, e]; simp [tl, Str.empty])
    show tl (Txt.partition x ("*" : Str)).1 = bs
    rw [e2, TL.partition_app tlStar hb]
theorem Pat.strip {w : Nat} {bs : List Nat} {x : Str} (p : Pat w bs x) : tl (Txt.stripChars x ("*" : Str)) = bs := by
  refine strip_star (st := if bs.length < w then [42] else []) p.eq p.bits.no42 ?_
  split
  · exact .inr rfl
  · exact .inl rfl
theorem Pat.part {w : Nat} {bs : List Nat} {x : Str} (p : Pat w bs x) : tl (partS x ("*" : Str)).a = bs := by
  refine part_star (st := if bs.length < w then [42] else []) p.eq p.bits.no42 ?_
  split
  · exact .inr rfl
  · exact .inl rfl
theorem Pat.len {w : Nat} {bs : List Nat} {x : Str} (p : Pat w bs x) : (tl x).length ≤ w := by
  rw [p.eq, patL, List.length_append]
  have := p.le
  split
  · simp; omega
  · simp; omega
/-! ### worth -/
def wr (bs : List Nat) : Nat := bs.foldl (fun n c => 2 * n + (if c = 49 then 1 else 0)) 0
theorem wr_from (bs : List Nat) : ∀ a : Nat, bs.foldl (fun n c => 2 * n + (if c = 49 then 1 else 0)) a = a * 2 ^ bs.length + wr bs := by
  induction bs with
  | nil => intro a; simp [wr]
  | cons c bs ih =>
    intro a
    have h0 := ih (2 * 0 + (if c = 49 then 1 else 0))
    show List.foldl _ (2 * a + (if c = 49 then 1 else 0)) bs = _
    rw [ih]
    have h1 : wr (c :: bs) = (2 * 0 + (if c = 49 then 1 else 0)) * 2 ^ bs.length + wr bs := h0
    rw [h1, List.length_cons, Nat.pow_succ]
    generalize (if c = 49 then 1 else 0) = d
    generalize 2 ^ bs.length = p
    rw [Nat.add_mul, Nat.mul_zero, Nat.zero_add, Nat.add_assoc, Nat.mul_comm 2 a, Nat.mul_assoc, Nat.mul_comm 2 p]
theorem wr_app (a b : List Nat) : wr (a ++ b) = wr a * 2 ^ b.length + wr b := by
  unfold wr
  rw [List.foldl_append]
  exact wr_from b _
theorem wr_cons (c : Nat) (b : List Nat) : wr (c :: b) = (if c = 49 then 1 else 0) * 2 ^ b.length + wr b := by
  have := wr_app [c] b
  rw [List.singleton_append] at this
  rw [this]
  congr 2
  simp [wr]
theorem wr_snoc (a : List Nat) (c : Nat) : wr (a ++ [c]) = 2 * wr a + (if c = 49 then 1 else 0) := by
  unfold wr
  rw [List.foldl_append]
  rfl
theorem wr_lt : ∀ bs : List Nat, wr bs < 2 ^ bs.length
  | [] => by decide
  | c :: bs => by
    have := wr_lt bs
    rw [wr_cons, List.length_cons, Nat.pow_succ]
    split <;> omega
theorem wr_zeros (k : Nat) : wr (List.replicate k 48) = 0 := by
  induction k with
  | zero => rfl
  | succ k ih => rw [List.replicate_succ, wr_cons, ih]; simp
theorem wr_ones (k : Nat) : wr (List.replicate k 49) + 1 = 2 ^ k := by
  induction k with
  | zero => rfl
  | succ k ih =>
    rw [List.replicate_succ, wr_cons, List.length_replicate, Nat.pow_succ, if_pos rfl]
    omega
theorem wr_inj : ∀ {a b : List Nat}, Bits a → Bits b → a.length = b.length → wr a = wr b → a = b
  | [], [], _, _, _, _ => rfl
  | [], _ :: _, _, _, h, _ => nomatch h
  | _ :: _, [], _, _, h, _ => nomatch h
  | c :: a, d :: b, ha, hb, h, e => by
    have hl : a.length = b.length := Nat.succ.inj h
    rw [wr_cons, wr_cons, hl] at e
    have h1 := wr_lt a
    have h2 := wr_lt b
    rw [hl] at h1
    have hc := isB_iff.mp (ha c (List.mem_cons_self ..))
    have hd := isB_iff.mp (hb d (List.mem_cons_self ..))
    have he : c = d ∧ wr a = wr b := by
      rcases hc with rfl | rfl <;> rcases hd with rfl | rfl <;> simp at e ⊢ <;> omega
    rw [he.1, wr_inj (fun x hx => ha x (List.mem_cons_of_mem _ hx)) (fun x hx => hb x (List.mem_cons_of_mem _ hx)) hl he.2]
theorem toI_sgn1 (c : Nat) : toI (eqS (sgn c) ("1" : Str)) = ((if c = 49 then 1 else 0 : Nat) : Int) := by
  rw [eqS_tl, tl_sgn, tl1]
  by_cases h : c = 49
  · subst h; rfl
  · rw [decide_eq_false (fun e => h (List.cons.inj e).1), if_neg h]; rfl
theorem log2_lt64 {a : Nat} (h : a < 2 ^ 64) : a.log2 < 64 := by
  by_cases h0 : a = 0
  · subst h0; decide
  · exact (Nat.log2_lt h0).mpr h
theorem mulI_nat {a b : Nat} (ha : a < 2 ^ 64) (hb : b < 2 ^ 64) : mulI (a : Int) (b : Int) = some ((a * b : Nat) : Int) := by
  unfold mulI
  have h1 := log2_lt64 ha
  have h2 := log2_lt64 hb
  rw [if_pos (by rw [Int.natAbs_natCast, Int.natAbs_natCast]; omega)]
  rfl
theorem shlI_one {k : Nat} (h : k ≤ 1000000) : shlI 1 (k : Int) = some ((2 ^ k : Nat) : Int) := by
  unfold shlI
  rw [if_pos ⟨by omega, by omega, by decide⟩, Int.one_mul, Int.toNat_natCast]
  simp
theorem shrI_nat {n k : Nat} : shrI (n : Int) (k : Int) = some ((n / 2 ^ k : Nat) : Int) := by
  unfold shrI
  rw [if_pos (by omega), Int.toNat_natCast]
  simp
theorem and_one (n : Nat) : Builtin.bitAnd (n : Int) 1 = ((n % 2 : Nat) : Int) := by
  have := Bits.bitAnd_mask (x := (n : Int)) 1 (by omega)
  rw [show ((2 : Int) ^ 1 - 1) = 1 by decide] at this
  rw [this]
  simp
theorem pow_lt64 {k : Nat} (h : k < 64) : 2 ^ k < 2 ^ 64 := Nat.pow_lt_pow_right (by decide) h
/-! ### an address written with w signs -/
def bin : Nat → Nat → List Nat
  | 0, _ => []
  | w + 1, n => bin w (n / 2) ++ [48 + n % 2]
theorem bin_len : ∀ w n : Nat, (bin w n).length = w
  | 0, _ => rfl
  | w + 1, n => by rw [bin, List.length_append, bin_len w]; rfl
theorem bin_bits : ∀ w n : Nat, Bits (bin w n)
  | 0, _ => Bits.nil
  | w + 1, n => (bin_bits w _).app (Bits.one (isB_iff.mpr (by have := Nat.mod_two_eq_zero_or_one n; omega)))
theorem wr_bin : ∀ w n : Nat, wr (bin w n) = n % 2 ^ w
  | 0, n => by rw [Nat.pow_zero, Nat.mod_one]; rfl
  | w + 1, n => by
    rw [bin, wr_snoc, wr_bin w, Nat.pow_succ, Nat.mul_comm (2 ^ w) 2, Nat.mod_mul]
    have : (if 48 + n % 2 = 49 then 1 else 0) = n % 2 := by
      have := Nat.mod_two_eq_zero_or_one n
      split <;> omega
    rw [this]
    omega
theorem bin_take : ∀ (k j n : Nat), (bin (k + j) n).take k = bin k (n / 2 ^ j)
  | k, 0, n => by
    rw [Nat.add_zero, Nat.pow_zero, Nat.div_one]
    exact List.take_of_length_le (by rw [bin_len]; exact Nat.le_refl _)
  | k, j + 1, n => by
    show (bin (k + j) (n / 2) ++ [48 + n % 2]).take k = _
    rw [List.take_append_of_le_length (by rw [bin_len]; omega), bin_take k j, Nat.div_div_eq_div_mul, Nat.pow_succ, Nat.mul_comm 2]
theorem bin_top : ∀ k n : Nat, bin (k + 1) n = (48 + n / 2 ^ k % 2) :: bin k n
  | 0, n => by rw [Nat.pow_zero, Nat.div_one]; rfl
  | k + 1, n => by
    rw [bin, bin_top k (n / 2), Nat.div_div_eq_div_mul, Nat.mul_comm 2, ← Nat.pow_succ]
    rfl
theorem code01 {d : Nat} (h : d < 2) : codeAt ("01" : Str) (d : Nat) = some (48 + d) := by
  have : d = 0 ∨ d = 1 := by omega
  rcases this with rfl | rfl
  · exact atI_nat (by rw [tl01]; rfl)
  · exact atI_nat (by rw [tl01]; rfl)
end G
namespace G
open PySem PySem.Spec PyProof.Rows L2 TL
/-! ### addresses that spans have within a block -/
def cn1 (s : Int × Int) (a e : Int) : Int := max 0 (min e s.2 - max a s.1)
def ct (S : List (Int × Int)) (a e : Int) : Int := (S.map fun s => cn1 s a e).sum
theorem ct_nil (a e : Int) : ct [] a e = 0 := rfl
theorem ct_cons (s : Int × Int) (S : List (Int × Int)) (a e : Int) : ct (s :: S) a e = cn1 s a e + ct S a e := by unfold ct; rw [List.map_cons, List.sum_cons]
theorem ct_app (S T : List (Int × Int)) (a e : Int) : ct (S ++ T) a e = ct S a e + ct T a e := by
  induction S with
  | nil => rw [List.nil_append, ct_nil]; omega
  | cons s S ih => rw [List.cons_append, ct_cons, ct_cons, ih]; omega
theorem cn1_nn (s : Int × Int) (a e : Int) : 0 ≤ cn1 s a e := by unfold cn1; omega
theorem ct_nn (S : List (Int × Int)) (a e : Int) : 0 ≤ ct S a e := by
  induction S with
  | nil => exact Int.le_refl _
  | cons s S ih => rw [ct_cons]; have := cn1_nn s a e; omega
theorem cn1_cut {s : Int × Int} {a m e : Int} (h1 : a ≤ m) (h2 : m ≤ e) : cn1 s a e = cn1 s a m + cn1 s m e ∨ s.2 ≤ s.1 := by
  unfold cn1
  omega
/-- rising spans, that may touch -/
def Rise (S : List (Int × Int)) : Prop := (∀ s ∈ S, s.1 < s.2) ∧ S.Pairwise fun s t => s.2 ≤ t.1
/-- rising spans with gaps -/
def Gaps (S : List (Int × Int)) : Prop := (∀ s ∈ S, s.1 < s.2) ∧ S.Pairwise fun s t => s.2 < t.1
theorem Gaps.rise {S : List (Int × Int)} (h : Gaps S) : Rise S := ⟨h.1, h.2.imp fun h => Int.le_of_lt h⟩
theorem Rise.tail {s : Int × Int} {S : List (Int × Int)} (h : Rise (s :: S)) : Rise S := ⟨fun t ht => h.1 t (List.mem_cons_of_mem _ ht), (List.pairwise_cons.mp h.2).2⟩
theorem Gaps.tail {s : Int × Int} {S : List (Int × Int)} (h : Gaps (s :: S)) : Gaps S := ⟨fun t ht => h.1 t (List.mem_cons_of_mem _ ht), (List.pairwise_cons.mp h.2).2⟩
theorem ct_cut {S : List (Int × Int)} (h : Rise S) {a m e : Int} (h1 : a ≤ m) (h2 : m ≤ e) : ct S a e = ct S a m + ct S m e := by
  induction S with
  | nil => rfl
  | cons s S ih =>
    rw [ct_cons, ct_cons, ct_cons, ih h.tail]
    have := h.1 s (List.mem_cons_self ..)
    rcases cn1_cut (s := s) h1 h2 with e | e <;> omega
/-- what stands behind k alone has at most what is behind k -/
theorem ct_from {S : List (Int × Int)} (h : Rise S) {k a e : Int} (hk : ∀ s ∈ S, k ≤ s.1) : ct S a e ≤ max 0 (e - max a k) := by
  induction S generalizing k with
  | nil => rw [ct_nil]; omega
  | cons s S ih =>
    rw [ct_cons]
    have h1 := h.1 s (List.mem_cons_self ..)
    have h2 := hk s (List.mem_cons_self ..)
    have h3 := ih h.tail (k := s.2) fun t ht => (List.pairwise_cons.mp h.2).1 t ht
    unfold cn1
    omega
theorem ct_le {S : List (Int × Int)} (h : Rise S) {a e : Int} (hae : a ≤ e) : ct S a e ≤ e - a := by
  cases S with
  | nil => rw [ct_nil]; omega
  | cons s S =>
    have h3 := ct_from h.tail (k := s.2) (a := a) (e := e) fun t ht => (List.pairwise_cons.mp h.2).1 t ht
    have h1 := h.1 s (List.mem_cons_self ..)
    rw [ct_cons]
    unfold cn1
    omega
/-- a block that is had whole is had by one, where there are gaps -/
theorem ct_full {S : List (Int × Int)} (h : Gaps S) {a e : Int} (hae : a < e) (hc : ct S a e = e - a) : ∃ A s B, S = A ++ s :: B ∧ s.1 ≤ a ∧ e ≤ s.2 ∧ (∀ t ∈ A, cn1 t a e = 0) ∧ (∀ t ∈ B, cn1 t a e = 0) := by
  induction S with
  | nil => rw [ct_nil] at hc; omega
  | cons s S ih =>
    rw [ct_cons] at hc
    have h1 := h.1 s (List.mem_cons_self ..)
    have hp := (List.pairwise_cons.mp h.2).1
    by_cases hz : cn1 s a e = 0
    · obtain ⟨A, t, B, rfl, k1, k2, k3, k4⟩ := ih h.tail (by omega)
      refine ⟨s :: A, t, B, rfl, k1, k2, fun u hu => ?_, k4⟩
      rcases List.mem_cons.mp hu with rfl | hu
      · exact hz
      · exact k3 u hu
    · have h3 := ct_from h.tail.rise (k := s.2 + 1) (a := a) (e := e) fun t ht => hp t ht
      have hb : s.1 ≤ a ∧ e ≤ s.2 := by unfold cn1 at hz hc; omega
      refine ⟨[], s, S, rfl, hb.1, hb.2, (fun t ht => absurd ht (List.not_mem_nil)), fun t ht => ?_⟩
      have := hp t ht
      unfold cn1
      omega
def ends1 (s : Int × Int) (a e : Int) : Nat := (if a < s.1 ∧ s.1 < e then 1 else 0) + (if a < s.2 ∧ s.2 < e then 1 else 0)
def ends (S : List (Int × Int)) (a e : Int) : Nat := (S.map fun s => ends1 s a e).sum
theorem ends_cons (s : Int × Int) (S : List (Int × Int)) (a e : Int) : ends (s :: S) a e = ends1 s a e + ends S a e := by unfold ends; rw [List.map_cons, List.sum_cons]
theorem ends_le (S : List (Int × Int)) (a e : Int) : ends S a e ≤ 2 * S.length := by
  induction S with
  | nil => exact Nat.le_refl _
  | cons s S ih =>
    rw [ends_cons, List.length_cons]
    have : ends1 s a e ≤ 2 := by unfold ends1; split <;> split <;> omega
    omega
theorem ends_cut (S : List (Int × Int)) {a m e : Int} (h1 : a ≤ m) (h2 : m ≤ e) : ends S a m + ends S m e ≤ ends S a e := by
  induction S with
  | nil => exact Nat.le_refl _
  | cons s S ih =>
    rw [ends_cons, ends_cons, ends_cons]
    have : ends1 s a m + ends1 s m e ≤ ends1 s a e := by
      unfold ends1
      repeat' split
      all_goals omega
    omega
theorem ends_zero {S : List (Int × Int)} (h : Rise S) {a e : Int} (hae : a < e) (hz : ends S a e = 0) : ct S a e = 0 ∨ ct S a e = e - a := by
  induction S with
  | nil => exact .inl rfl
  | cons s S ih =>
    rw [ends_cons] at hz
    have hl := ct_le h (Int.le_of_lt hae)
    rw [ct_cons] at hl ⊢
    have h1 := h.1 s (List.mem_cons_self ..)
    have h0 : ends1 s a e = 0 := by omega
    have hs : cn1 s a e = 0 ∨ cn1 s a e = e - a := by
      unfold ends1 at h0
      unfold cn1
      split at h0 <;> split at h0 <;> omega
    have hn := ct_nn S a e
    rcases ih h.tail (by omega) with e1 | e1 <;> rcases hs with e2 | e2 <;> omega
/-! ### the leaves -/
abbrev H2 (j : Nat) : Int := ((2 ^ j : Nat) : Int)
theorem H2_succ (j : Nat) : H2 (j + 1) = 2 * H2 j := by show ((2 ^ (j + 1) : Nat) : Int) = 2 * ((2 ^ j : Nat) : Int); rw [Nat.pow_succ]; omega
theorem H2_pos (j : Nat) : 0 < H2 j := Int.ofNat_lt.mpr (Nat.two_pow_pos j)
theorem H2_zero : H2 0 = 1 := rfl
def can (S : List (Int × Int)) : Nat → Int → List Nat → List (List Nat)
  | 0, a, bs => if ct S a (a + H2 0) = 0 then [] else [bs]
  | j + 1, a, bs => if ct S a (a + H2 (j + 1)) = 0 then [] else if ct S a (a + H2 (j + 1)) = H2 (j + 1) then [bs ++ [42]] else can S j a (bs ++ [48]) ++ can S j (a + H2 j) (bs ++ [49])
/-- a leaf as it is written -/
def leaf (j : Nat) (bs : List Nat) : List Nat := if j = 0 then bs else bs ++ [42]
theorem can_none {S : List (Int × Int)} {j : Nat} {a : Int} {bs : List Nat} (h : ct S a (a + H2 j) = 0) : can S j a bs = [] := by
  cases j <;> (unfold can; rw [if_pos h])
theorem can_full {S : List (Int × Int)} {j : Nat} {a : Int} {bs : List Nat} (h : ct S a (a + H2 j) = H2 j) : can S j a bs = [leaf j bs] := by
  have := H2_pos j
  cases j with
  | zero => unfold can; rw [if_neg (by omega)]; rfl
  | succ j => unfold can; rw [if_neg (by omega), if_pos h]; rfl
theorem can_part {S : List (Int × Int)} {j : Nat} {a : Int} {bs : List Nat} (h1 : ct S a (a + H2 (j + 1)) ≠ 0) (h2 : ct S a (a + H2 (j + 1)) ≠ H2 (j + 1)) : can S (j + 1) a bs = can S j a (bs ++ [48]) ++ can S j (a + H2 j) (bs ++ [49]) := by
  conv => lhs; unfold can
  rw [if_neg h1, if_neg h2]
theorem can_len {S : List (Int × Int)} (h : Rise S) : ∀ (j : Nat) (a : Int) (bs : List Nat), (can S j a bs).length ≤ 1 + j * ends S a (a + H2 j)
  | 0, a, bs => by
    unfold can
    split
    · exact Nat.zero_le _
    · exact Nat.le_add_right _ _
  | j + 1, a, bs => by
    have hp := H2_pos (j + 1)
    have hj := H2_pos j
    have hs := H2_succ j
    by_cases h0 : ct S a (a + H2 (j + 1)) = 0
    · rw [can_none h0]; exact Nat.zero_le _
    · by_cases h1 : ct S a (a + H2 (j + 1)) = H2 (j + 1)
      · rw [can_full h1]; exact Nat.le_add_right _ _
      · rw [can_part h0 h1, List.length_append]
        have l := can_len h j a (bs ++ [48])
        have r := can_len h j (a + H2 j) (bs ++ [49])
        have he : a + H2 j + H2 j = a + H2 (j + 1) := by omega
        rw [he] at r
        have hc := ends_cut S (a := a) (m := a + H2 j) (e := a + H2 (j + 1)) (by omega) (by omega)
        have hz : ends S a (a + H2 (j + 1)) ≠ 0 := fun e => by
          rcases ends_zero h (by omega) e with e | e <;> omega
        generalize ends S a (a + H2 (j + 1)) = x at *
        generalize ends S a (a + H2 j) = y at *
        generalize ends S (a + H2 j) (a + H2 (j + 1)) = z at *
        have : j * y + j * z ≤ j * x := by rw [← Nat.mul_add]; exact Nat.mul_le_mul_left _ hc
        have : (j + 1) * x = j * x + x := Nat.succ_mul j x
        omega
theorem can_congr {S T : List (Int × Int)} : ∀ (j : Nat) (a : Int) (bs : List Nat), (∀ f b, a ≤ f → b ≤ a + H2 j → ct S f b = ct T f b) → can S j a bs = can T j a bs
  | 0, a, bs, h => by
    unfold can
    rw [h a (a + H2 0) (Int.le_refl _) (Int.le_refl _)]
  | j + 1, a, bs, h => by
    have hj := H2_pos j
    have hs := H2_succ j
    unfold can
    rw [h a _ (Int.le_refl _) (Int.le_refl _), can_congr j a _ fun f b h1 h2 => h f b h1 (by omega), can_congr j (a + H2 j) _ fun f b h1 h2 => h f b (by omega) (by omega)]
theorem flat_nil {α β : Type} {f : α → List β} : ∀ {l : List α}, (∀ x ∈ l, f x = []) → l.flatMap f = []
  | [], _ => rfl
  | x :: l, h => by rw [List.flatMap_cons, h x (List.mem_cons_self ..), flat_nil fun y hy => h y (List.mem_cons_of_mem _ hy)]; rfl
theorem ct_zero {S : List (Int × Int)} {a e : Int} : ct S a e = 0 ↔ ∀ s ∈ S, cn1 s a e = 0 := by
  induction S with
  | nil => exact ⟨fun _ t h => absurd h (List.not_mem_nil), fun _ => rfl⟩
  | cons s S ih =>
    rw [ct_cons]
    have h1 := cn1_nn s a e
    have h2 := ct_nn S a e
    constructor
    · intro h t ht
      rcases List.mem_cons.mp ht with rfl | ht
      · omega
      · exact ih.mp (by omega) t ht
    · intro h
      have h3 := h s (List.mem_cons_self ..)
      have h4 := ih.mpr fun t ht => h t (List.mem_cons_of_mem _ ht)
      omega
theorem ct_one (s : Int × Int) (a e : Int) : ct [s] a e = cn1 s a e := by rw [ct_cons, ct_nil]; omega
/-- the leaves of spans with gaps are those of each -/
theorem can_each {S : List (Int × Int)} (h : Gaps S) : ∀ (j : Nat) (a : Int) (bs : List Nat), can S j a bs = S.flatMap fun s => can [s] j a bs := fun j => by
  induction j with
  | zero =>
    intro a bs
    by_cases h0 : ct S a (a + H2 0) = 0
    · rw [can_none h0, flat_nil fun s hs => can_none (by rw [ct_one]; exact ct_zero.mp h0 s hs)]
    · have hl := ct_le h.rise (a := a) (e := a + H2 0) (by rw [H2_zero]; omega)
      have hn := ct_nn S a (a + H2 0)
      exact full h 0 a bs (by rw [H2_zero] at *; omega)
  | succ j ih =>
    intro a bs
    have hj := H2_pos j
    have hs := H2_succ j
    by_cases h0 : ct S a (a + H2 (j + 1)) = 0
    · rw [can_none h0, flat_nil fun s hs => can_none (by rw [ct_one]; exact ct_zero.mp h0 s hs)]
    · by_cases h1 : ct S a (a + H2 (j + 1)) = H2 (j + 1)
      · exact full h (j + 1) a bs h1
      · rw [can_part h0 h1, ih, ih]
        have e1 : S.flatMap (fun s => can [s] (j + 1) a bs) = S.flatMap fun s => can [s] j a (bs ++ [48]) ++ can [s] j (a + H2 j) (bs ++ [49]) := by
          have hle : ∀ T : List (Int × Int), (∀ t ∈ T, t.1 < t.2) → ct T a (a + H2 (j + 1)) < H2 (j + 1) → (T.flatMap fun s => can [s] (j + 1) a bs) = T.flatMap fun s => can [s] j a (bs ++ [48]) ++ can [s] j (a + H2 j) (bs ++ [49]) := fun T => by
            induction T with
            | nil => exact fun _ _ => rfl
            | cons t T ihT =>
              intro ht hc
              rw [ct_cons] at hc
              have n1 := cn1_nn t a (a + H2 (j + 1))
              have n2 := ct_nn T a (a + H2 (j + 1))
              rw [List.flatMap_cons, List.flatMap_cons, ihT (fun u hu => ht u (List.mem_cons_of_mem _ hu)) (by omega)]
              congr 1
              have ht1 := ht t (List.mem_cons_self ..)
              by_cases hz : ct [t] a (a + H2 (j + 1)) = 0
              · rw [can_none hz]
                have hcut := ct_cut (S := [t]) ⟨fun u hu => by rw [List.mem_singleton.mp hu]; exact ht1, List.pairwise_singleton _ _⟩ (a := a) (m := a + H2 j) (e := a + H2 (j + 1)) (by omega) (by omega)
                have m1 := ct_nn [t] a (a + H2 j)
                have m2 := ct_nn [t] (a + H2 j) (a + H2 (j + 1))
                have he : a + H2 j + H2 j = a + H2 (j + 1) := by omega
                rw [can_none (by omega : ct [t] a (a + H2 j) = 0), can_none (by rw [he]; omega)]
                rfl
              · exact can_part hz (by rw [ct_one]; omega)
          have hl := ct_le h.rise (a := a) (e := a + H2 (j + 1)) (by omega)
          exact hle S h.1 (by omega)
        rw [e1]
        exact (inter h (m := a + H2 j) (L := fun s => can [s] j a (bs ++ [48])) (R := fun s => can [s] j (a + H2 j) (bs ++ [49])) (fun s hs => can_none (by rw [ct_one]; unfold cn1; omega)) (fun s hs => can_none (by rw [ct_one]; unfold cn1; omega)))
where
  full {S : List (Int × Int)} (h : Gaps S) (j : Nat) (a : Int) (bs : List Nat) (h1 : ct S a (a + H2 j) = H2 j) : can S j a bs = S.flatMap fun s => can [s] j a bs := by
    have hj := H2_pos j
    obtain ⟨A, s, B, rfl, k1, k2, k3, k4⟩ := ct_full h (a := a) (e := a + H2 j) (by omega) (by omega)
    rw [can_full h1, List.flatMap_append, List.flatMap_cons, flat_nil fun t ht => can_none (by rw [ct_one]; exact k3 t ht), flat_nil fun t ht => can_none (by rw [ct_one]; exact k4 t ht), can_full (by rw [ct_one]; unfold cn1; omega)]
    rfl
  inter {S : List (Int × Int)} {m : Int} {L R : Int × Int → List (List Nat)} (h : Gaps S) (hL : ∀ s, m ≤ s.1 → L s = []) (hR : ∀ s, s.2 ≤ m → R s = []) : S.flatMap L ++ S.flatMap R = S.flatMap fun s => L s ++ R s := by
    induction S with
    | nil => rfl
    | cons s S ih =>
      rw [List.flatMap_cons, List.flatMap_cons, List.flatMap_cons, ← ih h.tail]
      by_cases hs : s.2 ≤ m
      · rw [hR s hs]; simp
      · have : S.flatMap L = [] := flat_nil fun t ht => hL t (by have := (List.pairwise_cons.mp h.2).1 t ht; omega)
        rw [this]; simp
end G
namespace G
open PySem PySem.Spec PyProof.Rows L2 TL
/-! ### the address at which a block begins -/
abbrev beg (bs : List Nat) (j : Nat) : Int := ((wr bs * 2 ^ j : Nat) : Int)
theorem beg0 (bs : List Nat) (j : Nat) : beg (bs ++ [48]) j = beg bs (j + 1) := by
  unfold beg
  rw [wr_snoc, if_neg (by decide), Nat.pow_succ, Nat.add_zero, Nat.mul_comm 2, Nat.mul_assoc, Nat.mul_comm 2]
theorem beg1 (bs : List Nat) (j : Nat) : beg (bs ++ [49]) j = beg bs (j + 1) + H2 j := by
  unfold beg
  rw [wr_snoc, if_pos rfl, Nat.pow_succ, Nat.add_mul, Nat.one_mul, Nat.mul_comm 2, Nat.mul_assoc, Nat.mul_comm 2, Int.natCast_add]
theorem beg_nil (j : Nat) : beg [] j = 0 := by unfold beg; rw [show wr [] = 0 from rfl, Nat.zero_mul]; rfl
/-! ### the leaves without their stars -/
def canB (S : List (Int × Int)) : Nat → Int → List Nat → List (List Nat)
  | 0, a, bs => if ct S a (a + H2 0) = 0 then [] else [bs]
  | j + 1, a, bs => if ct S a (a + H2 (j + 1)) = 0 then [] else if ct S a (a + H2 (j + 1)) = H2 (j + 1) then [bs] else canB S j a (bs ++ [48]) ++ canB S j (a + H2 j) (bs ++ [49])
theorem canB_none {S : List (Int × Int)} {j : Nat} {a : Int} {bs : List Nat} (h : ct S a (a + H2 j) = 0) : canB S j a bs = [] := by
  cases j <;> (unfold canB; rw [if_pos h])
theorem canB_full {S : List (Int × Int)} {j : Nat} {a : Int} {bs : List Nat} (h : ct S a (a + H2 j) = H2 j) : canB S j a bs = [bs] := by
  have := H2_pos j
  cases j with
  | zero => unfold canB; rw [if_neg (by omega)]
  | succ j => unfold canB; rw [if_neg (by omega), if_pos h]
theorem canB_part {S : List (Int × Int)} {j : Nat} {a : Int} {bs : List Nat} (h1 : ct S a (a + H2 (j + 1)) ≠ 0) (h2 : ct S a (a + H2 (j + 1)) ≠ H2 (j + 1)) : canB S (j + 1) a bs = canB S j a (bs ++ [48]) ++ canB S j (a + H2 j) (bs ++ [49]) := by
  conv => lhs; unfold canB
  rw [if_neg h1, if_neg h2]
/-- which of the three -/
theorem can_cases {S : List (Int × Int)} (h : Rise S) {P : Nat → Int → List Nat → Prop} (j : Nat) (a : Int) (bs : List Nat)
    (h0 : ∀ j a bs, ct S a (a + H2 j) = 0 → P j a bs) (h1 : ∀ j a bs, ct S a (a + H2 j) = H2 j → P j a bs)
    (h2 : ∀ j a bs, ct S a (a + H2 (j + 1)) ≠ 0 → ct S a (a + H2 (j + 1)) ≠ H2 (j + 1) → P j a (bs ++ [48]) → P j (a + H2 j) (bs ++ [49]) → P (j + 1) a bs) : P j a bs := by
  induction j generalizing a bs with
  | zero =>
    by_cases e : ct S a (a + H2 0) = 0
    · exact h0 _ _ _ e
    · have l := ct_le h (a := a) (e := a + H2 0) (by rw [H2_zero]; omega)
      have n := ct_nn S a (a + H2 0)
      exact h1 _ _ _ (by have := H2_zero; omega)
  | succ j ih =>
    by_cases e : ct S a (a + H2 (j + 1)) = 0
    · exact h0 _ _ _ e
    · by_cases e2 : ct S a (a + H2 (j + 1)) = H2 (j + 1)
      · exact h1 _ _ _ e2
      · exact h2 _ _ _ e e2 (ih _ _) (ih _ _)
theorem patL_leaf {w j : Nat} {bs : List Nat} (h : bs.length + j = w) : patL w bs = leaf j bs := by
  unfold patL leaf
  by_cases e : j = 0
  · rw [if_neg (by omega), if_pos e, List.append_nil]
  · rw [if_pos (by omega), if_neg e]
theorem can_canB {S : List (Int × Int)} (h : Rise S) {w : Nat} (j : Nat) (a : Int) (bs : List Nat) : bs.length + j = w → can S j a bs = (canB S j a bs).map (patL w) :=
  can_cases h (P := fun j a bs => bs.length + j = w → can S j a bs = (canB S j a bs).map (patL w)) j a bs
    (fun j a bs e _ => by rw [can_none e, canB_none e]; rfl)
    (fun j a bs e hl => by rw [can_full e, canB_full e, List.map_cons, patL_leaf hl]; rfl)
    (fun j a bs e1 e2 i1 i2 hl => by
      rw [can_part e1 e2, canB_part e1 e2, List.map_append, i1 (by rw [List.length_append]; show _ + 1 + _ = _; omega), i2 (by rw [List.length_append]; show _ + 1 + _ = _; omega)])
theorem canB_pre {S : List (Int × Int)} (h : Rise S) (j : Nat) (a : Int) (bs : List Nat) : ∀ x ∈ canB S j a bs, ∃ u, x = bs ++ u ∧ u.length ≤ j ∧ Bits u ∧ (u = [] → ct S a (a + H2 j) = H2 j) :=
  can_cases h (P := fun j a bs => ∀ x ∈ canB S j a bs, ∃ u, x = bs ++ u ∧ u.length ≤ j ∧ Bits u ∧ (u = [] → ct S a (a + H2 j) = H2 j)) j a bs
    (fun j a bs e x hx => by rw [canB_none e] at hx; exact (List.not_mem_nil hx).elim)
    (fun j a bs e x hx => by
      rw [canB_full e] at hx
      rw [List.mem_singleton.mp hx]
      exact ⟨[], (List.append_nil _).symm, Nat.zero_le _, Bits.nil, fun _ => e⟩)
    (fun j a bs e1 e2 i1 i2 x hx => by
      rw [canB_part e1 e2] at hx
      rcases List.mem_append.mp hx with hx | hx
      · obtain ⟨u, rfl, hl, hb, _⟩ := i1 x hx
        exact ⟨48 :: u, by simp, Nat.succ_le_succ hl, (Bits.one (by decide)).app hb, fun z => nomatch z⟩
      · obtain ⟨u, rfl, hl, hb, _⟩ := i2 x hx
        exact ⟨49 :: u, by simp, Nat.succ_le_succ hl, (Bits.one (by decide)).app hb, fun z => nomatch z⟩)
/-- not the two halves of one -/
def NoSib (x y : List Nat) : Prop := ¬ (x.length = y.length ∧ x.dropLast = y.dropLast)
theorem canB_sib {S : List (Int × Int)} (h : Rise S) (j : Nat) (a : Int) (bs : List Nat) : (canB S j a bs).Pairwise NoSib :=
  can_cases h (P := fun j a bs => (canB S j a bs).Pairwise NoSib) j a bs
    (fun j a bs e => by rw [canB_none e]; exact List.Pairwise.nil)
    (fun j a bs e => by rw [canB_full e]; exact List.pairwise_singleton _ _)
    (fun j a bs e1 e2 i1 i2 => by
      rw [canB_part e1 e2]
      refine List.pairwise_append.mpr ⟨i1, i2, fun x hx y hy => ?_⟩
      obtain ⟨u, rfl, hl, _, hu⟩ := canB_pre h _ _ _ x hx
      obtain ⟨v, rfl, hl2, _, hv⟩ := canB_pre h _ _ _ y hy
      rintro ⟨z1, z2⟩
      have hlen : u.length = v.length := by simp at z1; exact z1
      cases u with
      | nil =>
        cases v with
        | nil =>
          have a1 := hu rfl
          have a2 := hv rfl
          have hj := H2_pos j
          have hs := H2_succ j
          have hc := ct_cut h (a := a) (m := a + H2 j) (e := a + H2 (j + 1)) (by omega) (by omega)
          rw [show a + H2 j + H2 j = a + H2 (j + 1) by omega] at a2
          omega
        | cons _ _ => simp at hlen
      | cons c u =>
        cases v with
        | nil => simp at hlen
        | cons d v =>
          rw [List.append_assoc, List.append_assoc, List.dropLast_append_of_ne_nil (by simp), List.dropLast_append_of_ne_nil (by simp), List.dropLast_append_of_ne_nil (by simp)] at z2
          have := List.append_cancel_left z2
          simp at this)
/-! ### the spans of leaves -/
def spB (w : Nat) (x : List Nat) : Int × Int := (beg x (w - x.length), beg x (w - x.length) + H2 (w - x.length))
theorem spB_at {w j : Nat} {bs : List Nat} (h : bs.length + j = w) : spB w bs = (beg bs j, beg bs j + H2 j) := by
  unfold spB
  rw [show w - bs.length = j by omega]
theorem ct_sub {S : List (Int × Int)} (h : Rise S) {a e x y : Int} (h1 : a ≤ x) (h2 : x ≤ y) (h3 : y ≤ e) : ct S a e = ct S a x + ct S x y + ct S y e := by
  rw [ct_cut h (a := a) (m := x) (e := e) h1 (by omega), ct_cut h (a := x) (m := y) (e := e) h2 h3]
  omega
theorem ct_rev {S : List (Int × Int)} {x y : Int} (h : y ≤ x) : ct S x y = 0 := ct_zero.mpr fun s _ => by unfold cn1; omega
theorem ct_canB {S : List (Int × Int)} (h : Rise S) {w : Nat} (j : Nat) (a : Int) (bs : List Nat) : bs.length + j = w → a = beg bs j → ∀ f b, ct ((canB S j a bs).map (spB w)) f b = ct S (max f a) (min b (a + H2 j)) :=
  can_cases h (P := fun j a bs => bs.length + j = w → a = beg bs j → ∀ f b, ct ((canB S j a bs).map (spB w)) f b = ct S (max f a) (min b (a + H2 j))) j a bs
    (fun j a bs e _ _ f b => by
      have hj := H2_pos j
      rw [canB_none e, List.map_nil, ct_nil]
      by_cases hh : max f a ≤ min b (a + H2 j)
      · have := ct_sub h (a := a) (e := a + H2 j) (x := max f a) (y := min b (a + H2 j)) (by omega) hh (by omega)
        have n1 := ct_nn S a (max f a)
        have n2 := ct_nn S (max f a) (min b (a + H2 j))
        have n3 := ct_nn S (min b (a + H2 j)) (a + H2 j)
        omega
      · rw [ct_rev (by omega)])
    (fun j a bs e hl ha f b => by
      have hj := H2_pos j
      rw [canB_full e, List.map_cons, List.map_nil, ct_one, spB_at hl, ← ha]
      unfold cn1
      show max 0 (min b (a + H2 j) - max f a) = _
      by_cases hh : max f a ≤ min b (a + H2 j)
      · have := ct_sub h (a := a) (e := a + H2 j) (x := max f a) (y := min b (a + H2 j)) (by omega) hh (by omega)
        have n1 := ct_le h (a := a) (e := max f a) (by omega)
        have n2 := ct_le h (a := max f a) (e := min b (a + H2 j)) hh
        have n3 := ct_le h (a := min b (a + H2 j)) (e := a + H2 j) (by omega)
        omega
      · rw [ct_rev (by omega)]; omega)
    (fun j a bs e1 e2 i1 i2 hl ha f b => by
      have hj := H2_pos j
      have hs := H2_succ j
      rw [canB_part e1 e2, List.map_append, ct_app, i1 (by rw [List.length_append]; show _ + 1 + _ = _; omega) (by rw [beg0]; exact ha), i2 (by rw [List.length_append]; show _ + 1 + _ = _; omega) (by rw [beg1, ha])]
      rw [show a + H2 j + H2 j = a + H2 (j + 1) by omega]
      by_cases k1 : max f a ≤ min b (a + H2 (j + 1))
      · by_cases k2 : max f a ≤ a + H2 j
        · by_cases k3 : a + H2 j ≤ min b (a + H2 (j + 1))
          · rw [ct_cut h (a := max f a) (m := a + H2 j) (e := min b (a + H2 (j + 1))) k2 k3, show min b (a + H2 j) = a + H2 j by omega, show max f (a + H2 j) = a + H2 j by omega]
          · rw [ct_rev (x := max f (a + H2 j)) (by omega), show min b (a + H2 j) = min b (a + H2 (j + 1)) by omega]
            omega
        · rw [ct_rev (x := max f a) (y := min b (a + H2 j)) (by omega), show max f (a + H2 j) = max f a by omega]
          omega
      · rw [ct_rev (x := max f a) (y := min b (a + H2 j)) (by omega), ct_rev (x := max f (a + H2 j)) (by omega), ct_rev (by omega)]
        omega)
theorem spB_in {S : List (Int × Int)} (h : Rise S) {w : Nat} (j : Nat) (a : Int) (bs : List Nat) : bs.length + j = w → a = beg bs j → ∀ s ∈ (canB S j a bs).map (spB w), a ≤ s.1 ∧ s.1 < s.2 ∧ s.2 ≤ a + H2 j :=
  can_cases h (P := fun j a bs => bs.length + j = w → a = beg bs j → ∀ s ∈ (canB S j a bs).map (spB w), a ≤ s.1 ∧ s.1 < s.2 ∧ s.2 ≤ a + H2 j) j a bs
    (fun j a bs e _ _ s hs => by rw [canB_none e] at hs; exact (List.not_mem_nil hs).elim)
    (fun j a bs e hl ha s hs => by
      have hj := H2_pos j
      rw [canB_full e, List.map_cons, List.map_nil] at hs
      rw [List.mem_singleton.mp hs, spB_at hl, ← ha]
      exact ⟨Int.le_refl _, by show a < a + H2 j; omega, Int.le_refl _⟩)
    (fun j a bs e1 e2 i1 i2 hl ha s hs => by
      have hj := H2_pos j
      have hs2 := H2_succ j
      rw [canB_part e1 e2, List.map_append] at hs
      rcases List.mem_append.mp hs with hs | hs
      · have := i1 (by rw [List.length_append]; show _ + 1 + _ = _; omega) (by rw [beg0]; exact ha) s hs
        omega
      · have := i2 (by rw [List.length_append]; show _ + 1 + _ = _; omega) (by rw [beg1, ha]) s hs
        omega)
theorem spB_rise {S : List (Int × Int)} (h : Rise S) {w : Nat} (j : Nat) (a : Int) (bs : List Nat) : bs.length + j = w → a = beg bs j → Rise ((canB S j a bs).map (spB w)) := fun hl ha =>
  ⟨fun s hs => (spB_in h j a bs hl ha s hs).2.1, can_cases h (P := fun j a bs => bs.length + j = w → a = beg bs j → ((canB S j a bs).map (spB w)).Pairwise fun s t => s.2 ≤ t.1) j a bs
    (fun j a bs e _ _ => by rw [canB_none e]; exact List.Pairwise.nil)
    (fun j a bs e _ _ => by rw [canB_full e]; exact List.pairwise_singleton _ _)
    (fun j a bs e1 e2 i1 i2 hl ha => by
      rw [canB_part e1 e2, List.map_append]
      have l1 : (bs ++ [48]).length + j = w := by rw [List.length_append]; show _ + 1 + _ = _; omega
      have l2 : (bs ++ [49]).length + j = w := by rw [List.length_append]; show _ + 1 + _ = _; omega
      have b1 : a = beg (bs ++ [48]) j := by rw [beg0]; exact ha
      have b2 : a + H2 j = beg (bs ++ [49]) j := by rw [beg1, ha]
      refine List.pairwise_append.mpr ⟨i1 l1 b1, i2 l2 b2, fun s hs t ht => ?_⟩
      have := spB_in h j a _ l1 b1 s hs
      have := spB_in h j _ _ l2 b2 t ht
      omega) hl ha⟩
/-! ### the leaves of both -/
def canM (S : List (Int × Int)) : Nat → Int → List Nat → List (List Nat)
  | 0, _, bs => [bs]
  | j + 1, a, bs => if ct S a (a + H2 (j + 1)) = 0 ∨ ct S a (a + H2 (j + 1)) = H2 (j + 1) then [bs] else canM S j a (bs ++ [48]) ++ canM S j (a + H2 j) (bs ++ [49])
theorem canM_one {S : List (Int × Int)} {j : Nat} {a : Int} {bs : List Nat} (h : ct S a (a + H2 j) = 0 ∨ ct S a (a + H2 j) = H2 j) : canM S j a bs = [bs] := by
  cases j with
  | zero => rfl
  | succ j => unfold canM; rw [if_pos h]
theorem canM_part {S : List (Int × Int)} {j : Nat} {a : Int} {bs : List Nat} (h1 : ct S a (a + H2 (j + 1)) ≠ 0) (h2 : ct S a (a + H2 (j + 1)) ≠ H2 (j + 1)) : canM S (j + 1) a bs = canM S j a (bs ++ [48]) ++ canM S j (a + H2 j) (bs ++ [49]) := by
  conv => lhs; unfold canM
  rw [if_neg (by rintro (h | h); exact h1 h; exact h2 h)]
theorem canM_perm {S R : List (Int × Int)} (h : Rise S) (j : Nat) (a : Int) (bs : List Nat) : (∀ x y, a ≤ x → x ≤ y → y ≤ a + H2 j → ct S x y + ct R x y = y - x) → (canM S j a bs).Perm (canB S j a bs ++ canB R j a bs) :=
  can_cases h (P := fun j a bs => (∀ x y, a ≤ x → x ≤ y → y ≤ a + H2 j → ct S x y + ct R x y = y - x) → (canM S j a bs).Perm (canB S j a bs ++ canB R j a bs)) j a bs
    (fun j a bs e hc => by
      have hj := H2_pos j
      have := hc a (a + H2 j) (Int.le_refl _) (by omega) (Int.le_refl _)
      rw [canM_one (.inl e), canB_none e, canB_full (by omega : ct R a (a + H2 j) = H2 j)]
      exact List.Perm.refl _)
    (fun j a bs e hc => by
      have hj := H2_pos j
      have := hc a (a + H2 j) (Int.le_refl _) (by omega) (Int.le_refl _)
      rw [canM_one (.inr e), canB_full e, canB_none (by omega : ct R a (a + H2 j) = 0)]
      exact List.Perm.refl _)
    (fun j a bs e1 e2 i1 i2 hc => by
      have hj := H2_pos j
      have hs := H2_succ j
      have := hc a (a + H2 (j + 1)) (Int.le_refl _) (by omega) (Int.le_refl _)
      rw [canM_part e1 e2, canB_part e1 e2, canB_part (by omega : ct R a (a + H2 (j + 1)) ≠ 0) (by omega)]
      refine ((i1 fun x y h1 h2 h3 => hc x y h1 h2 (by omega)).append (i2 fun x y h1 h2 h3 => hc x y (by omega) h2 (by omega))).trans ?_
      rw [List.append_assoc, List.append_assoc]
      refine List.Perm.append_left _ ?_
      rw [← List.append_assoc, ← List.append_assoc]
      exact List.Perm.append_right _ List.perm_append_comm)
/-- the one has a 0 where the other has a 1, all alike ahead of it -/
def Apart (x y : List Nat) : Prop := ∃ c u v, x = c ++ 48 :: u ∧ y = c ++ 49 :: v
theorem canM_pre {S : List (Int × Int)} (h : Rise S) (j : Nat) (a : Int) (bs : List Nat) : ∀ x ∈ canM S j a bs, ∃ u, x = bs ++ u ∧ u.length ≤ j ∧ Bits u :=
  can_cases h (P := fun j a bs => ∀ x ∈ canM S j a bs, ∃ u, x = bs ++ u ∧ u.length ≤ j ∧ Bits u) j a bs
    (fun j a bs e x hx => by
      rw [canM_one (.inl e)] at hx
      exact ⟨[], by rw [List.mem_singleton.mp hx, List.append_nil], Nat.zero_le _, Bits.nil⟩)
    (fun j a bs e x hx => by
      rw [canM_one (.inr e)] at hx
      exact ⟨[], by rw [List.mem_singleton.mp hx, List.append_nil], Nat.zero_le _, Bits.nil⟩)
    (fun j a bs e1 e2 i1 i2 x hx => by
      rw [canM_part e1 e2] at hx
      rcases List.mem_append.mp hx with hx | hx
      · obtain ⟨u, rfl, hl, hb⟩ := i1 x hx
        exact ⟨48 :: u, by simp, Nat.succ_le_succ hl, (Bits.one (by decide)).app hb⟩
      · obtain ⟨u, rfl, hl, hb⟩ := i2 x hx
        exact ⟨49 :: u, by simp, Nat.succ_le_succ hl, (Bits.one (by decide)).app hb⟩)
theorem canM_apart {S : List (Int × Int)} (h : Rise S) (j : Nat) (a : Int) (bs : List Nat) : (canM S j a bs).Pairwise Apart :=
  can_cases h (P := fun j a bs => (canM S j a bs).Pairwise Apart) j a bs
    (fun j a bs e => by rw [canM_one (.inl e)]; exact List.pairwise_singleton _ _)
    (fun j a bs e => by rw [canM_one (.inr e)]; exact List.pairwise_singleton _ _)
    (fun j a bs e1 e2 i1 i2 => by
      rw [canM_part e1 e2]
      refine List.pairwise_append.mpr ⟨i1, i2, fun x hx y hy => ?_⟩
      obtain ⟨u, rfl, _⟩ := canM_pre h _ _ _ x hx
      obtain ⟨v, rfl, _⟩ := canM_pre h _ _ _ y hy
      exact ⟨bs, u, v, by simp, by simp⟩)
/-! ### spans one behind the other -/
def Tile : Int → List (Int × Int) → Int → Prop
  | a, [], e => a = e
  | a, s :: T, e => s.1 = a ∧ s.1 < s.2 ∧ Tile s.2 T e
theorem Tile.app : ∀ {T U : List (Int × Int)} {a m e : Int}, Tile a T m → Tile m U e → Tile a (T ++ U) e
  | [], _, _, _, _, h, k => by cases (show _ = _ from h); exact k
  | _ :: _, _, _, _, _, ⟨h1, h2, h3⟩, k => ⟨h1, h2, Tile.app h3 k⟩
theorem Tile.le : ∀ {T : List (Int × Int)} {a e : Int}, Tile a T e → a ≤ e
  | [], _, _, h => Int.le_of_eq h
  | _ :: _, _, _, ⟨h1, h2, h3⟩ => by have := h3.le; omega
theorem Tile.mem : ∀ {T : List (Int × Int)} {a e : Int}, Tile a T e → ∀ s ∈ T, a ≤ s.1 ∧ s.1 < s.2 ∧ s.2 ≤ e
  | s :: T, a, e, ⟨h1, h2, h3⟩, t, ht => by
    rcases List.mem_cons.mp ht with rfl | ht
    · exact ⟨by omega, h2, h3.le⟩
    · have := h3.mem t ht
      omega
theorem Tile.rise : ∀ {T : List (Int × Int)} {a e : Int}, Tile a T e → Rise T
  | [], _, _, _ => ⟨fun _ h => (List.not_mem_nil h).elim, List.Pairwise.nil⟩
  | s :: T, a, e, h@⟨h1, h2, h3⟩ => ⟨fun t ht => (h.mem t ht).2.1, List.pairwise_cons.mpr ⟨fun t ht => (h3.mem t ht).1, h3.rise.2⟩⟩
theorem Tile.ct : ∀ {T : List (Int × Int)} {a e : Int}, Tile a T e → ∀ x y, ct T x y = max 0 (min y e - max x a)
  | [], a, e, h, x, y => by cases (show _ = _ from h); rw [ct_nil]; omega
  | s :: T, a, e, ⟨h1, h2, h3⟩, x, y => by
    rw [ct_cons, h3.ct]
    have := h3.le
    unfold cn1
    omega
theorem Tile.sum : ∀ {T : List (Int × Int)} {a e : Int}, Tile a T e → (T.map fun s => s.2 - s.1).sum = e - a
  | [], a, e, h => by cases (show _ = _ from h); exact (Int.sub_self _).symm
  | s :: T, a, e, ⟨h1, h2, h3⟩ => by rw [List.map_cons, List.sum_cons, h3.sum]; omega
theorem canM_tile {S : List (Int × Int)} (h : Rise S) {w : Nat} (j : Nat) (a : Int) (bs : List Nat) : bs.length + j = w → a = beg bs j → Tile a ((canM S j a bs).map (spB w)) (a + H2 j) := by
  have one : ∀ (j : Nat) (a : Int) (bs : List Nat), bs.length + j = w → a = beg bs j → Tile a ([bs].map (spB w)) (a + H2 j) := fun j a bs hl ha => by
    rw [List.map_cons, spB_at hl, ← ha]
    exact ⟨rfl, by have := H2_pos j; show a < a + H2 j; omega, rfl⟩
  exact can_cases h (P := fun j a bs => bs.length + j = w → a = beg bs j → Tile a ((canM S j a bs).map (spB w)) (a + H2 j)) j a bs
    (fun j a bs e hl ha => by rw [canM_one (.inl e)]; exact one j a bs hl ha)
    (fun j a bs e hl ha => by rw [canM_one (.inr e)]; exact one j a bs hl ha)
    (fun j a bs e1 e2 i1 i2 hl ha => by
      have hs := H2_succ j
      rw [canM_part e1 e2, List.map_append]
      have k2 := i2 (by rw [List.length_append]; show _ + 1 + _ = _; omega) (by rw [beg1, ha])
      rw [show a + H2 j + H2 j = a + H2 (j + 1) by omega] at k2
      exact (i1 (by rw [List.length_append]; show _ + 1 + _ = _; omega) (by rw [beg0]; exact ha)).app k2)
end G
/-! Plain laws: what many laws' texts share. -/
namespace G
open PySem PySem.Spec PyProof.Rows L2 TL
def spanL (w : Nat) (bs : List Nat) : Nat × Nat := (wr bs * 2 ^ (w - bs.length), (wr bs + 1) * 2 ^ (w - bs.length))
theorem notF {α : Type} {a b : α} : (if (!false) = true then a else b) = a := rfl
theorem bin_wr {bs : List Nat} (h : Bits bs) : bin bs.length (wr bs) = bs :=
  wr_inj (bin_bits _ _) h (bin_len _ _) (by rw [wr_bin, Nat.mod_eq_of_lt (wr_lt bs)])
/-! ### the widest block from an address on -/
theorem shlI_w {w J : Nat} (h : J ≤ 60) : shlI (1 : Int) ((w : Int) - ((w : Int) - (J : Int))) = some (H2 J) := by
  rw [show (w : Int) - ((w : Int) - (J : Int)) = (J : Nat) by omega]
  exact shlI_one (by omega)
theorem mod_up {a : Int} {j k : Nat} (h : a % H2 k = 0) (hk : j ≤ k) : a % H2 j = 0 := by
  obtain ⟨d, rfl⟩ := Nat.exists_eq_add_of_le hk
  have : H2 (j + d) = H2 j * H2 d := by show ((2 ^ (j + d) : Nat) : Int) = _; rw [Nat.pow_add, Int.natCast_mul]
  rw [this] at h
  exact Int.emod_eq_zero_of_dvd (Int.dvd_trans (Int.dvd_mul_right _ _) (Int.dvd_of_emod_eq_zero h))
theorem H2_mono {j k : Nat} (h : j ≤ k) : H2 j ≤ H2 k := Int.ofNat_le.mpr (Nat.pow_le_pow_right (by decide) h)
theorem beg_mod (bs : List Nat) (j : Nat) : beg bs j % H2 j = 0 := by
  unfold beg
  rw [Int.natCast_mul]
  exact Int.mul_emod_left _ _
theorem appL_some {α : Type} {l : List α} {x : α} (h : l.length ≤ 1000000) : appL l x = some (l ++ [x]) := by unfold appL; rw [if_pos (by rw [sizeLine_eq]; omega)]
theorem setL_last {α : Type} (F : List α) (x y : α) : setL (F ++ [x]) (-1) y = some (F ++ [y]) := by
  unfold setL ixN
  rw [List.length_append]
  show Option.map _ (if (0 : Int) ≤ -1 then _ else if -((F.length + 1 : Nat) : Int) ≤ -1 then _ else none) = _
  rw [if_neg (by omega), if_pos (by omega)]
  show some ((F ++ [x]).set (-1 + ((F.length + 1 : Nat) : Int)).toNat y) = _
  rw [show (-1 + ((F.length + 1 : Nat) : Int)).toNat = F.length by omega, List.set_append_right _ _ (Nat.le_refl _), Nat.sub_self]
  rfl
theorem gaps_snoc {F : List (Int × Int)} {x : Int × Int} (h : Gaps F) (hx : x.1 < x.2) (hb : ∀ s ∈ F, s.2 < x.1) : Gaps (F ++ [x]) :=
  ⟨fun s hs => (List.mem_append.mp hs).elim (h.1 s) fun e => by rw [List.mem_singleton.mp e]; exact hx,
   List.pairwise_append.mpr ⟨h.2, List.pairwise_singleton _ _, fun s hs t ht => by rw [List.mem_singleton.mp ht]; exact hb s hs⟩⟩
/-! ### drawn stretches -/
theorem rangeL_succ (n : Int) (k : Nat) : rangeL n (k + 1) = n :: rangeL (n + 1) k := by
  unfold rangeL
  rw [List.range_succ_eq_map, List.map_cons, List.map_map]
  congr 1
  · omega
  · refine List.map_congr_left fun i _ => ?_
    show n + ((i + 1 : Nat) : Int) = n + 1 + (i : Nat)
    omega
theorem ins_len (k : Int) : ∀ l : List Int, (ins k l).length ≤ l.length + 1
  | [] => Nat.le_refl _
  | x :: l => by
    unfold ins
    split
    · exact Nat.le_refl _
    · split
      · exact Nat.le_succ _
      · exact Nat.succ_le_succ (ins_len k l)
theorem ssort_len : ∀ l : List Int, (ssort l).length ≤ l.length
  | [] => Nat.le_refl _
  | x :: l => Nat.le_trans (ins_len x (ssort l)) (Nat.succ_le_succ (ssort_len l))
theorem rangeL_add : ∀ (a : Nat) (n : Int) (c : Nat), rangeL n (a + c) = rangeL n a ++ rangeL (n + (a : Nat)) c
  | 0, n, c => by
    rw [Nat.zero_add, show n + ((0 : Nat) : Int) = n by omega]
    rfl
  | a + 1, n, c => by
    rw [show a + 1 + c = (a + c) + 1 by omega, rangeL_succ, rangeL_succ, rangeL_add a (n + 1) c, List.cons_append, show n + 1 + (a : Nat) = n + ((a + 1 : Nat) : Int) by omega]
theorem map_tl_inj : ∀ {xs ys : List Str}, xs.map tl = ys.map tl → xs = ys
  | [], [], _ => rfl
  | [], _ :: _, h => nomatch h
  | _ :: _, [], h => nomatch h
  | x :: xs, y :: ys, h => by
    obtain ⟨h1, h2⟩ := List.cons.inj h
    rw [tl_inj h1, map_tl_inj h2]
/-! ### spans of patterns, by their texts -/
def bsOf (x : Str) : List Nat := (tl x).takeWhile isB
theorem bsOf_pat {w : Nat} {bs : List Nat} {x : Str} (p : Pat w bs x) : bsOf x = bs := by
  unfold bsOf
  rw [p.eq, patL]
  have h : ∀ (l r : List Nat), Bits l → (∀ c, r.head? = some c → isB c = false) → (l ++ r).takeWhile isB = l := by
    intro l r hl hr
    induction l with
    | nil => exact tw0 r hr
    | cons c l ih =>
      show List.takeWhile isB (c :: (l ++ r)) = _
      rw [List.takeWhile_cons, if_pos (hl c (List.mem_cons_self ..)), ih fun d hd => hl d (List.mem_cons_of_mem _ hd)]
  refine h bs _ p.bits fun c hc => ?_
  split at hc
  · have : c = 42 := (Option.some.inj hc).symm
    subst this
    decide
  · cases hc
def spI (w : Nat) (x : Str) : Int × Int := (((spanL w (bsOf x)).1 : Int), ((spanL w (bsOf x)).2 : Int))
def IsPat (w : Nat) (x : Str) : Prop := ∃ bs, Pat w bs x
theorem spI_ok {w : Nat} {x : Str} (p : IsPat w x) : 0 ≤ (spI w x).1 ∧ (spI w x).1 < (spI w x).2 ∧ (spI w x).2 ≤ ((2 ^ w : Nat) : Int) := by
  obtain ⟨bs, p⟩ := p
  unfold spI
  rw [bsOf_pat p]
  have h1 := wr_lt bs
  have hle := p.le
  have h2 : 2 ^ bs.length * 2 ^ (w - bs.length) = 2 ^ w := by rw [← Nat.pow_add]; congr 1; omega
  have h3 : (wr bs + 1) * 2 ^ (w - bs.length) ≤ 2 ^ bs.length * 2 ^ (w - bs.length) := Nat.mul_le_mul_right _ h1
  have h4 : 0 < 2 ^ (w - bs.length) := Nat.two_pow_pos _
  refine ⟨Int.natCast_nonneg _, ?_, ?_⟩
  · show ((wr bs * 2 ^ (w - bs.length) : Nat) : Int) < (((wr bs + 1) * 2 ^ (w - bs.length) : Nat) : Int)
    rw [Nat.add_mul, Nat.one_mul]
    omega
  · show (((wr bs + 1) * 2 ^ (w - bs.length) : Nat) : Int) ≤ _
    omega
/-! ### edges -/
def flat2 (S : List (Int × Int)) : List Int := S.flatMap fun s => [s.1, s.2]
theorem mem_flat2 {S : List (Int × Int)} {k : Int} : k ∈ flat2 S ↔ ∃ s ∈ S, k = s.1 ∨ k = s.2 := by
  unfold flat2
  simp [List.mem_flatMap]
theorem flat2_len (S : List (Int × Int)) : (flat2 S).length = 2 * S.length := by
  induction S with
  | nil => rfl
  | cons s S ih =>
    show ([s.1, s.2] ++ flat2 S).length = _
    rw [List.length_append, ih]
    show 2 + 2 * S.length = 2 * (S.length + 1)
    omega
/-- neighbours -/
def prsL : List Int → List (Int × Int)
  | x :: y :: r => (x, y) :: prsL (y :: r)
  | _ => []
theorem zip_prs : ∀ l : List Int, List.zip l (l.drop 1) = prsL l
  | [] => rfl
  | [_] => rfl
  | x :: y :: r => by
    show (x, y) :: List.zip (y :: r) r = _
    have := zip_prs (y :: r)
    exact congrArg _ this
def edgesOf (w : Nat) (S : List (Int × Int)) : List Int := ssort ([0, ((2 ^ w : Nat) : Int)] ++ flat2 S)
/-! ### what stands in which -/
def hereL (S : List (Int × Int)) (f b : Int) : List Bool := S.map fun s => (decide (s.1 ≤ f)) && (decide (b ≤ s.2))
def apartL (S : List (Int × Int)) (f b : Int) : List Bool := S.map fun s => (decide (b ≤ s.1)) || (decide (s.2 ≤ f))
/-- no edge lies between -/
def Gap (S : List (Int × Int)) (f b : Int) : Prop := f < b ∧ ∀ s ∈ S, s.1 < s.2 ∧ (s.1 ≤ f ∨ b ≤ s.1) ∧ (s.2 ≤ f ∨ b ≤ s.2)
/-- at an edge what stands changes -/
theorem here_ne {S : List (Int × Int)} {p e b : Int} (g1 : Gap S p e) (g2 : Gap S e b) (he : ∃ s ∈ S, e = s.1 ∨ e = s.2) : hereL S e b ≠ hereL S p e := by
  obtain ⟨s, hs, h⟩ := he
  intro z
  have := List.map_eq_map_iff.mp z s hs
  rw [Bool.eq_iff_iff, Bool.and_eq_true, Bool.and_eq_true, decide_eq_true_iff, decide_eq_true_iff, decide_eq_true_iff, decide_eq_true_iff] at this
  obtain ⟨f1, k1⟩ := g1
  obtain ⟨f2, k2⟩ := g2
  obtain ⟨a1, a2, a3⟩ := k1 s hs
  obtain ⟨b1, b2, b3⟩ := k2 s hs
  omega
def El (S : List (Int × Int)) (e : Int) (o : Option (List Bool)) : Prop := o = none ∨ ∃ p, Gap S p e ∧ o = some (hereL S p e) ∧ ∃ s ∈ S, e = s.1 ∨ e = s.2
theorem El.ne {S : List (Int × Int)} {e b : Int} {o : Option (List Bool)} (h : El S e o) (g : Gap S e b) : some (hereL S e b) ≠ o := by
  rcases h with rfl | ⟨p, g1, rfl, hs⟩
  · exact fun z => nomatch z
  · exact fun z => here_ne g1 g hs (Option.some.inj z)
theorem rangeO_len {n : Nat} (h : n ≤ 16777216) : rangeO1 (n : Int) = some (rangeL 0 n) := by
  unfold rangeO1
  rw [if_pos ⟨by omega, by rw [sizeLine_eq]; omega⟩, Int.toNat_natCast]
theorem mem_rangeL {n : Nat} {k : Int} (h : k ∈ rangeL 0 n) : 0 ≤ k ∧ k < (n : Nat) := by
  unfold rangeL at h
  obtain ⟨i, hi, rfl⟩ := List.mem_map.mp h
  have := List.mem_range.mp hi
  omega
/-! ### the edges of a row of spans -/
structure SpOk (w : Nat) (S : List (Int × Int)) : Prop where
  ok : ∀ s ∈ S, 0 ≤ s.1 ∧ s.1 < s.2 ∧ s.2 ≤ ((2 ^ w : Nat) : Int)
theorem prs_adj : ∀ {l : List Int} {f b : Int}, l.Pairwise (· < ·) → (f, b) ∈ prsL l → f < b ∧ ∀ x ∈ l, x ≤ f ∨ b ≤ x
  | [], _, _, _, h => nomatch h
  | [_], _, _, _, h => nomatch h
  | x :: y :: r, f, b, hp, h => by
    obtain ⟨h1, h2⟩ := List.pairwise_cons.mp hp
    rcases List.mem_cons.mp (show (f, b) ∈ (x, y) :: prsL (y :: r) from h) with e | h
    · have e1 : f = x := congrArg Prod.fst e
      have e2 : b = y := congrArg Prod.snd e
      subst e1 e2
      refine ⟨h1 b (List.mem_cons_self ..), fun z hz => ?_⟩
      rcases List.mem_cons.mp hz with rfl | hz
      · exact .inl (Int.le_refl _)
      · rcases List.mem_cons.mp hz with rfl | hz
        · exact .inr (Int.le_refl _)
        · have := (List.pairwise_cons.mp h2).1 z hz
          exact .inr (by omega)
    · obtain ⟨k1, k2⟩ := prs_adj h2 h
      have hf : f ∈ y :: r := prs_mem h
      have hxf := h1 f hf
      refine ⟨k1, fun z hz => ?_⟩
      rcases List.mem_cons.mp hz with rfl | hz
      · exact .inl (by omega)
      · exact k2 z hz
where
  prs_mem : ∀ {l : List Int} {f b : Int}, (f, b) ∈ prsL l → f ∈ l
    | [], _, _, h => nomatch h
    | [_], _, _, h => nomatch h
    | x :: y :: r, f, b, h => by
      rcases List.mem_cons.mp (show (f, b) ∈ (x, y) :: prsL (y :: r) from h) with e | h
      · have e1 : f = x := congrArg Prod.fst e
        subst e1
        exact List.mem_cons_self ..
      · exact List.mem_cons_of_mem _ (prs_mem h)
theorem edges_facts {w : Nat} {S : List (Int × Int)} (h : SpOk w S) : ∃ l, edgesOf w S = 0 :: l ∧ (∀ q ∈ prsL (0 :: l), Gap S q.1 q.2) ∧ (∀ k ∈ l.dropLast, ∃ s ∈ S, k = s.1 ∨ k = s.2) ∧ (0 :: l).getLast? = some ((2 ^ w : Nat) : Int) ∧ l ≠ [] := by
  have hs := ssort_sorted ([0, ((2 ^ w : Nat) : Int)] ++ flat2 S)
  have hm : ∀ k, k ∈ edgesOf w S ↔ k = 0 ∨ k = ((2 ^ w : Nat) : Int) ∨ ∃ s ∈ S, k = s.1 ∨ k = s.2 := fun k => by
    unfold edgesOf
    rw [ssort_mem, List.mem_append, mem_flat2]
    simp only [List.mem_cons, List.not_mem_nil, or_false, or_assoc]
  have hW : (0 : Int) < ((2 ^ w : Nat) : Int) := by have := Nat.two_pow_pos w; omega
  have hlo : ∀ k ∈ edgesOf w S, 0 ≤ k ∧ k ≤ ((2 ^ w : Nat) : Int) := fun k hk => by
    rcases (hm k).mp hk with rfl | rfl | ⟨s, hs, rfl | rfl⟩
    · omega
    · omega
    · have := h.ok s hs; omega
    · have := h.ok s hs; omega
  change (edgesOf w S).Pairwise (· < ·) at hs
  have h0 := (hm 0).mpr (.inl rfl)
  have hWm := (hm ((2 ^ w : Nat) : Int)).mpr (.inr (.inl rfl))
  generalize edgesOf w S = E at hs hm hlo h0 hWm
  cases E with
  | nil => cases h0
  | cons x l =>
    obtain ⟨s1, s2⟩ := List.pairwise_cons.mp hs
    have ex : x = 0 := by
      rcases List.mem_cons.mp h0 with e | e
      · exact e.symm
      · have := s1 0 e
        have := hlo x (List.mem_cons_self ..)
        omega
    subst ex
    have hne : l ≠ [] := fun e => by
      subst e
      have := List.mem_singleton.mp hWm
      omega
    have hlast : (0 :: l).getLast? = some ((2 ^ w : Nat) : Int) := by
      obtain ⟨m, z, rfl⟩ : ∃ m z, l = m ++ [z] := ⟨l.dropLast, l.getLast hne, (List.dropLast_concat_getLast hne).symm⟩
      have hz : z = ((2 ^ w : Nat) : Int) := by
        rcases List.mem_cons.mp hWm with e | e
        · omega
        · rcases List.mem_append.mp e with e | e
          · have h3 := (List.pairwise_append.mp s2).2.2 _ e z (List.mem_singleton.mpr rfl)
            have := hlo z (List.mem_cons_of_mem _ (List.mem_append.mpr (.inr (List.mem_singleton.mpr rfl))))
            omega
          · exact (List.mem_singleton.mp e).symm
      subst hz
      rw [← List.cons_append]
      exact List.getLast?_concat
    refine ⟨l, rfl, fun q hq => ?_, fun k hk => ?_, hlast, hne⟩
    · obtain ⟨k1, k2⟩ := prs_adj hs hq
      exact ⟨k1, fun s hs2 => ⟨(h.ok s hs2).2.1, k2 s.1 ((hm s.1).mpr (.inr (.inr ⟨s, hs2, .inl rfl⟩))), k2 s.2 ((hm s.2).mpr (.inr (.inr ⟨s, hs2, .inr rfl⟩)))⟩⟩
    · rcases (hm k).mp (List.mem_cons_of_mem _ (List.dropLast_subset _ hk)) with rfl | rfl | e
      · have := s1 0 (List.dropLast_subset _ hk); omega
      · exfalso
        obtain ⟨m, z, rfl⟩ : ∃ m z, l = m ++ [z] := ⟨l.dropLast, l.getLast hne, (List.dropLast_concat_getLast hne).symm⟩
        rw [List.dropLast_concat] at hk
        have h3 := (List.pairwise_append.mp s2).2.2 _ hk z (List.mem_singleton.mpr rfl)
        have := hlo z (List.mem_cons_of_mem _ (List.mem_append.mpr (.inr (List.mem_singleton.mpr rfl))))
        omega
      · exact e
theorem spOk {w : Nat} {ps : List Str} (h : ∀ p ∈ ps, IsPat w p) : SpOk w (ps.map (spI w)) := ⟨fun s hs => by
  obtain ⟨p, hp, rfl⟩ := List.mem_map.mp hs
  exact spI_ok (h p hp)⟩
theorem prs_len : ∀ l : List Int, (prsL l).length ≤ l.length
  | [] => Nat.le_refl _
  | [_] => Nat.zero_le _
  | x :: y :: r => by
    show (prsL (y :: r)).length + 1 ≤ (y :: r).length + 1
    exact Nat.succ_le_succ (prs_len (y :: r))
end G
/-! Plain laws: patterns written out of signs; sorted texts; tiles and parts. -/
namespace G
open PySem PySem.Spec PyProof.Rows L2 TL
theorem conL_some {α : Type} {a b : List α} (h : a.length + b.length ≤ 1000000) : conL a b = some (a ++ b) := by unfold conL; rw [if_pos (by rw [sizeLine_eq]; omega)]
section
variable {α β γ R T : Type} {g : R → Option T}
theorem bL0_go {f : Option T} : bindL0 (some (.go ())) f g = f := rfl
theorem bL1_go {f : α → Option T} {a : α} : bindL1 (some (.go a)) f g = f a := rfl
theorem bL2_go {f : α → β → Option T} {a : α} {b : β} : bindL2 (some (.go (a, b))) f g = f a b := rfl
theorem bL3_go {f : α → β → γ → Option T} {a : α} {b : β} {c : γ} : bindL3 (some (.go (a, b, c))) f g = f a b c := rfl
end
theorem shlI_H {k : Nat} (h : k ≤ 1000000) : shlI 1 (k : Int) = some (H2 k) := shlI_one h
theorem rangeO_1 {n : Nat} (h : n ≤ 1000000) : rangeO (1 : Int) ((n : Nat) : Int) = some (rangeL 1 (n - 1)) := by
  unfold rangeO
  rw [if_pos ⟨by omega, by rw [sizeLine_eq]; omega⟩, show (((n : Nat) : Int) - 1).toNat = n - 1 by omega]
theorem mem_range1 {n : Nat} {k : Int} (h : k ∈ rangeL 1 (n - 1)) : ∃ i : Nat, k = ((i + 1 : Nat) : Int) ∧ i + 1 < n := by
  unfold rangeL at h
  obtain ⟨i, hi, rfl⟩ := List.mem_map.mp h
  have := List.mem_range.mp hi
  exact ⟨i, by omega, by omega⟩
/-- texts that write the patterns of some signs -/
structure Pats (w : Nat) (us : List (List Nat)) (ys : List Str) : Prop where
  eq : ys.map tl = us.map (patL w)
  ok : ∀ u ∈ us, Bits u ∧ u.length ≤ w
theorem Pats.app {w : Nat} {us vs : List (List Nat)} {ys zs : List Str} (h : Pats w us ys) (k : Pats w vs zs) : Pats w (us ++ vs) (ys ++ zs) :=
  ⟨by rw [List.map_append, List.map_append, h.eq, k.eq], fun u hu => (List.mem_append.mp hu).elim (h.ok u) (k.ok u)⟩
theorem Pats.len {w : Nat} {us : List (List Nat)} {ys : List Str} (h : Pats w us ys) : ys.length = us.length := by
  have := congrArg List.length h.eq
  rwa [List.length_map, List.length_map] at this
theorem Pats.tail {w : Nat} {u : List Nat} {us : List (List Nat)} {y : Str} {ys : List Str} (h : Pats w (u :: us) (y :: ys)) : Pat w u y ∧ Pats w us ys := by
  have e := h.eq
  rw [List.map_cons, List.map_cons] at e
  obtain ⟨e1, e2⟩ := List.cons.inj e
  have := h.ok u (List.mem_cons_self ..)
  exact ⟨⟨this.1, this.2, e1⟩, e2, fun v hv => h.ok v (List.mem_cons_of_mem _ hv)⟩
theorem Pats.rec_ {w : Nat} {P : List (List Nat) → List Str → Prop} (h0 : P [] []) (h1 : ∀ u us y ys, Pat w u y → Pats w us ys → P us ys → P (u :: us) (y :: ys)) : ∀ {us ys}, Pats w us ys → P us ys
  | [], [], _ => h0
  | [], _ :: _, h => nomatch h.len
  | _ :: _, [], h => nomatch h.len
  | u :: us, y :: ys, h => h1 u us y ys h.tail.1 h.tail.2 (Pats.rec_ h0 h1 h.tail.2)
theorem Pats.each {w : Nat} {us : List (List Nat)} {ys : List Str} (h : Pats w us ys) : ∀ y ∈ ys, IsPat w y :=
  Pats.rec_ (P := fun us ys => ∀ y ∈ ys, IsPat w y) (fun _ h => nomatch h) (fun u us y ys p _ ih z hz => by
    rcases List.mem_cons.mp hz with rfl | hz
    · exact ⟨u, p⟩
    · exact ih z hz) h
theorem spI_spB {w : Nat} {u : List Nat} {y : Str} (p : Pat w u y) : spI w y = spB w u := by
  unfold spI spB spanL
  rw [bsOf_pat p]
  refine Prod.ext rfl ?_
  show (((wr u + 1) * 2 ^ (w - u.length) : Nat) : Int) = ((wr u * 2 ^ (w - u.length) : Nat) : Int) + ((2 ^ (w - u.length) : Nat) : Int)
  rw [Nat.add_mul, Nat.one_mul, Int.natCast_add]
theorem Pats.spans {w : Nat} {us : List (List Nat)} {ys : List Str} (h : Pats w us ys) : ys.map (spI w) = us.map (spB w) :=
  Pats.rec_ (P := fun us ys => ys.map (spI w) = us.map (spB w)) rfl (fun u us y ys p _ ih => by rw [List.map_cons, List.map_cons, ih, spI_spB p]) h
theorem Pats.strip {w : Nat} {us : List (List Nat)} {ys : List Str} (h : Pats w us ys) : (ys.map fun y => Txt.stripChars y ("*" : Str)).map tl = us :=
  Pats.rec_ (P := fun us ys => (ys.map fun y => Txt.stripChars y ("*" : Str)).map tl = us) rfl (fun u us y ys p _ ih => by rw [List.map_cons, List.map_cons, ih, p.strip]) h
/-- the leaves of all addresses -/
theorem canB_root {S : List (Int × Int)} (h : Rise S) (w : Nat) : ∀ u ∈ canB S w 0 [], Bits u ∧ u.length ≤ w := fun u hu => by
  obtain ⟨v, rfl, h1, h2, _⟩ := canB_pre h w 0 [] u hu
  exact ⟨h2, h1⟩
theorem can_pats {S : List (Int × Int)} (h : Rise S) {w : Nat} {ys : List Str} (e : ys.map tl = can S w 0 []) : Pats w (canB S w 0 []) ys :=
  ⟨by rw [e, can_canB h w 0 [] (Nat.zero_add w)], canB_root h w⟩
theorem can_len0 {S : List (Int × Int)} (h : Rise S) (w : Nat) : (can S w 0 []).length ≤ 1 + w * (2 * S.length) := by
  have h1 := can_len h w 0 []
  exact Nat.le_trans h1 (Nat.add_le_add_left (Nat.mul_le_mul_left _ (ends_le _ _ _)) 1)
/-! ### sorted texts -/
theorem Apart.le {x y : List Nat} (h : Apart x y) : x ≤ y := by
  obtain ⟨c, u, v, rfl, rfl⟩ := h
  refine List.le_of_lt ?_
  induction c with
  | nil => exact List.Lex.rel (by decide)
  | cons a c ih => exact List.Lex.cons ih
theorem Apart.take {x y : List Nat} (h : Apart x y) : y.take x.length ≠ x := by
  obtain ⟨c, u, v, rfl, rfl⟩ := h
  intro e
  have h1 : (c ++ 49 :: v).take (c ++ 48 :: u).length = c ++ (49 :: v).take (u.length + 1) := by
    rw [List.length_append, List.take_length_add_append]
    rfl
  rw [h1] at e
  have := List.append_cancel_left e
  rw [List.take_succ_cons] at this
  exact absurd (List.cons.inj this).1 (by decide)
theorem sortT_map {L : List Str} {C : List (List Nat)} (hp : (L.map tl).Perm C) (hs : C.Pairwise fun a b => a ≤ b) : (sortT L).map tl = C := by
  have h1 : ((sortT L).map tl).Perm C := ((sortT_perm L).map tl).trans hp
  have h2 : ((sortT L).map tl).Pairwise fun a b => a ≤ b := List.pairwise_map.mpr ((sortT_sorted L).imp fun h => of_decide_eq_true h)
  exact h1.eq_of_pairwise (le := fun a b => a ≤ b) (fun a b _ _ h3 h4 => List.le_antisymm h3 h4) h2 hs
/-! ### tiles -/
theorem Tile.sortP {T U : List (Int × Int)} {a e : Int} (h : Tile a T e) (hp : T.Perm U) : sortP U = T :=
  sortP_uniq hp (h.rise.2.imp_of_mem fun {s t} hs ht k => decide_eq_true (.inl (by have := (h.mem s hs).2.1; omega)))
theorem Tile.prs : ∀ {T : List (Int × Int)} {a e : Int}, Tile a T e → prsL (a :: T.map (·.2)) = T
  | [], _, _, _ => rfl
  | [s], a, e, ⟨h1, h2, h3⟩ => by
    show [(a, s.2)] = [s]
    rw [← h1]
  | s :: t :: T, a, e, ⟨h1, h2, h3⟩ => by
    show (a, s.2) :: prsL (s.2 :: (t :: T).map (·.2)) = _
    rw [Tile.prs h3, ← h1]
theorem Tile.ends_mem : ∀ {T : List (Int × Int)} {a e k : Int}, Tile a T e → (k ∈ a :: T.map (·.2) ↔ k = a ∨ k = e ∨ ∃ s ∈ T, k = s.1 ∨ k = s.2)
  | [], a, e, k, h => by
    cases (show _ = _ from h)
    simp
  | s :: T, a, e, k, ⟨h1, h2, h3⟩ => by
    have ih := Tile.ends_mem (k := k) h3
    rw [List.map_cons]
    constructor
    · intro h
      rcases List.mem_cons.mp h with rfl | h
      · exact .inl rfl
      · rcases ih.mp h with rfl | rfl | ⟨t, ht, hk⟩
        · exact .inr (.inr ⟨s, List.mem_cons_self .., .inr rfl⟩)
        · exact .inr (.inl rfl)
        · exact .inr (.inr ⟨t, List.mem_cons_of_mem _ ht, hk⟩)
    · rintro (rfl | rfl | ⟨t, ht, hk⟩)
      · exact List.mem_cons_self ..
      · exact List.mem_cons_of_mem _ (ih.mpr (.inr (.inl rfl)))
      · rcases List.mem_cons.mp ht with rfl | ht
        · rcases hk with rfl | rfl
          · rw [h1]; exact List.mem_cons_self ..
          · exact List.mem_cons_of_mem _ (List.mem_cons_self ..)
        · exact List.mem_cons_of_mem _ (ih.mpr (.inr (.inr ⟨t, ht, hk⟩)))
theorem Tile.sorted : ∀ {T : List (Int × Int)} {a e : Int}, Tile a T e → (a :: T.map (·.2)).Pairwise (· < ·)
  | [], a, e, _ => List.pairwise_singleton _ _
  | s :: T, a, e, ⟨h1, h2, h3⟩ => by
    have ih := Tile.sorted h3
    refine List.pairwise_cons.mpr ⟨fun k hk => ?_, ih⟩
    rw [List.map_cons] at hk
    rcases List.mem_cons.mp hk with rfl | hk
    · omega
    · have := (List.pairwise_cons.mp ih).1 k hk
      omega
/-- the parts of tiles are the tiles -/
theorem Tile.parts {T U : List (Int × Int)} {w : Nat} (h : Tile 0 T (H2 w)) (hp : ∀ s, s ∈ U ↔ s ∈ T) : prsL (edgesOf w U) = T := by
  have e : edgesOf w U = 0 :: T.map (·.2) := by
    unfold edgesOf
    refine ssort_uniq h.sorted fun k => ?_
    rw [h.ends_mem, List.mem_append, mem_flat2]
    simp only [List.mem_cons, List.not_mem_nil, or_false, or_assoc, hp]
  rw [e, h.prs]
/-! ### the one leaf of all -/
theorem can_all {S : List (Int × Int)} {w : Nat} (h : ct S 0 (0 + H2 w) = H2 w) (hw : 1 ≤ w) : can S w 0 [] = [[42]] := by
  rw [can_full h]
  unfold leaf
  rw [if_neg (by omega)]
  rfl
theorem star_eq {ys : List Str} (h : ys.map tl = [[42]]) : ys = [("*" : Str)] := map_tl_inj (by rw [h, List.map_cons, tlStar]; rfl)
theorem Tile.all {T : List (Int × Int)} {w : Nat} (h : Tile 0 T (H2 w)) : G.ct T 0 (0 + H2 w) = H2 w := by
  rw [h.ct]
  have := H2_pos w
  omega
theorem prs_tile : ∀ {l : List Int} {a z : Int}, (a :: l).Pairwise (· < ·) → (a :: l).getLast? = some z → Tile a (prsL (a :: l)) z
  | [], a, z, _, hz => Option.some.inj hz
  | b :: l, a, z, hp, hz => by
    obtain ⟨h1, h2⟩ := List.pairwise_cons.mp hp
    refine ⟨rfl, h1 b (List.mem_cons_self ..), prs_tile h2 ?_⟩
    rw [List.getLast?_cons_cons] at hz
    exact hz
theorem parts_tile {w : Nat} {S : List (Int × Int)} (h : SpOk w S) : Tile 0 (prsL (edgesOf w S)) (H2 w) := by
  obtain ⟨l, e1, _, _, e4, _⟩ := edges_facts h
  have hs := ssort_sorted ([0, ((2 ^ w : Nat) : Int)] ++ flat2 S)
  change (edgesOf w S).Pairwise (· < ·) at hs
  rw [e1] at hs ⊢
  exact prs_tile hs e4
/-! ### an address in spans -/
theorem cn1_at (s : Int × Int) (n : Int) : cn1 s n (n + 1) = if ((decide (s.1 ≤ n)) && (decide (n < s.2))) = true then 1 else 0 := by
  unfold cn1
  by_cases h : s.1 ≤ n ∧ n < s.2
  · rw [decide_eq_true h.1, decide_eq_true h.2, if_pos (show (true && true) = true from rfl)]
    omega
  · rw [if_neg (by rw [Bool.and_eq_true, decide_eq_true_iff, decide_eq_true_iff]; exact h)]
    omega
end G
/-! Plain laws: how the signs of two patterns stand to one another. -/
namespace G
open PySem PySem.Spec PyProof.Rows L2 TL
theorem signs_cmp : ∀ (u v : List Nat), Bits u → Bits v → (∃ r, v = u ++ r) ∨ (∃ r, r ≠ [] ∧ u = v ++ r) ∨ Apart u v ∨ Apart v u
  | [], v, _, _ => .inl ⟨v, rfl⟩
  | a :: u, [], _, _ => .inr (.inl ⟨a :: u, by simp, rfl⟩)
  | a :: u, b :: v, hu, hv => by
    have ha := isB_iff.mp (hu a (List.mem_cons_self ..))
    have hb := isB_iff.mp (hv b (List.mem_cons_self ..))
    have diff : a ≠ b → (a = 48 ∧ b = 49) ∨ (b = 48 ∧ a = 49) := fun h => by omega
    by_cases h : a = b
    · subst h
      rcases signs_cmp u v (fun c hc => hu c (List.mem_cons_of_mem _ hc)) (fun c hc => hv c (List.mem_cons_of_mem _ hc)) with ⟨r, rfl⟩ | ⟨r, h1, rfl⟩ | ⟨c, p, q, rfl, rfl⟩ | ⟨c, p, q, rfl, rfl⟩
      · exact .inl ⟨r, rfl⟩
      · exact .inr (.inl ⟨r, h1, rfl⟩)
      · exact .inr (.inr (.inl ⟨a :: c, p, q, rfl, rfl⟩))
      · exact .inr (.inr (.inr ⟨a :: c, p, q, rfl, rfl⟩))
    · rcases diff h with ⟨rfl, rfl⟩ | ⟨rfl, rfl⟩
      · exact .inr (.inr (.inl ⟨[], u, v, rfl, rfl⟩))
      · exact .inr (.inr (.inr ⟨[], v, u, rfl, rfl⟩))
theorem spB_lt (w : Nat) (u : List Nat) : (spB w u).1 < (spB w u).2 := by
  unfold spB
  have := H2_pos (w - u.length)
  show beg u _ < beg u _ + H2 _
  omega
/-- what goes on from some signs lies within -/
theorem spB_nest {w : Nat} {u r : List Nat} (h : (u ++ r).length ≤ w) : (spB w u).1 ≤ (spB w (u ++ r)).1 ∧ (spB w (u ++ r)).2 ≤ (spB w u).2 := by
  rw [List.length_append] at h
  have hr := wr_lt r
  have e1 : beg (u ++ r) (w - (u ++ r).length) = ((wr u * 2 ^ (w - u.length) + wr r * 2 ^ (w - (u ++ r).length) : Nat) : Int) := by
    unfold beg
    rw [wr_app, List.length_append, Nat.add_mul, Nat.mul_assoc, ← Nat.pow_add, show r.length + (w - (u.length + r.length)) = w - u.length by omega]
  have e2 : 2 ^ r.length * 2 ^ (w - (u ++ r).length) = 2 ^ (w - u.length) := by
    rw [← Nat.pow_add, List.length_append, show r.length + (w - (u.length + r.length)) = w - u.length by omega]
  have e3 : (wr r + 1) * 2 ^ (w - (u ++ r).length) ≤ 2 ^ r.length * 2 ^ (w - (u ++ r).length) := Nat.mul_le_mul_right _ hr
  rw [e2, Nat.add_mul, Nat.one_mul] at e3
  unfold spB
  rw [e1]
  show ((wr u * 2 ^ (w - u.length) : Nat) : Int) ≤ _ ∧ _ + ((2 ^ (w - (u ++ r).length) : Nat) : Int) ≤ ((wr u * 2 ^ (w - u.length) : Nat) : Int) + ((2 ^ (w - u.length) : Nat) : Int)
  generalize 2 ^ (w - (u ++ r).length) = x at *
  generalize wr r * x = y at *
  generalize 2 ^ (w - u.length) = z at *
  generalize wr u * z = t at *
  omega
theorem spB_apart {w : Nat} {u v : List Nat} (h : Apart u v) (hu : u.length ≤ w) (hv : v.length ≤ w) : (spB w u).2 ≤ (spB w v).1 := by
  obtain ⟨c, p, q, rfl, rfl⟩ := h
  have e1 : c ++ 48 :: p = (c ++ [48]) ++ p := by simp
  have e2 : c ++ 49 :: q = (c ++ [49]) ++ q := by simp
  rw [e1] at hu ⊢
  rw [e2] at hv ⊢
  have h1 := (spB_nest (w := w) (u := c ++ [48]) (r := p) hu).2
  have h2 := (spB_nest (w := w) (u := c ++ [49]) (r := q) hv).1
  have hl : c.length + 1 ≤ w := by rw [List.length_append, List.length_append] at hu; have : [48].length = 1 := rfl; omega
  have k1 : (spB w (c ++ [48])).2 = (spB w (c ++ [49])).1 := by
    rw [spB_at (j := w - (c.length + 1)) (by rw [List.length_append]; show c.length + 1 + _ = _; omega), spB_at (j := w - (c.length + 1)) (by rw [List.length_append]; show c.length + 1 + _ = _; omega)]
    show beg (c ++ [48]) _ + H2 _ = beg (c ++ [49]) _
    rw [beg0, beg1]
  omega
/-- the second goes on from the first, or is greater at a sign -/
def Ord (u v : List Nat) : Prop := (∃ r, v = u ++ r) ∨ Apart u v
theorem lex_app {a b : Nat} (h : a < b) {x y : List Nat} : ∀ c : List Nat, c ++ a :: x < c ++ b :: y
  | [] => List.Lex.rel h
  | _ :: c => List.Lex.cons (lex_app h c)
theorem ord_of_le {w : Nat} {u v : List Nat} (hu : Bits u ∧ u.length ≤ w) (hv : Bits v ∧ v.length ≤ w) (hle : patL w u ≤ patL w v) : Ord u v := by
  rcases signs_cmp u v hu.1 hv.1 with ⟨r, rfl⟩ | ⟨r, h1, rfl⟩ | h | ⟨c, p, q, rfl, rfl⟩
  · exact .inl ⟨r, rfl⟩
  · exfalso
    cases r with
    | nil => exact h1 rfl
    | cons d r =>
      have hd := isB_iff.mp (hu.1 d (List.mem_append.mpr (.inr (List.mem_cons_self ..))))
      have hl := hu.2
      rw [List.length_append, List.length_cons] at hl
      refine List.not_le.mpr ?_ hle
      unfold patL
      rw [if_pos (show v.length < w by omega), List.append_assoc]
      exact lex_app (by omega) v
  · exact .inr h
  · exfalso
    refine List.not_le.mpr ?_ hle
    unfold patL
    rw [List.append_assoc, List.append_assoc]
    exact lex_app (by decide) c
theorem Ord.span {w : Nat} {u v : List Nat} (hu : u.length ≤ w) (hv : v.length ≤ w) (h : Ord u v) : ((spB w u).1 ≤ (spB w v).1 ∧ (spB w v).2 ≤ (spB w u).2) ∨ (spB w u).2 ≤ (spB w v).1 := by
  rcases h with ⟨r, rfl⟩ | h
  · exact .inl (spB_nest hv)
  · exact .inr (spB_apart h hu hv)
theorem any_span {w : Nat} {u v : List Nat} (hu : Bits u ∧ u.length ≤ w) (hv : Bits v ∧ v.length ≤ w) :
    ((spB w u).1 ≤ (spB w v).1 ∧ (spB w v).2 ≤ (spB w u).2) ∨ ((spB w v).1 ≤ (spB w u).1 ∧ (spB w u).2 ≤ (spB w v).2) ∨ (spB w u).2 ≤ (spB w v).1 ∨ (spB w v).2 ≤ (spB w u).1 := by
  rcases signs_cmp u v hu.1 hv.1 with ⟨r, rfl⟩ | ⟨r, _, rfl⟩ | h | h
  · exact .inl (spB_nest hv.2)
  · exact .inr (.inl (spB_nest hu.2))
  · exact .inr (.inr (.inl (spB_apart h hu.2 hv.2)))
  · exact .inr (.inr (.inr (spB_apart h hv.2 hu.2)))
/-! ### what a pattern's text is -/
def patB (cs : List Nat) (w : Int) : Bool :=
  let o : Bool := decide (cs.drop (cs.length - 1) = [42])
  let bits := cs.take (cs.length - (if o then 1 else 0))
  if bits.all isB then (if o then decide ((bits.length : Int) < w) else decide ((bits.length : Int) = w)) else false
theorem patB_pat {w : Nat} {u : List Nat} (hu : Bits u) (hl : u.length ≤ w) : patB (patL w u) (w : Int) = true := by
  have hall : u.all isB = true := List.all_eq_true.mpr hu
  unfold patL
  by_cases h : u.length < w
  · rw [if_pos h]
    have e1 : (u ++ [42]).drop ((u ++ [42]).length - 1) = [42] := by rw [List.length_append]; exact List.drop_left
    have e2 : (u ++ [42]).take ((u ++ [42]).length - 1) = u := by rw [List.length_append]; exact List.take_left
    have e3 : decide ((u ++ [42]).drop ((u ++ [42]).length - 1) = [42]) = true := decide_eq_true e1
    unfold patB
    simp only [e3, if_true, e2, hall]
    exact decide_eq_true (by omega)
  · rw [if_neg h, List.append_nil]
    have e1 : ¬ u.drop (u.length - 1) = [42] := fun z => hu.no42 (List.mem_of_mem_drop (show 42 ∈ u.drop (u.length - 1) by rw [z]; exact List.mem_singleton.mpr rfl))
    have e3 : decide (u.drop (u.length - 1) = [42]) = false := decide_eq_false e1
    have e2 : u.take (u.length - 0) = u := List.take_length
    unfold patB
    rw [e3]
    show (if (u.take (u.length - 0)).all isB = true then decide (((u.take (u.length - 0)).length : Int) = (w : Int)) else false) = true
    rw [e2, hall, if_pos rfl]
    exact decide_eq_true (by omega)
end G
/-! Plain laws: signs turned, signs put ahead and behind. -/
namespace G
open PySem PySem.Spec PyProof.Rows L2 TL
def flip (c : Nat) : Nat := 97 - c
def fl (u : List Nat) : List Nat := u.map flip
theorem fl_len (u : List Nat) : (fl u).length = u.length := List.length_map ..
theorem fl_bits {u : List Nat} (h : Bits u) : Bits (fl u) := fun c hc => by
  obtain ⟨d, hd, rfl⟩ := List.mem_map.mp hc
  have := isB_iff.mp (h d hd)
  exact isB_iff.mpr (by unfold flip; omega)
theorem fl_app (u v : List Nat) : fl (u ++ v) = fl u ++ fl v := List.map_append
theorem wr_fl : ∀ {u : List Nat}, Bits u → wr (fl u) + wr u + 1 = 2 ^ u.length
  | [], _ => rfl
  | c :: u, h => by
    have ih := wr_fl (u := u) fun d hd => h d (List.mem_cons_of_mem _ hd)
    have hc := isB_iff.mp (h c (List.mem_cons_self ..))
    show wr (flip c :: fl u) + _ + 1 = _
    rw [wr_cons, wr_cons, fl_len, List.length_cons, Nat.pow_succ]
    unfold flip
    rcases hc with rfl | rfl <;> simp <;> omega
/-- from the other end -/
def mir (W : Int) (s : Int × Int) : Int × Int := (W - s.2, W - s.1)
def shf (h : Int) (s : Int × Int) : Int × Int := (s.1 + h, s.2 + h)
def dbl (s : Int × Int) : Int × Int := (2 * s.1, 2 * s.2)
theorem spB_fl {w : Nat} {u : List Nat} (h : Bits u) (hl : u.length ≤ w) : spB w (fl u) = mir (H2 w) (spB w u) := by
  have e1 := wr_fl h
  have e2 : 2 ^ u.length * 2 ^ (w - u.length) = 2 ^ w := by rw [← Nat.pow_add]; congr 1; omega
  rw [← e1, Nat.add_mul, Nat.add_mul, Nat.one_mul] at e2
  unfold spB mir
  rw [fl_len]
  unfold beg H2
  generalize 2 ^ (w - u.length) = z at *
  generalize wr (fl u) * z = x at *
  generalize wr u * z = y at *
  refine Prod.ext ?_ ?_
  · show ((x : Nat) : Int) = ((2 ^ w : Nat) : Int) - (((y : Nat) : Int) + ((z : Nat) : Int))
    rw [← e2]; omega
  · show ((x : Nat) : Int) + ((z : Nat) : Int) = ((2 ^ w : Nat) : Int) - ((y : Nat) : Int)
    rw [← e2]; omega
theorem spB_0 {w : Nat} {u : List Nat} : spB (w + 1) (48 :: u) = spB w u := by
  unfold spB beg
  rw [wr_cons, if_neg (by decide), Nat.zero_mul, Nat.zero_add, List.length_cons, show w + 1 - (u.length + 1) = w - u.length by omega]
theorem spB_1 {w : Nat} {u : List Nat} (hl : u.length ≤ w) : spB (w + 1) (49 :: u) = shf (H2 w) (spB w u) := by
  have e2 : 2 ^ u.length * 2 ^ (w - u.length) = 2 ^ w := by rw [← Nat.pow_add]; congr 1; omega
  unfold spB beg shf H2
  rw [wr_cons, if_pos rfl, Nat.one_mul, List.length_cons, show w + 1 - (u.length + 1) = w - u.length by omega, Nat.add_mul, e2]
  refine Prod.ext ?_ ?_
  · show ((2 ^ w + wr u * 2 ^ (w - u.length) : Nat) : Int) = ((wr u * 2 ^ (w - u.length) : Nat) : Int) + ((2 ^ w : Nat) : Int)
    rw [Int.natCast_add]; omega
  · show ((2 ^ w + wr u * 2 ^ (w - u.length) : Nat) : Int) + ((2 ^ (w - u.length) : Nat) : Int) = ((wr u * 2 ^ (w - u.length) : Nat) : Int) + ((2 ^ (w - u.length) : Nat) : Int) + ((2 ^ w : Nat) : Int)
    rw [Int.natCast_add]; omega
theorem spB_dbl {w : Nat} {u : List Nat} (hl : u.length ≤ w) : spB (w + 1) u = dbl (spB w u) := by
  unfold spB beg dbl H2
  rw [show w + 1 - u.length = (w - u.length) + 1 by omega, Nat.pow_succ, ← Nat.mul_assoc]
  generalize wr u * 2 ^ (w - u.length) = x
  generalize 2 ^ (w - u.length) = z
  refine Prod.ext ?_ ?_
  · show ((x * 2 : Nat) : Int) = 2 * ((x : Nat) : Int)
    omega
  · show ((x * 2 : Nat) : Int) + ((z * 2 : Nat) : Int) = 2 * (((x : Nat) : Int) + ((z : Nat) : Int))
    omega
/-! ### ends -/
def EndOf (S : List (Int × Int)) (k : Int) : Prop := ∃ s ∈ S, k = s.1 ∨ k = s.2
theorem prs_snd : ∀ (l : List Int) (a : Int), (prsL (a :: l)).map (·.2) = l
  | [], _ => rfl
  | b :: l, a => by
    show b :: (prsL (b :: l)).map (·.2) = _
    rw [prs_snd l b]
theorem mem_edges {w : Nat} {S : List (Int × Int)} {k : Int} : k ∈ edgesOf w S ↔ k = 0 ∨ k = H2 w ∨ EndOf S k := by
  unfold edgesOf
  rw [ssort_mem, List.mem_append, mem_flat2]
  simp only [List.mem_cons, List.not_mem_nil, or_false, or_assoc]
  exact Iff.rfl
theorem parts_ends {w : Nat} {S : List (Int × Int)} (h : SpOk w S) (k : Int) : (k = 0 ∨ k = H2 w ∨ EndOf (prsL (edgesOf w S)) k) ↔ (k = 0 ∨ k = H2 w ∨ EndOf S k) := by
  have ht := parts_tile h
  obtain ⟨l, e1, _⟩ := edges_facts h
  have e2 := ht.ends_mem (k := k)
  refine Iff.trans ?_ mem_edges
  rw [e1] at e2 ⊢
  rw [prs_snd] at e2
  exact e2.symm
theorem parts_char {w : Nat} {T U : List (Int × Int)} (h : Tile 0 T (H2 w)) (hk : ∀ k, (k = 0 ∨ k = H2 w ∨ EndOf T k) ↔ (k = 0 ∨ k = H2 w ∨ EndOf U k)) : prsL (edgesOf w U) = T := by
  have e : edgesOf w U = 0 :: T.map (·.2) := by
    have hm : ∀ k, k ∈ 0 :: T.map (·.2) ↔ k ∈ edgesOf w U := fun k => by rw [h.ends_mem, mem_edges]; exact hk k
    unfold edgesOf at hm ⊢
    exact ssort_uniq h.sorted fun k => (hm k).trans ssort_mem
  rw [e, h.prs]
theorem Tile.mir : ∀ {T : List (Int × Int)} {a e W : Int}, Tile a T e → Tile (W - e) (T.map (G.mir W)).reverse (W - a)
  | [], a, e, W, h => by cases (show _ = _ from h); rfl
  | s :: T, a, e, W, ⟨h1, h2, h3⟩ => by
    rw [List.map_cons, List.reverse_cons]
    refine Tile.app (m := W - s.2) (Tile.mir h3) ⟨rfl, ?_, ?_⟩
    · show W - s.2 < W - s.1; omega
    · show W - s.1 = W - a; omega
theorem Tile.shf : ∀ {T : List (Int × Int)} {a e : Int} (h : Int), Tile a T e → Tile (a + h) (T.map (G.shf h)) (e + h)
  | [], a, e, h, k => by cases (show _ = _ from k); rfl
  | s :: T, a, e, h, ⟨h1, h2, h3⟩ => ⟨by show s.1 + h = a + h; omega, by show s.1 + h < s.2 + h; omega, Tile.shf h h3⟩
theorem Tile.dbl : ∀ {T : List (Int × Int)} {a e : Int}, Tile a T e → Tile (2 * a) (T.map G.dbl) (2 * e)
  | [], a, e, k => by cases (show _ = _ from k); rfl
  | s :: T, a, e, ⟨h1, h2, h3⟩ => ⟨by show 2 * s.1 = 2 * a; omega, by show 2 * s.1 < 2 * s.2; omega, Tile.dbl h3⟩
theorem Tile.last : ∀ {T : List (Int × Int)} {a e : Int}, Tile a T e → a < e → EndOf T e
  | [], a, e, h, hl => by cases (show _ = _ from h); omega
  | [s], a, e, ⟨h1, h2, h3⟩, _ => ⟨s, List.mem_cons_self .., .inr (show s.2 = e from h3).symm⟩
  | s :: t :: T, a, e, ⟨h1, h2, h3⟩, _ => by
    obtain ⟨r, hr, hk⟩ := Tile.last h3 (by have := h3.2.1; have := h3.1; have := h3.2.2.le; omega)
    exact ⟨r, List.mem_cons_of_mem _ hr, hk⟩
theorem end_mir {S : List (Int × Int)} {W k : Int} : EndOf (S.map (mir W)) k ↔ EndOf S (W - k) := by
  constructor
  · rintro ⟨t, ht, hk⟩
    obtain ⟨s, hs, rfl⟩ := List.mem_map.mp ht
    refine ⟨s, hs, ?_⟩
    have : k = W - s.2 ∨ k = W - s.1 := hk
    omega
  · rintro ⟨s, hs, hk⟩
    refine ⟨mir W s, List.mem_map.mpr ⟨s, hs, rfl⟩, ?_⟩
    show k = W - s.2 ∨ k = W - s.1
    omega
theorem end_rev {S : List (Int × Int)} {k : Int} : EndOf S.reverse k ↔ EndOf S k := by
  unfold EndOf
  simp only [List.mem_reverse]
theorem end_shf {S : List (Int × Int)} {h k : Int} : EndOf (S.map (shf h)) k ↔ EndOf S (k - h) := by
  constructor
  · rintro ⟨t, ht, hk⟩
    obtain ⟨s, hs, rfl⟩ := List.mem_map.mp ht
    refine ⟨s, hs, ?_⟩
    have : k = s.1 + h ∨ k = s.2 + h := hk
    omega
  · rintro ⟨s, hs, hk⟩
    refine ⟨shf h s, List.mem_map.mpr ⟨s, hs, rfl⟩, ?_⟩
    show k = s.1 + h ∨ k = s.2 + h
    omega
theorem end_app {S T : List (Int × Int)} {k : Int} : EndOf (S ++ T) k ↔ EndOf S k ∨ EndOf T k := by
  unfold EndOf
  constructor
  · rintro ⟨s, hs, hk⟩
    exact (List.mem_append.mp hs).elim (fun h => .inl ⟨s, h, hk⟩) fun h => .inr ⟨s, h, hk⟩
  · rintro (⟨s, hs, hk⟩ | ⟨s, hs, hk⟩)
    · exact ⟨s, List.mem_append.mpr (.inl hs), hk⟩
    · exact ⟨s, List.mem_append.mpr (.inr hs), hk⟩
theorem end_dbl {S : List (Int × Int)} {k : Int} : EndOf (S.map dbl) k ↔ ∃ j, k = 2 * j ∧ EndOf S j := by
  constructor
  · rintro ⟨t, ht, hk⟩
    obtain ⟨s, hs, rfl⟩ := List.mem_map.mp ht
    have : k = 2 * s.1 ∨ k = 2 * s.2 := hk
    rcases this with h | h
    · exact ⟨s.1, h, s, hs, .inl rfl⟩
    · exact ⟨s.2, h, s, hs, .inr rfl⟩
  · rintro ⟨j, rfl, s, hs, hk⟩
    refine ⟨dbl s, List.mem_map.mpr ⟨s, hs, rfl⟩, ?_⟩
    show 2 * j = 2 * s.1 ∨ 2 * j = 2 * s.2
    omega
theorem parts_mir {w : Nat} {S : List (Int × Int)} (h : SpOk w S) : prsL (edgesOf w (S.map (mir (H2 w)))) = ((prsL (edgesOf w S)).map (mir (H2 w))).reverse := by
  have ht := (parts_tile h).mir (W := H2 w)
  rw [Int.sub_self, Int.sub_zero] at ht
  refine parts_char ht fun k => ?_
  have := parts_ends h (H2 w - k)
  rw [end_rev, end_mir, end_mir]
  constructor
  · intro hk
    have := this.mp (by rcases hk with rfl | rfl | hk; exact .inr (.inl (by omega)); exact .inl (by omega); exact .inr (.inr hk))
    rcases this with h | h | h
    · exact .inr (.inl (by omega))
    · exact .inl (by omega)
    · exact .inr (.inr h)
  · intro hk
    have := this.mpr (by rcases hk with rfl | rfl | hk; exact .inr (.inl (by omega)); exact .inl (by omega); exact .inr (.inr hk))
    rcases this with h | h | h
    · exact .inr (.inl (by omega))
    · exact .inl (by omega)
    · exact .inr (.inr h)
theorem parts_ahead {w : Nat} {S : List (Int × Int)} (h : SpOk w S) : prsL (edgesOf (w + 1) (S ++ S.map (shf (H2 w)) ++ [(0, H2 w)])) = prsL (edgesOf w S) ++ (prsL (edgesOf w S)).map (shf (H2 w)) := by
  have hp := H2_pos w
  have h2 := H2_succ w
  have t := parts_tile h
  have ht := t.shf (H2 w)
  rw [Int.zero_add] at ht
  have hl := t.last hp
  refine parts_char (by rw [show H2 (w + 1) = H2 w + H2 w by omega]; exact t.app ht) fun k => ?_
  have a1 := parts_ends h k
  have a2 := parts_ends h (k - H2 w)
  rw [end_app, end_shf, end_app, end_app, end_shf]
  have hone : EndOf [((0 : Int), H2 w)] k ↔ k = 0 ∨ k = H2 w := by
    unfold EndOf
    simp
  rw [hone]
  constructor
  · rintro (hk | hk | hk | hk)
    · exact .inl hk
    · exact .inr (.inl hk)
    · rcases a1.mp (.inr (.inr hk)) with e | e | e
      · exact .inl e
      · exact .inr (.inr (.inr (.inr e)))
      · exact .inr (.inr (.inl (.inl e)))
    · rcases a2.mp (.inr (.inr hk)) with e | e | e
      · exact .inr (.inr (.inr (.inr (by omega))))
      · exact .inr (.inl (by omega))
      · exact .inr (.inr (.inl (.inr e)))
  · rintro (hk | hk | (hk | hk) | hk | hk)
    · exact .inl hk
    · exact .inr (.inl hk)
    · rcases a1.mpr (.inr (.inr hk)) with e | e | e
      · exact .inl e
      · exact .inr (.inr (.inl (e ▸ hl)))
      · exact .inr (.inr (.inl e))
    · rcases a2.mpr (.inr (.inr hk)) with e | e | e
      · exact .inr (.inr (.inl (by rw [show k = H2 w by omega]; exact hl)))
      · exact .inr (.inl (by omega))
      · exact .inr (.inr (.inr e))
    · exact .inl hk
    · exact .inr (.inr (.inl (hk ▸ hl)))
theorem parts_dbl {w : Nat} {S : List (Int × Int)} (h : SpOk w S) : prsL (edgesOf (w + 1) (S.map dbl)) = (prsL (edgesOf w S)).map dbl := by
  have h2 := H2_succ w
  have ht := (parts_tile h).dbl
  refine parts_char (by rw [h2]; exact ht) fun k => ?_
  rw [end_dbl, end_dbl]
  constructor
  · rintro (hk | hk | ⟨j, rfl, hk⟩)
    · exact .inl hk
    · exact .inr (.inl hk)
    · rcases (parts_ends h j).mp (.inr (.inr hk)) with e | e | e
      · exact .inl (by omega)
      · exact .inr (.inl (by omega))
      · exact .inr (.inr ⟨j, rfl, e⟩)
  · rintro (hk | hk | ⟨j, rfl, hk⟩)
    · exact .inl hk
    · exact .inr (.inl hk)
    · rcases (parts_ends h j).mpr (.inr (.inr hk)) with e | e | e
      · exact .inl (by omega)
      · exact .inr (.inl (by omega))
      · exact .inr (.inr ⟨j, rfl, e⟩)
/-! ### leaves -/
theorem ct_map {S : List (Int × Int)} {f : Int × Int → Int × Int} {x y x' y' c : Int} (h : ∀ s ∈ S, cn1 (f s) x y = c * cn1 s x' y') : ct (S.map f) x y = c * ct S x' y' := by
  induction S with
  | nil => rw [List.map_nil, ct_nil, ct_nil, Int.mul_zero]
  | cons s S ih => rw [List.map_cons, ct_cons, ct_cons, ih fun t ht => h t (List.mem_cons_of_mem _ ht), h s (List.mem_cons_self ..), Int.mul_add]
theorem ct_rever (S : List (Int × Int)) (x y : Int) : ct S.reverse x y = ct S x y := by
  induction S with
  | nil => rfl
  | cons s S ih => rw [List.reverse_cons, ct_app, ct_one, ct_cons, ih]; omega
theorem ct_mir (S : List (Int × Int)) (W x y : Int) : ct ((S.map (mir W)).reverse) x y = ct S (W - y) (W - x) := by
  rw [ct_rever, ct_map (c := 1) (x' := W - y) (y' := W - x) fun s _ => by unfold cn1 mir; show max 0 (min y (W - s.1) - max x (W - s.2)) = _; omega]
  omega
theorem ct_shf (S : List (Int × Int)) (h x y : Int) : ct (S.map (shf h)) x y = ct S (x - h) (y - h) := by
  rw [ct_map (c := 1) (x' := x - h) (y' := y - h) fun s _ => by unfold cn1 shf; show max 0 (min y (s.2 + h) - max x (s.1 + h)) = _; omega]
  omega
theorem ct_dbl (S : List (Int × Int)) (x y : Int) : ct (S.map dbl) (2 * x) (2 * y) = 2 * ct S x y :=
  ct_map (c := 2) fun s _ => by unfold cn1 dbl; show max 0 (min (2 * y) (2 * s.2) - max (2 * x) (2 * s.1)) = _; omega
theorem canB_mir {S : List (Int × Int)} (h : Rise S) (W : Int) (j : Nat) (a : Int) (bs : List Nat) : canB ((S.map (mir W)).reverse) j (W - (a + H2 j)) (fl bs) = ((canB S j a bs).map fl).reverse :=
  can_cases h (P := fun j a bs => canB ((S.map (mir W)).reverse) j (W - (a + H2 j)) (fl bs) = ((canB S j a bs).map fl).reverse) j a bs
    (fun j a bs e => by rw [canB_none e, canB_none (by rw [ct_mir, ← e]; congr 1 <;> omega)]; rfl)
    (fun j a bs e => by
      rw [canB_full e, canB_full (by rw [ct_mir]; rw [show W - (W - (a + H2 j) + H2 j) = a by omega, show W - (W - (a + H2 j)) = a + H2 j by omega]; exact e)]
      rfl)
    (fun j a bs e1 e2 i1 i2 => by
      have h2 := H2_succ j
      have e : ct ((S.map (mir W)).reverse) (W - (a + H2 (j + 1))) (W - (a + H2 (j + 1)) + H2 (j + 1)) = ct S a (a + H2 (j + 1)) := by
        rw [ct_mir, show W - (W - (a + H2 (j + 1)) + H2 (j + 1)) = a by omega, show W - (W - (a + H2 (j + 1))) = a + H2 (j + 1) by omega]
      rw [canB_part e1 e2, canB_part (by rw [e]; exact e1) (by rw [e]; exact e2), List.map_append, List.reverse_append, ← i1, ← i2, fl_app, fl_app,
        show W - (a + H2 (j + 1)) + H2 j = W - (a + H2 j) by omega, show a + H2 j + H2 j = a + H2 (j + 1) by omega]
      rfl)
theorem canB_shf {S : List (Int × Int)} (h : Rise S) (d : Int) (p : List Nat) (j : Nat) (a : Int) (bs : List Nat) : canB (S.map (shf d)) j (a + d) (p ++ bs) = (canB S j a bs).map (p ++ ·) :=
  can_cases h (P := fun j a bs => canB (S.map (shf d)) j (a + d) (p ++ bs) = (canB S j a bs).map (p ++ ·)) j a bs
    (fun j a bs e => by rw [canB_none e, canB_none (by rw [ct_shf, ← e]; congr 1 <;> omega)]; rfl)
    (fun j a bs e => by
      rw [canB_full e, canB_full (by rw [ct_shf, show a + d - d = a by omega, show a + d + H2 j - d = a + H2 j by omega]; exact e)]
      rfl)
    (fun j a bs e1 e2 i1 i2 => by
      have e : ct (S.map (shf d)) (a + d) (a + d + H2 (j + 1)) = ct S a (a + H2 (j + 1)) := by
        rw [ct_shf, show a + d - d = a by omega, show a + d + H2 (j + 1) - d = a + H2 (j + 1) by omega]
      rw [canB_part e1 e2, canB_part (by rw [e]; exact e1) (by rw [e]; exact e2), List.map_append, ← i1, ← i2, List.append_assoc, List.append_assoc, show a + d + H2 j = a + H2 j + d by omega])
theorem canB_dbl {S : List (Int × Int)} (h : Rise S) (j : Nat) (a : Int) (bs : List Nat) : canB (S.map dbl) (j + 1) (2 * a) bs = canB S j a bs :=
  can_cases h (P := fun j a bs => canB (S.map dbl) (j + 1) (2 * a) bs = canB S j a bs) j a bs
    (fun j a bs e => by
      have h2 := H2_succ j
      rw [canB_none e, canB_none (by rw [show 2 * a + H2 (j + 1) = 2 * (a + H2 j) by omega, ct_dbl, e]; rfl)])
    (fun j a bs e => by
      have h2 := H2_succ j
      rw [canB_full e, canB_full (by rw [show 2 * a + H2 (j + 1) = 2 * (a + H2 j) by omega, ct_dbl, e]; omega)])
    (fun j a bs e1 e2 i1 i2 => by
      have h2 := H2_succ j
      have h3 := H2_succ (j + 1)
      have e : ct (S.map dbl) (2 * a) (2 * a + H2 (j + 1 + 1)) = 2 * ct S a (a + H2 (j + 1)) := by rw [show 2 * a + H2 (j + 1 + 1) = 2 * (a + H2 (j + 1)) by omega, ct_dbl]
      rw [canB_part e1 e2, canB_part (by rw [e]; omega) (by rw [e]; omega), i1, show 2 * a + H2 (j + 1) = 2 * (a + H2 j) by omega, i2])
theorem canB_ahead {S : List (Int × Int)} (h : Rise S) {w : Nat} (hb : ∀ s ∈ S, 0 ≤ s.1 ∧ s.2 ≤ H2 w) : canB (S.map (shf (H2 w))) (w + 1) 0 [] = (canB S w 0 []).map ([49] ++ ·) := by
  have hp := H2_pos w
  have h2 := H2_succ w
  have neg : ∀ y, y ≤ H2 w → ct S (0 - H2 w) y = ct S 0 y := fun y _ => by
    have := ct_map (S := S) (f := id) (c := 1) (x := 0 - H2 w) (y := y) (x' := 0) (y' := y) fun s hs => by
      have := hb s hs
      unfold cn1
      show max 0 (min y s.2 - max (0 - H2 w) s.1) = _
      omega
    rw [List.map_id] at this
    omega
  have e0 : ct (S.map (shf (H2 w))) 0 (0 + H2 (w + 1)) = ct S 0 (0 + H2 w) := by rw [ct_shf, show 0 + H2 (w + 1) - H2 w = 0 + H2 w by omega, neg _ (by omega)]
  by_cases hz : ct S 0 (0 + H2 w) = 0
  · rw [canB_none hz, canB_none (by rw [e0]; exact hz)]
    rfl
  · have hl := ct_le h (a := 0) (e := 0 + H2 w) (by omega)
    have k1 : ct (S.map (shf (H2 w))) 0 (0 + H2 w) = 0 := by
      rw [ct_shf, show 0 + H2 w - H2 w = 0 by omega, neg 0 (by omega)]
      exact ct_rev (Int.le_refl _)
    rw [canB_part (by rw [e0]; exact hz) (by rw [e0]; omega), canB_none k1]
    have := canB_shf h (H2 w) [49] w 0 []
    rw [List.append_nil] at this
    exact this
theorem Pats.of {w : Nat} : ∀ {ps : List Str}, (∀ p ∈ ps, IsPat w p) → Pats w (ps.map bsOf) ps
  | [], _ => ⟨rfl, fun _ h => nomatch h⟩
  | p :: ps, h => by
    obtain ⟨u, pu⟩ := h p (List.mem_cons_self ..)
    have ih := Pats.of (ps := ps) fun q hq => h q (List.mem_cons_of_mem _ hq)
    rw [List.map_cons, bsOf_pat pu]
    refine ⟨by rw [List.map_cons, List.map_cons, pu.eq, ih.eq], fun v hv => ?_⟩
    rcases List.mem_cons.mp hv with rfl | hv
    · exact ⟨pu.bits, pu.le⟩
    · exact ih.ok v hv
theorem Pats.cons {w : Nat} {u : List Nat} {us : List (List Nat)} {y : Str} {ys : List Str} (p : Pat w u y) (h : Pats w us ys) : Pats w (u :: us) (y :: ys) :=
  ⟨by rw [List.map_cons, List.map_cons, p.eq, h.eq], fun v hv => by
    rcases List.mem_cons.mp hv with rfl | hv
    · exact ⟨p.bits, p.le⟩
    · exact h.ok v hv⟩
theorem Pats.nil {w : Nat} : Pats w [] [] := ⟨rfl, fun _ h => nomatch h⟩
theorem Pats.rev {w : Nat} {us : List (List Nat)} {ys : List Str} (h : Pats w us ys) : Pats w us.reverse ys.reverse :=
  ⟨by rw [List.map_reverse, List.map_reverse, h.eq], fun u hu => h.ok u (List.mem_reverse.mp hu)⟩
theorem Pats.uniq {w : Nat} {us : List (List Nat)} {ys zs : List Str} (h : Pats w us ys) (k : Pats w us zs) : ys = zs := G.map_tl_inj (by rw [h.eq, k.eq])
end G
/-! Plain laws: things of either type, membership, the bag of five. -/
namespace G
open PySem PySem.Spec PyProof.Rows L2 TL
instance {α : Type} [Enc α] [EqvD α] : EqvD (T1 α) := ⟨fun x y => by
  obtain ⟨a⟩ := x
  obtain ⟨c⟩ := y
  show (PyData.eqv (Enc.d a) (Enc.d c) && true) = true ↔ _
  rw [Bool.and_true, EqvD.iff, T1.mk.injEq]⟩
instance {α β γ δ ε : Type} [Enc α] [Enc β] [Enc γ] [Enc δ] [Enc ε] [EqvD α] [EqvD β] [EqvD γ] [EqvD δ] [EqvD ε] : EqvD (T5 α β γ δ ε) := ⟨fun x y => by
  obtain ⟨a, b, e, g, i⟩ := x
  obtain ⟨c, d, f, h, j⟩ := y
  show (PyData.eqv (Enc.d a) (Enc.d c) && (PyData.eqv (Enc.d b) (Enc.d d) && (PyData.eqv (Enc.d e) (Enc.d f) && (PyData.eqv (Enc.d g) (Enc.d h) && (PyData.eqv (Enc.d i) (Enc.d j) && true))))) = true ↔ _
  rw [Bool.and_true, Bool.and_eq_true, Bool.and_eq_true, Bool.and_eq_true, Bool.and_eq_true, EqvD.iff, EqvD.iff, EqvD.iff, EqvD.iff, EqvD.iff, T5.mk.injEq]⟩
theorem inD_dec {α : Type} [Enc α] [EqvD α] [DecidableEq α] {x : α} {xs : List α} : inD x xs = decide (x ∈ xs) := by
  rw [Bool.eq_iff_iff, decide_eq_true_iff]
  unfold inD
  rw [List.any_map, List.any_eq_true]
  constructor
  · rintro ⟨y, hy, e⟩
    have e' : PyData.eqv (Enc.d y) (Enc.d x) = true := e
    rw [← (EqvD.iff y x).mp e']
    exact hy
  · intro h
    exact ⟨x, h, (EqvD.iff x x).mpr rfl⟩
theorem inD_true {α : Type} [Enc α] [EqvD α] {x : α} {xs : List α} (h : x ∈ xs) : inD x xs = true := by
  unfold inD
  rw [List.any_map, List.any_eq_true]
  exact ⟨x, h, (EqvD.iff x x).mpr rfl⟩
theorem inD_false {α : Type} [Enc α] [EqvD α] {x : α} {xs : List α} (h : x ∉ xs) : inD x xs = false := by
  unfold inD
  rw [List.any_map, List.any_eq_false]
  intro y hy e
  have e' : PyData.eqv (Enc.d y) (Enc.d x) = true := e
  rw [← (EqvD.iff y x).mp e'] at h
  exact h hy
theorem rangeL_cons (lo : Int) (n : Nat) : rangeL lo (n + 1) = lo :: rangeL (lo + 1) n := rangeL_succ lo n
theorem bind3_some {α β γ δ : Type} {a : α} {b : β} {c : γ} {f : α → β → γ → Option δ} : bind3 (some (a, b, c)) f = f a b c := rfl
theorem bind4_some {α β γ δ ε : Type} {a : α} {b : β} {c : γ} {d : δ} {f : α → β → γ → δ → Option ε} : bind4 (some (a, b, c, d)) f = f a b c d := rfl
theorem erase_perm {α : Type} : ∀ {l : List α} {j : Nat} (h : j < l.length), (l[j] :: l.eraseIdx j).Perm l
  | x :: l, 0, _ => List.Perm.refl _
  | x :: l, j + 1, h => by
    have hj : j < l.length := by rw [List.length_cons] at h; omega
    have ih := erase_perm (l := l) (j := j) hj
    show (l[j] :: x :: l.eraseIdx j).Perm (x :: l)
    exact (List.Perm.swap _ _ _).trans (ih.cons x)
theorem popI_O {α : Type} {xs : List α} {i : Int} {P : α × List α → Prop} (h0 : 0 ≤ i) (h1 : i < xs.length) (h : ∀ j : Nat, ∀ hj : j < xs.length, i = (j : Nat) → P (xs[j], xs.eraseIdx j)) : O1 (popI xs i) P := by
  obtain ⟨n, rfl⟩ := Int.eq_ofNat_of_zero_le h0
  have hn : n < xs.length := by omega
  refine ⟨_, ?_, h n hn rfl⟩
  unfold popI ixN
  rw [if_pos (by omega), if_pos (by omega)]
  show Option.bind (some (Int.toNat (n : Int))) _ = _
  rw [Option.bind_some, Int.toNat_natCast, List.getElem?_eq_getElem hn]
  rfl
theorem mem_erase_idx {α : Type} {xs : List α} {j : Nat} {x : α} (h : x ∈ xs.eraseIdx j) : x ∈ xs := List.eraseIdx_subset h
theorem mem_cutL {α : Type} {xs : List α} {lo hi : Option Int} {x : α} (h : x ∈ cutL xs lo hi) : x ∈ xs := List.mem_of_mem_drop (List.mem_of_mem_take h)
theorem cutL_len {α : Type} (xs : List α) (lo hi : Option Int) : (cutL xs lo hi).length ≤ xs.length := by
  unfold cutL
  rw [List.length_take, List.length_drop]
  omega
theorem cutL_to {α : Type} (xs : List α) (n : Nat) : cutL xs none (some (n : Int)) = xs.take n := by
  unfold cutL
  rw [sIx_n, HT.sIx_nat, List.drop_zero, Nat.sub_zero]
  by_cases h : n ≤ xs.length
  · rw [Nat.min_eq_left h]
  · rw [Nat.min_eq_right (by omega), List.take_length, List.take_of_length_le (by omega)]
theorem cutL_from {α : Type} (xs : List α) (n : Nat) : cutL xs (some (n : Int)) none = xs.drop n := by
  unfold cutL
  rw [sIx_n, HT.sIx_nat]
  by_cases h : n ≤ xs.length
  · rw [Nat.min_eq_left h, List.take_of_length_le (by rw [List.length_drop]; omega)]
  · rw [Nat.min_eq_right (by omega), List.drop_length, List.take_nil, List.drop_of_length_le (by omega)]
theorem cutL_at {α : Type} (xs : List α) (n m : Nat) : cutL xs (some (n : Int)) (some (m : Int)) = (xs.drop n).take (m - n) := by
  unfold cutL
  rw [HT.sIx_nat, HT.sIx_nat]
  by_cases h : n ≤ xs.length
  · rw [Nat.min_eq_left h]
    by_cases h2 : m ≤ xs.length
    · rw [Nat.min_eq_left h2]
    · rw [Nat.min_eq_right (by omega), List.take_of_length_le (by rw [List.length_drop]; omega), List.take_of_length_le (by rw [List.length_drop]; omega)]
  · rw [show min n xs.length = xs.length from Nat.min_eq_right (by omega), List.drop_length, List.take_nil, List.drop_of_length_le (by omega), List.take_nil]
theorem undup_le {α : Type} [DecidableEq α] : ∀ l : List α, (undup l).length ≤ l.length
  | [] => Nat.le_refl _
  | x :: l => by
    have := undup_le l
    unfold undup
    split
    · rw [List.length_cons]; omega
    · rw [List.length_cons, List.length_cons]; omega
theorem undup_lt {α : Type} [DecidableEq α] : ∀ {l : List α}, (undup l).length < l.length ↔ ¬ l.Nodup
  | [] => by simp [undup]
  | x :: l => by
    have h1 := undup_le l
    have h2 := undup_lt (l := l)
    unfold undup
    rw [List.nodup_cons]
    by_cases h : x ∈ l
    · rw [if_pos h, List.length_cons]
      exact ⟨fun _ z => z.1 h, fun _ => by omega⟩
    · rw [if_neg h, List.length_cons, List.length_cons, Nat.add_lt_add_iff_right, h2]
      exact ⟨fun z w => z w.2, fun z w => z ⟨h, w⟩⟩
end G
/-! Plain: lists by length and then by signs; going through a net from near to far. -/
namespace G
/-- as long, and first by signs -/
def lx : List Int → List Int → Prop
  | x :: xs, y :: ys => x < y ∨ (x = y ∧ lx xs ys)
  | _, _ => False
def Lt2 (a b : List Int) : Prop := a.length < b.length ∨ (a.length = b.length ∧ lx a b)
def Le2 (a b : List Int) : Prop := a = b ∨ Lt2 a b
theorem lx_irrefl : ∀ a : List Int, ¬ lx a a
  | [], h => h
  | x :: a, h => by
    rcases h with h | ⟨_, h⟩
    · omega
    · exact lx_irrefl a h
theorem lx_trans : ∀ {a b c : List Int}, lx a b → lx b c → lx a c
  | [], _, _, h, _ => h.elim
  | _ :: _, [], _, h, _ => h.elim
  | _ :: _, _ :: _, [], _, h => h.elim
  | x :: a, y :: b, z :: c, h1, h2 => by
    rcases h1 with h1 | ⟨e1, h1⟩ <;> rcases h2 with h2 | ⟨e2, h2⟩
    · exact .inl (by omega)
    · exact .inl (by omega)
    · exact .inl (by omega)
    · exact .inr ⟨e1.trans e2, lx_trans h1 h2⟩
theorem lx_tri : ∀ {a b : List Int}, a.length = b.length → a = b ∨ lx a b ∨ lx b a
  | [], [], _ => .inl rfl
  | [], _ :: _, h => by cases h
  | _ :: _, [], h => by cases h
  | x :: a, y :: b, h => by
    have h' : a.length = b.length := by simpa using h
    rcases Int.lt_trichotomy x y with c | c | c
    · exact .inr (.inl (.inl c))
    · rcases lx_tri h' with e | e | e
      · exact .inl (by rw [c, e])
      · exact .inr (.inl (.inr ⟨c, e⟩))
      · exact .inr (.inr (.inr ⟨c.symm, e⟩))
    · exact .inr (.inr (.inl c))
theorem lx_app : ∀ {a b : List Int} (c d : List Int), a.length = b.length → lx a b → lx (a ++ c) (b ++ d)
  | [], _, _, _, _, h => h.elim
  | _ :: _, [], _, _, _, h => h.elim
  | x :: a, y :: b, c, d, hl, h => by
    rcases h with h | ⟨e, h⟩
    · exact .inl h
    · exact .inr ⟨e, lx_app c d (by simpa using hl) h⟩
theorem lx_same : ∀ (a : List Int) {c d : List Int}, lx c d → lx (a ++ c) (a ++ d)
  | [], _, _, h => h
  | _ :: a, _, _, h => .inr ⟨rfl, lx_same a h⟩
theorem Lt2.irrefl (a : List Int) : ¬ Lt2 a a := fun h => h.elim (Nat.lt_irrefl _) (fun h => lx_irrefl a h.2)
theorem Lt2.trans {a b c : List Int} (h1 : Lt2 a b) (h2 : Lt2 b c) : Lt2 a c := by
  rcases h1 with h1 | ⟨e1, h1⟩ <;> rcases h2 with h2 | ⟨e2, h2⟩
  · exact .inl (by omega)
  · exact .inl (by omega)
  · exact .inl (by omega)
  · exact .inr ⟨e1.trans e2, lx_trans h1 h2⟩
theorem Lt2.tri (a b : List Int) : a = b ∨ Lt2 a b ∨ Lt2 b a := by
  rcases Nat.lt_trichotomy a.length b.length with c | c | c
  · exact .inr (.inl (.inl c))
  · rcases lx_tri c with e | e | e
    · exact .inl e
    · exact .inr (.inl (.inr ⟨c, e⟩))
    · exact .inr (.inr (.inr ⟨c.symm, e⟩))
  · exact .inr (.inr (.inl c))
theorem Le2.refl (a : List Int) : Le2 a a := .inl rfl
theorem Le2.trans {a b c : List Int} (h1 : Le2 a b) (h2 : Le2 b c) : Le2 a c := by
  rcases h1 with rfl | h1
  · exact h2
  · rcases h2 with rfl | h2
    · exact .inr h1
    · exact .inr (h1.trans h2)
theorem Le2.anti {a b : List Int} (h1 : Le2 a b) (h2 : Le2 b a) : a = b := by
  rcases h1 with e | h1
  · exact e
  · rcases h2 with e | h2
    · exact e.symm
    · exact absurd (h1.trans h2) (Lt2.irrefl a)
theorem Le2.len {a b : List Int} (h : Le2 a b) : a.length ≤ b.length := by
  rcases h with rfl | h | h
  · exact Nat.le_refl _
  · exact Nat.le_of_lt h
  · exact Nat.le_of_eq h.1
theorem Lt2.snoc {a b : List Int} (x y : Int) (h : Lt2 a b) : Lt2 (a ++ [x]) (b ++ [y]) := by
  rcases h with h | ⟨e, h⟩
  · exact .inl (by simp; exact h)
  · exact .inr ⟨by simp; exact e, lx_app _ _ e h⟩
theorem Lt2.last (a : List Int) {x y : Int} (h : x < y) : Lt2 (a ++ [x]) (a ++ [y]) := .inr ⟨by simp, lx_same a (.inl h)⟩
theorem Le2.snoc {a b : List Int} (x : Int) (h : Le2 a b) : Le2 (a ++ [x]) (b ++ [x]) := by
  rcases h with rfl | h
  · exact .inl rfl
  · exact .inr (h.snoc x x)
/-- put together -/
theorem Le2.app {a b c d : List Int} (h1 : Le2 a b) (h2 : Le2 c d) : Le2 (a ++ c) (b ++ d) := by
  rcases h1 with rfl | h1
  · rcases h2 with rfl | h2
    · exact .inl rfl
    · refine .inr ?_
      rcases h2 with h2 | ⟨e, h2⟩
      · exact .inl (by simp; exact h2)
      · exact .inr ⟨by simp; exact e, lx_same a h2⟩
  · refine .inr ?_
    have l2 := h2.len
    rcases h1 with h1 | ⟨e, h1⟩
    · exact .inl (by simp; omega)
    · by_cases hl : c.length = d.length
      · exact .inr ⟨by simp; omega, lx_app _ _ e h1⟩
      · exact .inl (by simp; omega)

/-! ### from near to far -/
section
variable {S : Type} [DecidableEq S] (hs : S → Int) (out : S → List S) (ex : List Int → Prop) (b : S)
/-- a walk from b, by its signs -/
inductive Wk : S → List Int → Prop
  | one : Wk b [hs b]
  | step {u : S} {l : List Int} {o : S} : Wk u l → o ∈ out u → Wk o (l ++ [hs o])
structure BI (D P : List (S × List Int)) : Prop where
  nd : ((D ++ P).map (·.1)).Nodup
  srt : ((D ++ P).map (·.2)).Pairwise Lt2
  par : ∀ e ∈ D ++ P, e = (b, [hs b]) ∨ ∃ u ∈ D, ex u.2 ∧ e.1 ∈ out u.1 ∧ e.2 = u.2 ++ [hs e.1]
  cl : ∀ u ∈ D, ex u.2 → ∀ o ∈ out u.1, ∃ l, (o, l) ∈ D ++ P ∧ Le2 l (u.2 ++ [hs o])
  bg : (b, [hs b]) ∈ D ++ P
structure BJ (D : List (S × List Int)) (u : S × List Int) (P : List (S × List Int)) (dn os : List S) : Prop where
  sp : out u.1 = dn ++ os
  up : (out u.1).Pairwise fun x y => hs x < hs y
  eu : ex u.2
  nd : ((D ++ u :: P).map (·.1)).Nodup
  srt : ((D ++ u :: P).map (·.2)).Pairwise Lt2
  par : ∀ e ∈ D ++ u :: P, e = (b, [hs b]) ∨ (∃ v ∈ D, ex v.2 ∧ e.1 ∈ out v.1 ∧ e.2 = v.2 ++ [hs e.1]) ∨ (e.1 ∈ dn ∧ e.2 = u.2 ++ [hs e.1])
  cl : ∀ v ∈ D, ex v.2 → ∀ o ∈ out v.1, ∃ l, (o, l) ∈ D ++ u :: P ∧ Le2 l (v.2 ++ [hs o])
  cu : ∀ o ∈ dn, ∃ l, (o, l) ∈ D ++ u :: P ∧ Le2 l (u.2 ++ [hs o])
  bg : (b, [hs b]) ∈ D ++ u :: P
variable {hs out ex b}
theorem BI.start : BI hs out ex b [] [(b, [hs b])] :=
  ⟨by simp, by simp, fun e he => .inl (by simpa using he), (fun _ h => nomatch h), by simp⟩
theorem BI.open_ {D P : List (S × List Int)} {u : S × List Int} (h : BI hs out ex b D (u :: P)) (hu : ex u.2) (up : (out u.1).Pairwise fun x y => hs x < hs y) : BJ hs out ex b D u P [] (out u.1) :=
  ⟨rfl, up, hu, h.nd, h.srt, fun e he => (h.par e he).imp id .inl, h.cl, (fun _ h => nomatch h), h.bg⟩
theorem BI.pass {D P : List (S × List Int)} {u : S × List Int} (h : BI hs out ex b D (u :: P)) (hu : ¬ ex u.2) : BI hs out ex b (D ++ [u]) P := by
  have e : D ++ [u] ++ P = D ++ u :: P := by simp
  refine ⟨by rw [e]; exact h.nd, by rw [e]; exact h.srt, fun x hx => ?_, fun v hv hx o ho => ?_, by rw [e]; exact h.bg⟩
  · rcases h.par x (e ▸ hx) with z | ⟨v, hv, r⟩
    · exact .inl z
    · exact .inr ⟨v, List.mem_append_left _ hv, r⟩
  · rw [e]
    rcases List.mem_append.mp hv with hv | hv
    · exact h.cl v hv hx o ho
    · rw [List.mem_singleton.mp hv] at hx
      exact absurd hx hu
theorem BJ.done {D P : List (S × List Int)} {u : S × List Int} {dn : List S} (h : BJ hs out ex b D u P dn []) : BI hs out ex b (D ++ [u]) P := by
  have e : D ++ [u] ++ P = D ++ u :: P := by simp
  have sp : out u.1 = dn := by rw [h.sp, List.append_nil]
  refine ⟨by rw [e]; exact h.nd, by rw [e]; exact h.srt, fun x hx => ?_, fun v hv hx o ho => ?_, by rw [e]; exact h.bg⟩
  · rcases h.par x (e ▸ hx) with z | ⟨v, hv, r⟩ | ⟨h1, h2⟩
    · exact .inl z
    · exact .inr ⟨v, List.mem_append_left _ hv, r⟩
    · exact .inr ⟨u, by simp, h.eu, by rw [sp]; exact h1, h2⟩
  · rw [e]
    rcases List.mem_append.mp hv with hv | hv
    · exact h.cl v hv hx o ho
    · rw [List.mem_singleton.mp hv] at hx ho ⊢
      exact h.cu o (sp ▸ ho)
theorem BJ.ne {D P : List (S × List Int)} {u : S × List Int} {dn os : List S} (h : BJ hs out ex b D u P dn os) {e : S × List Int} (he : e ∈ D ++ u :: P) : 0 < e.2.length := by
  rcases h.par e he with z | ⟨v, _, _, _, z⟩ | ⟨_, z⟩
  · rw [z]; exact Nat.succ_pos _
  · rw [z, List.length_append]; exact Nat.succ_pos _
  · rw [z, List.length_append]; exact Nat.succ_pos _
/-- all that is there is ahead of what comes next -/
theorem BJ.less {D P : List (S × List Int)} {u : S × List Int} {dn os : List S} {o : S} (h : BJ hs out ex b D u P dn (o :: os)) {e : S × List Int} (he : e ∈ D ++ u :: P) : Lt2 e.2 (u.2 ++ [hs o]) := by
  have hu := h.ne (e := u) (by simp)
  rcases h.par e he with z | ⟨v, hv, _, _, z⟩ | ⟨h1, z⟩
  · rw [z]
    exact .inl (by simp; omega)
  · rw [z]
    refine Lt2.snoc _ _ ?_
    have := h.srt
    rw [List.map_append, List.map_cons, List.pairwise_append] at this
    exact this.2.2 v.2 (List.mem_map.mpr ⟨v, hv, rfl⟩) u.2 (List.mem_cons_self ..)
  · rw [z]
    refine Lt2.last _ ?_
    have := h.up
    rw [h.sp, List.pairwise_append] at this
    exact this.2.2 e.1 h1 o (List.mem_cons_self ..)
theorem BJ.skip {D P : List (S × List Int)} {u : S × List Int} {dn os : List S} {o : S} (h : BJ hs out ex b D u P dn (o :: os)) (hk : o ∈ (D ++ u :: P).map (·.1)) : BJ hs out ex b D u P (dn ++ [o]) os := by
  obtain ⟨e, he, rfl⟩ := List.mem_map.mp hk
  refine ⟨by rw [h.sp]; simp, h.up, h.eu, h.nd, h.srt, fun x hx => ?_, h.cl, fun x hx => ?_, h.bg⟩
  · rcases h.par x hx with z | z | ⟨h1, h2⟩
    · exact .inl z
    · exact .inr (.inl z)
    · exact .inr (.inr ⟨List.mem_append_left _ h1, h2⟩)
  · rcases List.mem_append.mp hx with hx | hx
    · exact h.cu x hx
    · rw [List.mem_singleton.mp hx]
      exact ⟨e.2, he, .inr (h.less he)⟩
theorem BJ.add {D P : List (S × List Int)} {u : S × List Int} {dn os : List S} {o : S} (h : BJ hs out ex b D u P dn (o :: os)) (hk : o ∉ (D ++ u :: P).map (·.1)) : BJ hs out ex b D u (P ++ [(o, u.2 ++ [hs o])]) (dn ++ [o]) os := by
  have e : D ++ u :: (P ++ [(o, u.2 ++ [hs o])]) = (D ++ u :: P) ++ [(o, u.2 ++ [hs o])] := by simp
  refine ⟨by rw [h.sp]; simp, h.up, h.eu, ?_, ?_, fun x hx => ?_, fun v hv hx z hz => ?_, fun x hx => ?_, by rw [e]; exact List.mem_append_left _ h.bg⟩
  · rw [e, List.map_append]
    refine List.nodup_append.mpr ⟨h.nd, by simp, fun x hx y hy => ?_⟩
    have hy' : y = o := by simpa using hy
    rw [hy']
    exact fun z => hk (z ▸ hx)
  · rw [e, List.map_append, List.pairwise_append]
    refine ⟨h.srt, by simp, fun x hx y hy => ?_⟩
    have hy' : y = u.2 ++ [hs o] := by simpa using hy
    rw [hy']
    obtain ⟨z, hz, rfl⟩ := List.mem_map.mp hx
    exact h.less hz
  · rw [e] at hx
    rcases List.mem_append.mp hx with hx | hx
    · rcases h.par x hx with z | z | ⟨h1, h2⟩
      · exact .inl z
      · exact .inr (.inl z)
      · exact .inr (.inr ⟨List.mem_append_left _ h1, h2⟩)
    · rw [List.mem_singleton.mp hx]
      exact .inr (.inr ⟨by simp, rfl⟩)
  · obtain ⟨l, h1, h2⟩ := h.cl v hv hx z hz
    exact ⟨l, by rw [e]; exact List.mem_append_left _ h1, h2⟩
  · rcases List.mem_append.mp hx with hx | hx
    · obtain ⟨l, h1, h2⟩ := h.cu x hx
      exact ⟨l, by rw [e]; exact List.mem_append_left _ h1, h2⟩
    · rw [List.mem_singleton.mp hx]
      exact ⟨u.2 ++ [hs o], by rw [e]; simp, .inl rfl⟩
/-- what stands there is a walk -/
theorem BI.walks {D : List (S × List Int)} (h : BI hs out ex b D []) : ∀ (n : Nat) (e : S × List Int), e ∈ D → e.2.length ≤ n → Wk hs out b e.1 e.2
  | 0, e, he, hn => by
    rcases h.par e (by simpa using he) with z | ⟨v, _, _, _, z⟩
    · rw [z] at hn; simp at hn
    · rw [z] at hn; simp at hn
  | n + 1, e, he, hn => by
    rcases h.par e (by simpa using he) with z | ⟨v, hv, _, ho, z⟩
    · rw [z]; exact .one
    · rw [z]
      refine .step (BI.walks h n v hv ?_) ho
      rw [z] at hn
      simp at hn
      exact hn
theorem Wk.ne {s : S} {l : List Int} (h : Wk hs out b s l) : 0 < l.length := by
  cases h with
  | one => exact Nat.succ_pos _
  | step _ _ => rw [List.length_append]; exact Nat.succ_pos _
/-- and none is ahead of it -/
theorem BI.best {D : List (S × List Int)} (h : BI hs out ex b D []) (exm : ∀ l l' : List Int, l.length ≤ l'.length → ex l' → ex l) {s : S} {w : List Int} (hw : Wk hs out b s w) : (w.length = 1 ∨ ex w.dropLast) → ∃ l, (s, l) ∈ D ∧ Le2 l w := by
  induction hw with
  | one => exact fun _ => ⟨_, by simpa using h.bg, .inl rfl⟩
  | @step u l o hw ho ih =>
    intro hx
    have hl := hw.ne
    have hx' : ex l := by
      rcases hx with z | z
      · rw [List.length_append, List.length_singleton] at z; omega
      · rwa [List.dropLast_concat] at z
    obtain ⟨l', h1, h2⟩ := ih (by
      by_cases hc : l.length = 1
      · exact .inl hc
      · exact .inr (exm _ _ (by rw [List.length_dropLast]; omega) hx'))
    obtain ⟨l2, h3, h4⟩ := h.cl (u, l') h1 (exm _ _ h2.len hx') o ho
    exact ⟨l2, by simpa using h3, h4.trans (h2.snoc _)⟩
/-- no more entries than there are stands -/
theorem BI.few {D P : List (S × List Int)} (h : BI hs out ex b D P) {U : List S} (hU : ∀ s, (∃ l, (s, l) ∈ D ++ P) → s ∈ U) : D.length + P.length ≤ U.length := by
  have := len_same.go h.nd (b := U) fun x hx => by
    obtain ⟨e, he, rfl⟩ := List.mem_map.mp hx
    exact hU e.1 ⟨e.2, he⟩
  rw [List.length_map, List.length_append] at this
  exact this
theorem BI.one {D : List (S × List Int)} (h : BI hs out ex b D []) {s : S} {l : List Int} (hl : (s, l) ∈ D) : dval D s = some l := by
  have nd := h.nd
  rw [List.append_nil] at nd
  clear h
  induction D with
  | nil => cases hl
  | cons e D ih =>
    rw [List.map_cons, List.nodup_cons] at nd
    rcases List.mem_cons.mp hl with rfl | hl
    · exact dval_pos rfl
    · rw [dval_neg (fun z => nd.1 (by rw [z]; exact List.mem_map.mpr ⟨_, hl, rfl⟩))]
      exact ih hl nd.2
theorem dval_mem {β : Type} {D : List (S × β)} {s : S} {l : β} (h : dval D s = some l) : (s, l) ∈ D := by
  induction D with
  | nil => cases h
  | cons e D ih =>
    by_cases hc : e.1 = s
    · rw [dval_pos hc] at h
      cases h
      rw [← hc]
      exact List.mem_cons_self ..
    · rw [dval_neg hc] at h
      exact List.mem_cons_of_mem _ (ih h)
theorem dval_isS {β : Type} {D : List (S × β)} {s : S} : (dval D s).isSome = true ↔ s ∈ D.map (·.1) := by
  induction D with
  | nil => simp [dval_nil]
  | cons e D ih =>
    rw [List.map_cons, List.mem_cons]
    by_cases hc : e.1 = s
    · rw [dval_pos hc]; simp [hc]
    · rw [dval_neg hc, ih]
      constructor
      · exact .inr
      · rintro (z | z)
        · exact absurd z.symm hc
        · exact z
theorem dput_new {β : Type} {D : List (S × β)} {s : S} {y : β} (h : s ∉ D.map (·.1)) : dput D s y = D ++ [(s, y)] := by
  unfold dput
  rw [if_neg (fun z => h (dval_isS.mp z))]
end
end G
/-! Plain laws: data that are shown in a text short enough. -/
namespace G
open PySem PySem.Spec PyProof.Rows L2 TL
def Fit (n : Nat) (d : PyData) : Prop := d.weight ≤ n ∧ d.leavesShort 40 = true ∧ d.showable = true
theorem Fit.mono {n m : Nat} {d : PyData} (h : Fit n d) (k : n ≤ m) : Fit m d := ⟨Nat.le_trans h.1 k, h.2⟩
theorem Fit.int {i : Int} (h : i.natAbs < 10 ^ 38) : Fit 128 (.int i) := by
  have h1 : i.natAbs < 2 ^ 127 := Nat.lt_trans h (by decide)
  have h2 : i.natAbs.log2 < 127 := by
    by_cases z : i.natAbs = 0
    · rw [z]; decide
    · exact (Nat.log2_lt z).mpr h1
  have h3 : (PyData.shown (.int i)).length ≤ 39 := by
    have e : PyData.shown (.int i) = Str.ofString (toString i) := rfl
    rw [e, ofString_len]
    exact int_text_length_le10 (by decide) h
  refine ⟨?_, ?_, ?_⟩
  · simp only [PyData.weight]
    split <;> omega
  · simp only [PyData.leavesShort]; exact decide_eq_true (by omega)
  · simp only [PyData.showable]; exact decide_eq_true (by omega)
theorem Fit.none_ : Fit 0 .none := ⟨Nat.le_refl _, rfl, rfl⟩
theorem Fit.bool_ {b : Bool} : Fit 0 (.bool b) := ⟨Nat.le_refl _, rfl, rfl⟩
theorem Fit.str {x : Str} {n : Nat} (h : (tl x).length ≤ n) (hc : ∀ c ∈ tl x, c < 16 ^ 8) : Fit n (.str x) := by
  refine ⟨?_, ?_, rfl⟩
  · simp only [PyData.weight]; rw [← Array.length_toList]; exact h
  · simp only [PyData.leavesShort, List.all_eq_true, decide_eq_true_eq]; exact hc
theorem Fit.opt {α : Type} [Enc α] {o : Option α} {n : Nat} (h : ∀ x, o = some x → Fit n (Enc.d x)) : Fit n (Enc.d o) := by
  cases o with
  | none => exact Fit.none_.mono (Nat.zero_le _)
  | some x => exact h x rfl
def FitA (n : Nat) (ds : List PyData) : Prop := PyData.weightAll ds ≤ n ∧ PyData.leavesShortAll 40 ds = true ∧ PyData.showableAll ds = true
theorem FitA.nil : FitA 0 [] := ⟨Nat.le_refl _, rfl, rfl⟩
theorem FitA.cons {n m : Nat} {d : PyData} {ds : List PyData} (h : Fit n d) (hs : FitA m ds) : FitA (n + 1 + m) (d :: ds) := by
  refine ⟨?_, ?_, ?_⟩
  · simp only [PyData.weightAll]; have := h.1; have := hs.1; omega
  · simp only [PyData.leavesShortAll, Bool.and_eq_true]; exact ⟨h.2.1, hs.2.1⟩
  · simp only [PyData.showableAll, Bool.and_eq_true]; exact ⟨h.2.2, hs.2.2⟩
theorem FitA.mono {n m : Nat} {ds : List PyData} (h : FitA n ds) (k : n ≤ m) : FitA m ds := ⟨Nat.le_trans h.1 k, h.2⟩
theorem FitA.all {n : Nat} : ∀ {ds : List PyData}, (∀ d ∈ ds, Fit n d) → FitA (ds.length * (n + 1)) ds
  | [], _ => FitA.nil.mono (Nat.zero_le _)
  | d :: ds, h => by
    refine (FitA.cons (h d (List.mem_cons_self ..)) (FitA.all fun x hx => h x (List.mem_cons_of_mem _ hx))).mono ?_
    rw [List.length_cons, Nat.add_mul, Nat.one_mul]
    omega
theorem Fit.list {n : Nat} {ds : List PyData} (h : FitA n ds) : Fit n (.list ds) := ⟨h.1, h.2⟩
theorem Fit.tuple {n : Nat} {ds : List PyData} (h : FitA n ds) : Fit n (.tuple ds) := ⟨h.1, h.2⟩
theorem Fit.L {α : Type} [Enc α] {xs : List α} {n m : Nat} (h : ∀ x ∈ xs, Fit n (Enc.d x)) (hm : xs.length ≤ m) : Fit (m * (n + 1)) (Enc.d xs) := by
  refine Fit.list ((FitA.all (n := n) (ds := xs.map Enc.d) fun d hd => ?_).mono ?_)
  · obtain ⟨x, hx, rfl⟩ := List.mem_map.mp hd
    exact h x hx
  · rw [List.length_map]; exact Nat.mul_le_mul_right _ hm
theorem Fit.VT {α : Type} [Enc α] {xs : VT α} {n m : Nat} (h : ∀ x ∈ xs.l, Fit n (Enc.d x)) (hm : xs.l.length ≤ m) : Fit (m * (n + 1)) (Enc.d xs) := by
  have := Fit.L h hm
  exact ⟨this.1, this.2⟩
theorem reprO_some {α : Type} [Enc α] {x : α} {n : Nat} (h : Fit n (Enc.d x)) (hn : n ≤ 399000) : reprO x = some (Enc.d x).shown := by
  have h1 := PyData.shown_le 40 (by decide) _ h.2.1
  have h2 := h.1
  unfold reprO
  rw [if_pos ⟨h.2.2, by rw [sizeLine_eq]; omega⟩]
theorem reprO_O {α : Type} [Enc α] {x : α} {n : Nat} {P : Str → Prop} (h : Fit n (Enc.d x)) (hn : n ≤ 399000) (p : P (Enc.d x).shown) : O1 (reprO x) P := ⟨_, reprO_some h hn, p⟩
theorem Fit.ints {xs : List Int} {m : Nat} (h : ∀ x ∈ xs, x.natAbs < 10 ^ 38) (hm : xs.length ≤ m) : Fit (m * 129) (Enc.d xs) := Fit.L (fun x hx => Fit.int (h x hx)) hm
theorem Fit.pair {x y : Int} (hx : x.natAbs < 10 ^ 38) (hy : y.natAbs < 10 ^ 38) : Fit 258 (Enc.d (x, y)) := Fit.tuple ((FitA.cons (Fit.int hx) (FitA.cons (Fit.int hy) FitA.nil)).mono (by omega))
/-! ### a loop of a law's own, that goes on -/
section
variable {α R S T : Type} {I : S → Prop}
def OL (I : S → Prop) (o : Option (Lp S R)) : Prop := ∃ b, o = some (.go b) ∧ I b
theorem OL.ret {b : S} (h : I b) : OL I (some (.go b) : Option (Lp S R)) := ⟨b, rfl, h⟩
theorem OL.bind {o : Option (α × T)} {J : T → Prop} {f : α → T → Option (Lp S R)} {P : α → Prop} (h : O2 J o P) (k : ∀ a b, J b → P a → OL I (f a b)) : OL I (bind2 o f) := by
  obtain ⟨a, b, rfl, i, p⟩ := h
  exact k a b i p
theorem OL.bind1 {o : Option α} {f : α → Option (Lp S R)} {P : α → Prop} (h : O1 o P) (k : ∀ a, P a → OL I (f a)) : OL I (Option.bind o f) := by
  obtain ⟨a, rfl, p⟩ := h
  exact k a p
theorem OL.ite {c : Bool} {x y : Option (Lp S R)} (h1 : c = true → OL I x) (h2 : c = false → OL I y) : OL I (if c = true then x else y) := by
  cases c with
  | true => exact h1 rfl
  | false => exact h2 rfl
theorem OL.bL1 {U V : Type} {o : Option (Lp S U)} {f : S → Option (Lp T R)} {g : U → Option (Lp T R)} {J : T → Prop} (h : OL I o) (k : ∀ b, I b → OL J (f b)) : OL J (bindL1 o f g) := by
  obtain ⟨b, rfl, i⟩ := h
  exact k b i
end
end G
/-! Plain laws: bits as sets; draws that are counted; the first cover; least lists. -/
namespace G
open PySem PySem.Spec PyProof.Rows L2 TL
section
variable {α β : Type} {S : Type} {I J : S → Prop}
theorem O2.bnd {o : Option (α × S)} {f : α → S → Option (β × S)} {P : α → Prop} {Q : β → Prop} (h : O2 J o P) (k : ∀ a b, J b → P a → O2 I (f a b) Q) : O2 I (bind2 o f) Q := by
  obtain ⟨a, b, rfl, i, p⟩ := h
  exact k a b i p
end
/-! ### bits -/
theorem sub_and_bit : ∀ (i a b : Nat), (a - (a &&& b)).testBit i = (a.testBit i && !b.testBit i)
  | 0, a, b => by
    have h1 : (a &&& b).testBit 0 = (a.testBit 0 && b.testBit 0) := Nat.testBit_and ..
    rw [Nat.testBit_zero, Nat.testBit_zero, Nat.testBit_zero] at h1
    rw [Nat.testBit_zero, Nat.testBit_zero, Nat.testBit_zero]
    have h2 : (a &&& b) / 2 = a / 2 &&& b / 2 := Nat.and_div_two
    have h3 : a / 2 &&& b / 2 ≤ a / 2 := Nat.and_le_left
    rw [← h2] at h3
    generalize a &&& b = m at h1 h3 ⊢
    by_cases c1 : a % 2 = 1 <;> by_cases c2 : b % 2 = 1 <;> simp [c1, c2] at h1 ⊢ <;> omega
  | i + 1, a, b => by
    rw [Nat.testBit_succ, Nat.testBit_succ, Nat.testBit_succ]
    have h1 : (a &&& b).testBit 0 = (a.testBit 0 && b.testBit 0) := Nat.testBit_and ..
    rw [Nat.testBit_zero, Nat.testBit_zero, Nat.testBit_zero] at h1
    have h2 : (a &&& b) / 2 = a / 2 &&& b / 2 := Nat.and_div_two
    have h3 : a / 2 &&& b / 2 ≤ a / 2 := Nat.and_le_left
    have h4 : (a &&& b) % 2 ≤ a % 2 := by
      generalize a &&& b = m at h1 ⊢
      by_cases c1 : a % 2 = 1
      · omega
      · simp [c1] at h1; omega
    have h5 : (a - (a &&& b)) / 2 = a / 2 - (a / 2 &&& b / 2) := by
      rw [← h2] at h3 ⊢
      generalize a &&& b = m at h3 h4 ⊢
      omega
    rw [h5]
    exact sub_and_bit i (a / 2) (b / 2)
theorem bitOr_nat (a b : Nat) : Builtin.bitOr (a : Int) (b : Int) = ((a ||| b : Nat) : Int) := by
  unfold Builtin.bitOr Builtin.bitAnd Builtin.bitNot
  have h1 : decide ((0 : Int) ≤ -(a : Int) - 1) = false := by simp; omega
  have h2 : decide ((0 : Int) ≤ -(b : Int) - 1) = false := by simp; omega
  rw [h1, h2]
  have e1 : (-(-(a : Int) - 1) - 1).toNat = a := by omega
  have e2 : (-(-(b : Int) - 1) - 1).toNat = b := by omega
  simp only [e1, e2]
  omega
theorem bitAndNot_nat (a b : Nat) : Builtin.bitAnd (a : Int) (Builtin.bitNot (b : Int)) = ((a - (a &&& b) : Nat) : Int) := by
  unfold Builtin.bitAnd Builtin.bitNot
  have h1 : decide ((0 : Int) ≤ (a : Int)) = true := by simp
  have h2 : decide ((0 : Int) ≤ -(b : Int) - 1) = false := by simp; omega
  rw [h1, h2]
  have e2 : (-(-(b : Int) - 1) - 1).toNat = b := by omega
  have h3 : a &&& b ≤ a := Nat.and_le_left
  simp only [e2, Int.toNat_natCast]
  omega
/-- the bits of some numbers -/
def bitsN (l : List Nat) : Nat := l.foldl (fun a c => a ||| 2 ^ c) 0
theorem bitsN_from : ∀ (l : List Nat) (a i : Nat), (l.foldl (fun a c => a ||| 2 ^ c) a).testBit i = (a.testBit i || decide (i ∈ l))
  | [], a, i => by simp
  | c :: l, a, i => by
    rw [List.foldl_cons, bitsN_from l, Nat.testBit_or, Nat.testBit_two_pow]
    by_cases h : c = i
    · subst h; simp
    · have h2 : i ≠ c := fun e => h e.symm
      simp [h, h2]
theorem bitsN_bit (l : List Nat) (i : Nat) : (bitsN l).testBit i = decide (i ∈ l) := by
  unfold bitsN
  rw [bitsN_from]
  simp
theorem bits_zero {a : Nat} : a = 0 ↔ ∀ i, a.testBit i = false := by
  constructor
  · intro h i; rw [h]; exact Nat.zero_testBit i
  · intro h; exact Nat.eq_of_testBit_eq fun i => by rw [h i, Nat.zero_testBit]
/-! ### the first cover -/
def srch : List (Int × Nat) → Nat → Nat → Option (List Int)
  | [], w, _ => if w = 0 then some [] else none
  | (n, b) :: t, w, k => if w = 0 then some [] else if k = 0 then none else
    match srch t (w - (w &&& b)) (k - 1) with
    | some f => some (n :: f)
    | none => srch t w k
def CovB (S : List (Int × Nat)) (w : Nat) : Prop := ∀ i, w.testBit i = true → ∃ r ∈ S, r.2.testBit i = true
theorem covB_cons {r : Int × Nat} {S : List (Int × Nat)} {w : Nat} : CovB (r :: S) w ↔ CovB S (w - (w &&& r.2)) := by
  constructor
  · intro h i hi
    rw [sub_and_bit, Bool.and_eq_true, Bool.not_eq_true'] at hi
    obtain ⟨x, hx, hb⟩ := h i hi.1
    rcases List.mem_cons.mp hx with rfl | hx
    · rw [hi.2] at hb; cases hb
    · exact ⟨x, hx, hb⟩
  · intro h i hi
    cases hb : r.2.testBit i with
    | true => exact ⟨r, List.mem_cons_self .., hb⟩
    | false =>
      obtain ⟨x, hx, h2⟩ := h i (by rw [sub_and_bit, hi, hb]; rfl)
      exact ⟨x, List.mem_cons_of_mem _ hx, h2⟩
theorem covB_nil {w : Nat} : CovB [] w ↔ w = 0 := by
  constructor
  · intro h
    refine bits_zero.mpr fun i => ?_
    cases hb : w.testBit i with
    | false => rfl
    | true =>
      obtain ⟨_, hx, _⟩ := h i hb
      exact (List.not_mem_nil hx).elim
  · intro h i hi
    rw [h, Nat.zero_testBit] at hi
    cases hi
theorem srch_zero (R : List (Int × Nat)) (k : Nat) : srch R 0 k = some [] := by cases R <;> unfold srch <;> rw [if_pos rfl]
theorem srch_sound : ∀ (R : List (Int × Nat)) (w k : Nat) (f : List Int), srch R w k = some f → ∃ S : List (Int × Nat), S.Sublist R ∧ f = S.map (·.1) ∧ CovB S w ∧ S.length ≤ k
  | [], w, k, f, h => by
    unfold srch at h
    split at h
    · next c =>
      cases h
      exact ⟨[], .slnil, rfl, covB_nil.mpr c, Nat.zero_le _⟩
    · cases h
  | (n, b) :: t, w, k, f, h => by
    unfold srch at h
    split at h
    · next c =>
      cases h
      exact ⟨[], List.nil_sublist _, rfl, covB_nil.mpr c, Nat.zero_le _⟩
    · split at h
      · cases h
      · next hk =>
        split at h
        · next g e =>
          cases h
          obtain ⟨S, h1, h2, h3, h4⟩ := srch_sound t _ _ g e
          exact ⟨(n, b) :: S, h1.cons₂ _, by rw [h2]; rfl, covB_cons.mpr h3, by rw [List.length_cons]; omega⟩
        · obtain ⟨S, h1, h2, h3, h4⟩ := srch_sound t _ _ f h
          exact ⟨S, h1.cons _, h2, h3, h4⟩
theorem srch_full : ∀ (R : List (Int × Nat)) (w k : Nat) (S : List (Int × Nat)), S.Sublist R → CovB S w → S.length ≤ k → ∃ f, srch R w k = some f
  | [], w, k, S, hs, hc, hl => by
    rw [List.sublist_nil.mp hs] at hc
    refine ⟨[], ?_⟩
    unfold srch
    rw [if_pos (covB_nil.mp hc)]
  | (n, b) :: t, w, k, S, hs, hc, hl => by
    unfold srch
    by_cases hw : w = 0
    · exact ⟨[], by rw [if_pos hw]⟩
    · rw [if_neg hw]
      have hne : S ≠ [] := fun e => hw (covB_nil.mp (e ▸ hc))
      have hpos : 0 < S.length := List.length_pos_iff.mpr hne
      rw [if_neg (by omega)]
      cases e : srch t (w - (w &&& b)) (k - 1) with
      | some f => exact ⟨_, rfl⟩
      | none =>
        rcases List.sublist_cons_iff.mp hs with h | ⟨S', rfl, h⟩
        · exact srch_full t w k S h hc hl
        · obtain ⟨f, h2⟩ := srch_full t (w - (w &&& b)) (k - 1) S' h (covB_cons.mp hc) (by rw [List.length_cons] at hl; omega)
          rw [e] at h2
          cases h2
theorem srch_least : ∀ (R : List (Int × Nat)) (w k : Nat) (f : List Int), R.Pairwise (fun x y => x.1 < y.1) → srch R w k = some f → (∀ T : List (Int × Nat), T.Sublist R → CovB T w → k ≤ T.length) →
    ∀ S : List (Int × Nat), S.Sublist R → CovB S w → S.length = k → ¬ S.map (·.1) < f
  | [], w, k, f, _, h, _, S, hs, _, _ => by
    rw [List.sublist_nil.mp hs]
    unfold srch at h
    split at h
    · cases h; exact List.lt_irrefl []
    · cases h
  | (n, b) :: t, w, k, f, hp, h, hm, S, hs, hc, hl => by
    obtain ⟨hp1, hp2⟩ := List.pairwise_cons.mp hp
    unfold srch at h
    by_cases hw : w = 0
    · rw [if_pos hw] at h
      cases h
      exact List.not_lt_nil _
    · rw [if_neg hw] at h
      by_cases hk : k = 0
      · rw [if_pos hk] at h; cases h
      rw [if_neg hk] at h
      cases e : srch t (w - (w &&& b)) (k - 1) with
      | some g =>
        rw [e] at h
        cases h
        rcases List.sublist_cons_iff.mp hs with h1 | ⟨S', rfl, h1⟩
        · cases S with
          | nil => rw [List.length_nil] at hl; omega
          | cons x S =>
            have hx : n < x.1 := hp1 x (h1.subset (List.mem_cons_self ..))
            rw [List.map_cons]
            intro hlt
            rcases List.cons_lt_cons_iff.mp hlt with h2 | h2
            · omega
            · omega
        · rw [List.map_cons]
          intro hlt
          rcases List.cons_lt_cons_iff.mp hlt with h2 | h2
          · exact Int.lt_irrefl _ h2
          · refine srch_least t _ _ g hp2 e (fun T hT hTc => ?_) S' h1 (covB_cons.mp hc) (by rw [List.length_cons] at hl; omega) h2.2
            have := hm ((n, b) :: T) (hT.cons₂ _) (covB_cons.mpr hTc)
            rw [List.length_cons] at this
            omega
      | none =>
        rw [e] at h
        rcases List.sublist_cons_iff.mp hs with h1 | ⟨S', rfl, h1⟩
        · exact srch_least t w k f hp2 h (fun T hT hTc => hm T (hT.cons _) hTc) S h1 hc hl
        · obtain ⟨g, h2⟩ := srch_full t (w - (w &&& b)) (k - 1) S' h1 (covB_cons.mp hc) (by rw [List.length_cons] at hl; omega)
          rw [e] at h2
          cases h2
/-! ### the least of some lists -/
theorem minL_spec {xs : List (List Int)} (h : xs ≠ []) : ∃ m, minL xs = some m ∧ m ∈ xs ∧ ∀ x ∈ xs, ¬ x < m := by
  have key : ∀ k : Nat, k < xs.length → (PySem.argBest (fun i j => PySem.W.dataLt ((xs.map Enc.d).getD i .none) ((xs.map Enc.d).getD j .none)) k) ≤ k ∧
      ∀ j, j ≤ k → ∀ x m, xs[j]? = some x → xs[PySem.argBest (fun i j => PySem.W.dataLt ((xs.map Enc.d).getD i .none) ((xs.map Enc.d).getD j .none)) k]? = some m → ¬ x < m := by
    have gd : ∀ i x, xs[i]? = some x → (xs.map Enc.d).getD i .none = Enc.d x := fun i x hx => by
      rw [List.getD_eq_getElem?_getD, List.getElem?_map, hx]; rfl
    intro k
    induction k with
    | zero =>
      intro _
      refine ⟨Nat.le_refl _, fun j hj x m hx hm => ?_⟩
      have : j = 0 := by omega
      subst this
      have hm' : xs[0]? = some m := hm
      rw [hx] at hm'
      cases hm'
      exact List.lt_irrefl _
    | succ k ih =>
      intro hk
      obtain ⟨i1, i2⟩ := ih (by omega)
      generalize hb : PySem.argBest (fun i j => PySem.W.dataLt ((xs.map Enc.d).getD i .none) ((xs.map Enc.d).getD j .none)) k = q at i1 i2
      have hq : xs[q]? = some xs[q] := List.getElem?_eq_getElem (by omega)
      have hk1 : xs[k + 1]? = some xs[k + 1] := List.getElem?_eq_getElem hk
      have e1 : PySem.W.dataLt ((xs.map Enc.d).getD (k + 1) .none) ((xs.map Enc.d).getD q .none) = decide (xs[k + 1] < xs[q]) := by
        rw [gd _ _ hk1, gd _ _ hq]
        exact ltD_ints _ _
      have es : PySem.argBest (fun i j => PySem.W.dataLt ((xs.map Enc.d).getD i .none) ((xs.map Enc.d).getD j .none)) (k + 1) = if decide (xs[k + 1] < xs[q]) = true then k + 1 else q := by
        show (if PySem.W.dataLt ((xs.map Enc.d).getD (k + 1) .none) ((xs.map Enc.d).getD (PySem.argBest _ k) .none) = true then k + 1 else PySem.argBest _ k) = _
        rw [hb, e1]
      rw [es]
      by_cases c : xs[k + 1] < xs[q]
      · rw [if_pos (decide_eq_true c)]
        refine ⟨Nat.le_refl _, fun j hj x m hx hm => ?_⟩
        rw [hk1] at hm
        cases hm
        by_cases hj2 : j = k + 1
        · subst hj2
          rw [hk1] at hx
          cases hx
          exact List.lt_irrefl _
        · have h3 := i2 j (by omega) x _ hx hq
          intro h4
          exact h3 (List.lt_trans h4 c)
      · rw [if_neg (by simpa using c)]
        refine ⟨by omega, fun j hj x m hx hm => ?_⟩
        by_cases hj2 : j = k + 1
        · subst hj2
          rw [hk1] at hx
          rw [hq] at hm
          cases hx; cases hm
          exact c
        · exact i2 j (by omega) x m hx hm
  have hl : 0 < xs.length := List.length_pos_iff.mpr h
  obtain ⟨k1, k2⟩ := key (xs.length - 1) (by omega)
  have hb : bestI xs < xs.length := by
    have : bestI xs ≤ xs.length - 1 := k1
    omega
  have e : xs[bestI xs]? = some xs[bestI xs] := List.getElem?_eq_getElem hb
  refine ⟨xs[bestI xs], e, List.getElem_mem hb, fun x hx => ?_⟩
  obtain ⟨j, hj⟩ := List.mem_iff_getElem?.mp hx
  exact k2 j (by have := (List.getElem?_eq_some_iff.mp hj).1; omega) x _ hj e
theorem minO_spec {xs : List Int} (h : xs ≠ []) : ∃ m, minO xs = some m ∧ m ∈ xs ∧ ∀ x ∈ xs, m ≤ x := by
  cases xs with
  | nil => exact absurd rfl h
  | cons x r =>
    refine ⟨r.foldl min x, rfl, ?_⟩
    exact foldl_min r x
/-- the sublists of a list with one more -/
theorem sub_snoc {α : Type} {P s : List α} {r : α} : s.Sublist (P ++ [r]) ↔ s.Sublist P ∨ ∃ t, t.Sublist P ∧ s = t ++ [r] := by
  rw [List.sublist_append_iff]
  constructor
  · rintro ⟨a, b, rfl, h1, h2⟩
    rcases List.sublist_cons_iff.mp h2 with h | ⟨c, rfl, h⟩
    · rw [List.sublist_nil.mp h, List.append_nil]; exact .inl h1
    · rw [List.sublist_nil.mp h]; exact .inr ⟨a, h1, rfl⟩
  · rintro (h | ⟨t, h, rfl⟩)
    · exact ⟨s, [], by rw [List.append_nil], h, List.nil_sublist _⟩
    · exact ⟨t, [r], rfl, h, List.Sublist.refl _⟩
end G
/-! My base, plain part 13. -/
namespace G
open PySem PySem.Spec PyProof.Rows L2 TL
instance {α β γ δ ε : Type} [Enc α] [Enc β] [Enc γ] [Enc δ] [Enc ε] [EqvD α] [EqvD β] [EqvD γ] [EqvD δ] [EqvD ε] : EqvD (T5 α β γ δ ε) := ⟨fun x y => by
  obtain ⟨a, b, e, g, i⟩ := x
  obtain ⟨c, d, f, h, j⟩ := y
  show (PyData.eqv (Enc.d a) (Enc.d c) && (PyData.eqv (Enc.d b) (Enc.d d) && (PyData.eqv (Enc.d e) (Enc.d f) && (PyData.eqv (Enc.d g) (Enc.d h) && (PyData.eqv (Enc.d i) (Enc.d j) && true))))) = true ↔ _
  rw [Bool.and_true, Bool.and_eq_true, Bool.and_eq_true, Bool.and_eq_true, Bool.and_eq_true, EqvD.iff, EqvD.iff, EqvD.iff, EqvD.iff, EqvD.iff, T5.mk.injEq]⟩
end G
/-! My base, plain part 14: tables' trees. -/
namespace G
open PySem PySem.Spec PyProof.Rows L2 TL
abbrev Pt := T3 Int Int (Option Int)
theorem mem_putN {ks : List (Option Int)} {k v : Option Int} : v ∈ putN ks k ↔ v ∈ ks ∨ v = k := by
  unfold putN
  split
  · next h => exact ⟨.inl, fun q => q.elim id fun e => e ▸ h⟩
  · rw [List.mem_append, List.mem_singleton]
theorem foldN {v : Option Int} : ∀ (ds a : List (Option Int)), v ∈ ds.foldl putN a ↔ v ∈ a ∨ v ∈ ds
  | [], a => by simp
  | d :: ds, a => by
    rw [List.foldl_cons, foldN ds, mem_putN, List.mem_cons, or_assoc]
theorem mem_putsN {ds : List (Option Int)} {v : Option Int} : v ∈ putsN ds ↔ v ∈ ds := by
  unfold putsN
  rw [foldN]
  simp
theorem foldN_len : ∀ (ds a : List (Option Int)), (ds.foldl putN a).length ≤ a.length + ds.length
  | [], a => Nat.le_refl _
  | d :: ds, a => by
    have h := foldN_len ds (putN a d)
    have h2 := putN_len a d
    rw [List.foldl_cons, List.length_cons]
    omega
theorem putsN_len {ds : List (Option Int)} : (putsN ds).length ≤ ds.length := by
  have h := foldN_len ds []
  rw [List.length_nil, Nat.zero_add] at h
  exact h
def mixN (a b : List (Option Int)) : List (Option Int) :=
  if (!(putsN (a.filter fun k => decide (k ∈ b))).isEmpty) = true then putsN (a.filter fun k => decide (k ∈ b)) else putsN (a ++ b)
theorem mixN_or (a b : List (Option Int)) : ((∃ v, v ∈ a ∧ v ∈ b) ∧ ∀ v, v ∈ mixN a b ↔ (v ∈ a ∧ v ∈ b)) ∨ ((∀ v, v ∈ a → v ∉ b) ∧ ∀ v, v ∈ mixN a b ↔ (v ∈ a ∨ v ∈ b)) := by
  have hm : ∀ v, v ∈ putsN (a.filter fun k => decide (k ∈ b)) ↔ (v ∈ a ∧ v ∈ b) := fun v => by rw [mem_putsN, List.mem_filter, decide_eq_true_eq]
  unfold mixN
  cases e : putsN (a.filter fun k => decide (k ∈ b)) with
  | nil =>
    refine .inr ⟨fun v h1 h2 => ?_, fun v => ?_⟩
    · have := (hm v).mpr ⟨h1, h2⟩
      rw [e] at this
      exact absurd this List.not_mem_nil
    · rw [if_neg (by decide), mem_putsN, List.mem_append]
  | cons k l =>
    rw [e] at hm
    refine .inl ⟨⟨k, (hm k).mp (List.mem_cons_self ..)⟩, fun v => ?_⟩
    rw [if_pos (show (!(k :: l).isEmpty) = true from rfl)]
    exact hm v
theorem mixN_len {a b : List (Option Int)} : (mixN a b).length ≤ a.length + b.length := by
  unfold mixN
  split
  · exact Nat.le_trans putsN_len (Nat.le_trans (List.length_filter_le ..) (Nat.le_add_right ..))
  · exact Nat.le_trans putsN_len (by rw [List.length_append]; exact Nat.le_refl _)
def chN (ks : List (Option Int)) : Option Int := minO (ks.filterMap id)
theorem chN_mem {ks : List (Option Int)} (h : ks ≠ []) : chN ks ∈ ks := by
  unfold chN
  by_cases e : ks.filterMap id = []
  · rw [e]
    show (none : Option Int) ∈ ks
    cases ks with
    | nil => exact absurd rfl h
    | cons k l =>
      cases k with
      | none => exact List.mem_cons_self ..
      | some x => simp at e
  · obtain ⟨m, e1, e2, _⟩ := minO_spec e
    rw [e1]
    obtain ⟨x, hx, e3⟩ := List.mem_filterMap.mp e2
    have e3 : x = some m := e3
    exact e3 ▸ hx
theorem chN_none {ks : List (Option Int)} (h : chN ks = none) : ∀ v ∈ ks, v = none := fun v hv => by
  cases v with
  | none => rfl
  | some x =>
    have hm : x ∈ ks.filterMap id := List.mem_filterMap.mpr ⟨some x, hv, rfl⟩
    obtain ⟨m, e1, _⟩ := minO_spec (List.ne_nil_of_mem hm)
    unfold chN at h
    rw [e1] at h
    cases h
/-! ### trees -/
def TrD.dep : TrD → Nat
  | .leaf _ => 0
  | .node _ l r => 1 + max l.dep r.dep
def TrD.nod : TrD → Nat
  | .leaf _ => 1
  | .node _ l r => 1 + l.nod + r.nod
def abN (ks : List (Option Int)) (ab : Option Int) : Option Int := if ab ∈ ks then ab else chN ks
def headT (w : Int) (ks : List (Option Int)) (beg : Str) (ab : Option Int) : List (Str × Option Int) :=
  if ab ∈ ks then [] else [(beg ++ Txt.mul ("*" : Str) (toI (decide (((beg.length : Nat) : Int) < w))), chN ks)]
def rowsT (w : Int) : TrD → Str → Option Int → List (Str × Option Int)
  | .leaf ks, beg, ab => headT w ks beg ab
  | .node ks l r, beg, ab => headT w ks beg ab ++ (rowsT w l (beg ++ sgn 48) (abN ks ab) ++ rowsT w r (beg ++ sgn 49) (abN ks ab))
def oneN (ks : List (Option Int)) (v : Option Int) : Nat := if v ∈ ks then 0 else 1
def costT : TrD → Option Int → Nat
  | .leaf ks, v => oneN ks v
  | .node ks l r, v => oneN ks v + (costT l (abN ks v) + costT r (abN ks v))
theorem headT_len (w : Int) (ks : List (Option Int)) (beg : Str) (ab : Option Int) : (headT w ks beg ab).length = oneN ks ab := by
  unfold headT oneN
  split <;> rfl
theorem rowsT_len (w : Int) : ∀ (t : TrD) (beg : Str) (ab : Option Int), (rowsT w t beg ab).length = costT t ab
  | .leaf ks, beg, ab => headT_len ..
  | .node ks l r, beg, ab => by
    show (headT w ks beg ab ++ (rowsT w l (beg ++ sgn 48) (abN ks ab) ++ rowsT w r (beg ++ sgn 49) (abN ks ab))).length = _
    rw [List.length_append, List.length_append, headT_len, rowsT_len w l, rowsT_len w r]
    rfl
theorem oneN_le (ks : List (Option Int)) (v : Option Int) : oneN ks v ≤ 1 := by unfold oneN; split <;> omega
theorem costT_nod : ∀ (t : TrD) (v : Option Int), costT t v ≤ t.nod
  | .leaf ks, v => oneN_le ks v
  | .node ks l r, v => by
    have h1 := costT_nod l (abN ks v)
    have h2 := costT_nod r (abN ks v)
    have h3 := oneN_le ks v
    show oneN ks v + (costT l (abN ks v) + costT r (abN ks v)) ≤ 1 + l.nod + r.nod
    omega
theorem nod_pos (t : TrD) : 1 ≤ t.nod := by
  cases t with
  | leaf ks => exact Nat.le_refl 1
  | node ks l r => show 1 ≤ 1 + l.nod + r.nod; omega
/-! ### parts that cover -/
def Cv (f b : Int) : List Pt → Prop
  | [] => False
  | [p] => p.a ≤ f ∧ f < b ∧ b ≤ p.b
  | p :: q :: r => p.a ≤ f ∧ f < p.b ∧ p.b < b ∧ q.a = p.b ∧ Cv p.b b (q :: r)
theorem Cv.lt {f b : Int} : ∀ {ps : List Pt}, Cv f b ps → f < b
  | [], h => h.elim
  | [p], h => h.2.1
  | p :: q :: r, h => by
    obtain ⟨_, h2, h3, _⟩ := h
    omega
theorem Cv.cons {f b : Int} {p : Pt} {l : List Pt} (h : Cv f b (p :: l)) : p.a ≤ f ∧ f < p.b := by
  cases l with
  | nil => obtain ⟨h1, h2, h3⟩ := h; exact ⟨h1, by omega⟩
  | cons q r => exact ⟨h.1, h.2.1⟩
theorem Cv.hi {f b : Int} : ∀ {ps : List Pt}, Cv f b ps → ∀ p ∈ ps, f < p.b
  | [], h, _, _ => h.elim
  | [p], h, z, hz => by
    obtain rfl := List.mem_singleton.mp hz
    exact h.cons.2
  | p :: q :: r, h, z, hz => by
    rcases List.mem_cons.mp hz with rfl | hz
    · exact h.cons.2
    · have := Cv.hi h.2.2.2.2 z hz
      have := h.2.1
      omega
theorem Cv.lo {f b : Int} : ∀ {ps : List Pt}, Cv f b ps → ∀ p ∈ ps, p.a < b
  | [], h, _, _ => h.elim
  | [p], h, z, hz => by
    obtain rfl := List.mem_singleton.mp hz
    obtain ⟨h1, h2, h3⟩ := h
    omega
  | p :: q :: r, h, z, hz => by
    rcases List.mem_cons.mp hz with rfl | hz
    · obtain ⟨h1, h2, h3, _⟩ := h
      omega
    · exact Cv.lo h.2.2.2.2 z hz
/-- behind the first, each begins no sooner than the first ends -/
theorem Cv.tail {f b : Int} {p : Pt} {l : List Pt} (h : Cv f b (p :: l)) : ∀ q ∈ l, p.b ≤ q.a := by
  induction l generalizing p f with
  | nil => intro q hq; exact absurd hq List.not_mem_nil
  | cons q r ih =>
    obtain ⟨h1, h2, h3, h4, h5⟩ := h
    intro z hz
    rcases List.mem_cons.mp hz with rfl | hz
    · omega
    · have := ih h5 z hz
      have := h5.cons.2
      omega
theorem Cv.low {f b m : Int} (hm : f < m) (hb : m < b) : ∀ {ps : List Pt}, Cv f b ps → Cv f m (ps.filter fun p => decide (p.a < m))
  | [], h => h.elim
  | [p], h => by
    obtain ⟨h1, h2, h3⟩ := h
    rw [List.filter_cons_of_pos (by rw [decide_eq_true_eq]; omega)]
    exact ⟨h1, hm, by omega⟩
  | p :: q :: r, h => by
    have ht := h.tail
    obtain ⟨h1, h2, h3, h4, h5⟩ := h
    rw [List.filter_cons_of_pos (by rw [decide_eq_true_eq]; omega)]
    by_cases hp : p.b < m
    · have ih := Cv.low hp hb h5
      rw [List.filter_cons_of_pos (by rw [decide_eq_true_eq]; omega)] at ih ⊢
      exact ⟨h1, h2, hp, h4, ih⟩
    · have e : (q :: r).filter (fun p => decide (p.a < m)) = [] := List.filter_eq_nil_iff.mpr fun z hz => by
        rw [decide_eq_true_eq]
        have := ht z hz
        omega
      rw [e]
      exact ⟨h1, hm, by omega⟩
theorem Cv.all {f b : Int} {ps : List Pt} {m : Int} (h : Cv f b ps) (hm : m ≤ f) : ps.filter (fun p => decide (m < p.b)) = ps :=
  List.filter_eq_self.mpr fun z hz => by
    rw [decide_eq_true_eq]
    have := h.hi z hz
    omega
theorem Cv.high {f b m : Int} (hm : f < m) (hb : m < b) : ∀ {ps : List Pt}, Cv f b ps → Cv m b (ps.filter fun p => decide (m < p.b))
  | [], h => h.elim
  | [p], h => by
    obtain ⟨h1, h2, h3⟩ := h
    rw [List.filter_cons_of_pos (by rw [decide_eq_true_eq]; omega)]
    exact ⟨by omega, hb, h3⟩
  | p :: q :: r, h => by
    obtain ⟨h1, h2, h3, h4, h5⟩ := h
    by_cases hp : m < p.b
    · rw [List.filter_cons_of_pos (by rw [decide_eq_true_eq]; omega), h5.all (by omega)]
      exact ⟨by omega, hp, h3, h4, h5⟩
    · rw [List.filter_cons_of_neg (by rw [decide_eq_true_eq]; omega)]
      by_cases e : p.b = m
      · rw [h5.all (by omega), ← e]
        exact h5
      · exact Cv.high (by omega) hb h5
theorem Cv.lens {f b m : Int} (hm : f < m) (hb : m < b) : ∀ {ps : List Pt}, Cv f b ps → (ps.filter fun p => decide (p.a < m)).length + (ps.filter fun p => decide (m < p.b)).length ≤ ps.length + 1
  | [], h => h.elim
  | [p], h => by
    have h1 := List.length_filter_le (fun p : Pt => decide (p.a < m)) [p]
    have h2 := List.length_filter_le (fun p : Pt => decide (m < p.b)) [p]
    rw [List.length_singleton] at *
    omega
  | p :: q :: r, h => by
    have ht := h.tail
    obtain ⟨h1, h2, h3, h4, h5⟩ := h
    rw [List.filter_cons_of_pos (by rw [decide_eq_true_eq]; omega)]
    by_cases hp : p.b < m
    · have ih := Cv.lens hp hb h5
      rw [List.filter_cons_of_neg (p := fun p : Pt => decide (m < p.b)) (by rw [decide_eq_true_eq]; omega)]
      rw [List.length_cons, List.length_cons (a := p)]
      omega
    · have e : (q :: r).filter (fun p => decide (p.a < m)) = [] := List.filter_eq_nil_iff.mpr fun z hz => by
        rw [decide_eq_true_eq]
        have := ht z hz
        omega
      have h6 := List.length_filter_le (fun p : Pt => decide (m < p.b)) (p :: q :: r)
      rw [e, List.length_singleton]
      omega
theorem Cv.two {f b : Int} {ps : List Pt} (h : Cv f b ps) (hl : ps.length ≠ 1) : 2 ≤ ps.length ∧ f + 1 < b := by
  match ps, h with
  | [], h => exact h.elim
  | [p], h => exact absurd rfl hl
  | p :: q :: r, h =>
    obtain ⟨h1, h2, h3, h4, h5⟩ := h
    exact ⟨by simp only [List.length_cons]; omega, by omega⟩
/-- the tree of parts -/
inductive Wt : Int → Nat → List Pt → TrD → Prop
  | leaf {f : Int} {n : Nat} {p : Pt} : Wt f n [p] (.leaf [p.c])
  | node {f : Int} {n : Nat} {ps : List Pt} {l r : TrD} : ps.length ≠ 1 → Wt f n (ps.filter fun p => decide (p.a < f + ((2 ^ n : Nat) : Int))) l → Wt (f + ((2 ^ n : Nat) : Int)) n (ps.filter fun p => decide (f + ((2 ^ n : Nat) : Int) < p.b)) r → Wt f (n + 1) ps (.node (mixN l.ks r.ks) l r)
theorem Wt.dep {f : Int} {n : Nat} {ps : List Pt} {t : TrD} (h : Wt f n ps t) : t.dep ≤ n := by
  induction h with
  | leaf => exact Nat.zero_le _
  | @node f n ps l r _ _ _ ih1 ih2 =>
    show 1 + max l.dep r.dep ≤ n + 1
    omega
theorem Wt.ne {f : Int} {n : Nat} {ps : List Pt} {t : TrD} (h : Wt f n ps t) : t.ks ≠ [] := by
  induction h with
  | leaf => exact List.cons_ne_nil _ _
  | @node f n ps l r _ _ _ ih1 ih2 =>
    show mixN l.ks r.ks ≠ []
    rcases mixN_or l.ks r.ks with ⟨⟨v, h1⟩, h2⟩ | ⟨_, h2⟩
    · exact List.ne_nil_of_mem ((h2 v).mpr h1)
    · obtain ⟨v, hv⟩ := List.exists_mem_of_ne_nil _ ih1
      exact List.ne_nil_of_mem ((h2 v).mpr (.inl hv))
theorem Wt.sub {f : Int} {n : Nat} {ps : List Pt} {t : TrD} (h : Wt f n ps t) : ∀ v ∈ t.ks, ∃ p ∈ ps, p.c = v := by
  induction h with
  | @leaf f n p =>
    intro v hv
    exact ⟨p, List.mem_cons_self .., (List.mem_singleton.mp hv).symm⟩
  | @node f n ps l r _ _ _ ih1 ih2 =>
    intro v hv
    have hv : v ∈ mixN l.ks r.ks := hv
    have h : v ∈ l.ks ∨ v ∈ r.ks := by
      rcases mixN_or l.ks r.ks with ⟨_, h2⟩ | ⟨_, h2⟩
      · exact .inl ((h2 v).mp hv).1
      · exact (h2 v).mp hv
    rcases h with h | h
    · obtain ⟨p, hp, e⟩ := ih1 v h
      exact ⟨p, (List.mem_filter.mp hp).1, e⟩
    · obtain ⟨p, hp, e⟩ := ih2 v h
      exact ⟨p, (List.mem_filter.mp hp).1, e⟩
theorem Wt.cost {f : Int} {n : Nat} {ps : List Pt} {t : TrD} (h : Wt f n ps t) : ∃ m, ∀ v, costT t v = m + oneN t.ks v := by
  induction h with
  | leaf => exact ⟨0, fun v => (Nat.zero_add _).symm⟩
  | @node f n ps l r hp h1 h2 ih1 ih2 =>
    obtain ⟨m1, e1⟩ := ih1
    obtain ⟨m2, e2⟩ := ih2
    have hne := (Wt.node hp h1 h2).ne
    have hab : ∀ v, abN (mixN l.ks r.ks) v ∈ mixN l.ks r.ks := fun v => by
      unfold abN
      split
      · assumption
      · exact chN_mem hne
    rcases mixN_or l.ks r.ks with ⟨_, h3⟩ | ⟨h0, h3⟩
    · refine ⟨m1 + m2, fun v => ?_⟩
      show oneN (mixN l.ks r.ks) v + (costT l (abN (mixN l.ks r.ks) v) + costT r (abN (mixN l.ks r.ks) v)) = m1 + m2 + oneN (mixN l.ks r.ks) v
      have h4 := (h3 _).mp (hab v)
      rw [e1, e2, show oneN l.ks (abN (mixN l.ks r.ks) v) = 0 from if_pos h4.1, show oneN r.ks (abN (mixN l.ks r.ks) v) = 0 from if_pos h4.2]
      omega
    · refine ⟨m1 + m2 + 1, fun v => ?_⟩
      show oneN (mixN l.ks r.ks) v + (costT l (abN (mixN l.ks r.ks) v) + costT r (abN (mixN l.ks r.ks) v)) = m1 + m2 + 1 + oneN (mixN l.ks r.ks) v
      rw [e1, e2]
      rcases (h3 _).mp (hab v) with h4 | h4
      · rw [show oneN l.ks (abN (mixN l.ks r.ks) v) = 0 from if_pos h4, show oneN r.ks (abN (mixN l.ks r.ks) v) = 1 from if_neg (h0 _ h4)]
        omega
      · rw [show oneN r.ks (abN (mixN l.ks r.ks) v) = 0 from if_pos h4, show oneN l.ks (abN (mixN l.ks r.ks) v) = 1 from if_neg fun k => h0 _ k h4]
        omega
theorem Wt.nods {f : Int} {n : Nat} {ps : List Pt} {t : TrD} (h : Wt f n ps t) (c : Cv f (f + ((2 ^ n : Nat) : Int)) ps) : t.nod + 2 * n ≤ 2 * n * ps.length + 1 ∧ t.ks.length ≤ t.nod := by
  induction h with
  | @leaf f n p =>
    show 1 + 2 * n ≤ 2 * n * 1 + 1 ∧ 1 ≤ 1
    omega
  | @node f n ps l r hp h1 h2 ih1 ih2 =>
    have hpw : 0 < 2 ^ n := Nat.two_pow_pos n
    have he : f + ((2 ^ (n + 1) : Nat) : Int) = f + ((2 ^ n : Nat) : Int) + ((2 ^ n : Nat) : Int) := by rw [Nat.pow_succ]; omega
    have hlt : f + ((2 ^ n : Nat) : Int) < f + ((2 ^ (n + 1) : Nat) : Int) := by omega
    obtain ⟨a1, a2⟩ := ih1 (c.low (by omega) hlt)
    obtain ⟨b1, b2⟩ := ih2 (by rw [← he]; exact c.high (by omega) hlt)
    have hl := c.lens (m := f + ((2 ^ n : Nat) : Int)) (by omega) hlt
    have h2l := (c.two hp).1
    have hk := mixN_len (a := l.ks) (b := r.ks)
    refine ⟨?_, ?_⟩
    · show 1 + l.nod + r.nod + 2 * (n + 1) ≤ 2 * (n + 1) * ps.length + 1
      generalize (ps.filter fun p => decide (p.a < f + ((2 ^ n : Nat) : Int))).length = x at a1 hl
      generalize (ps.filter fun p => decide (f + ((2 ^ n : Nat) : Int) < p.b)).length = y at b1 hl
      generalize ps.length = z at hl h2l ⊢
      have h5 : 2 * n * x + 2 * n * y ≤ 2 * n * (z + 1) := by rw [← Nat.mul_add]; exact Nat.mul_le_mul_left _ hl
      rw [Nat.mul_add, Nat.mul_one] at h5
      rw [Nat.mul_add, Nat.mul_one, Nat.add_mul]
      omega
    · show (mixN l.ks r.ks).length ≤ 1 + l.nod + r.nod
      omega
/-! ### parts of all -/
def Cn : Int → Int → List Pt → Prop
  | s, t, [] => s = t
  | s, t, p :: l => p.a = s ∧ s < p.b ∧ Cn p.b t l
theorem Cn.le : ∀ {s t : Int} {L : List Pt}, Cn s t L → s ≤ t
  | s, t, [], h => Int.le_of_eq h
  | s, t, p :: l, h => by
    have := Cn.le h.2.2
    have := h.2.1
    omega
theorem Cn.app : ∀ {s m t : Int} {A B : List Pt}, Cn s m A → Cn m t B → Cn s t (A ++ B)
  | s, m, t, [], B, h, k => by
    obtain rfl : s = m := h
    exact k
  | s, m, t, p :: l, B, h, k => ⟨h.1, h.2.1, Cn.app h.2.2 k⟩
theorem Cn.los : ∀ {s t : Int} {L : List Pt}, Cn s t L → ∀ p ∈ L, s ≤ p.a ∧ p.a < p.b ∧ p.b ≤ t
  | s, t, [], h, p, hp => absurd hp List.not_mem_nil
  | s, t, q :: l, h, p, hp => by
    have h1 := h.1
    have h2 := h.2.1
    have h3 := Cn.le h.2.2
    rcases List.mem_cons.mp hp with rfl | hp
    · omega
    · have := Cn.los h.2.2 p hp
      omega
theorem Cn.cv : ∀ {s t : Int} {L : List Pt}, Cn s t L → s < t → Cv s t L
  | s, t, [], h, k => by
    obtain rfl : s = t := h
    omega
  | s, t, [p], h, k => by
    obtain ⟨h1, h2, h3⟩ := h
    have h3 : p.b = t := h3
    exact ⟨by omega, k, by omega⟩
  | s, t, p :: q :: r, h, k => by
    obtain ⟨h1, h2, h3⟩ := h
    have h4 := Cn.le h3.2.2
    have h5 := h3.2.1
    have h6 := h3.1
    exact ⟨by omega, h2, by omega, h6, Cn.cv h3 (by omega)⟩
section
variable {α β γ δ ε S : Type} {I : S → Prop}
theorem B1.go {o : Option α} {f : α → Option δ} {P : α → Prop} {G : Option δ → Prop} (h : O1 o P) (k : ∀ a, P a → G (f a)) : G (Option.bind o f) := by
  obtain ⟨a, rfl, p⟩ := h
  exact k a p
theorem B2.go {o : Option (α × S)} {f : α → S → Option δ} {P : α → Prop} {G : Option δ → Prop} (h : O2 I o P) (k : ∀ a b, I b → P a → G (f a b)) : G (bind2 o f) := by
  obtain ⟨a, b, rfl, i, p⟩ := h
  exact k a b i p
theorem B4.go {o : Option (α × β × γ × ε)} {f : α → β → γ → ε → Option δ} {P : α → β → γ → ε → Prop} {G : Option δ → Prop} (h : ∃ a b c d, o = some (a, b, c, d) ∧ P a b c d) (k : ∀ a b c d, P a b c d → G (f a b c d)) : G (bind4 o f) := by
  obtain ⟨a, b, c, d, rfl, p⟩ := h
  exact k a b c d p
end
theorem divI_pos {a b : Int} (h0 : 0 < b) (h1 : b < 18446744073709551616) : divI a b = some (a / b) := by
  unfold divI
  have hn : b.natAbs < 2 ^ 64 := by omega
  have hz : b.natAbs ≠ 0 := by omega
  have := (Nat.log2_lt hz).mpr hn
  rw [if_pos ⟨h0, by omega⟩]
theorem modI_pos {a b : Int} (h0 : 0 < b) : modI a b = some (a % b) := by unfold modI; rw [if_pos h0]
theorem rangeL_in {n : Nat} {k : Int} (h : k ∈ rangeL 0 n) : 0 ≤ k ∧ k < (n : Nat) := by
  unfold rangeL at h
  obtain ⟨i, hi, rfl⟩ := List.mem_map.mp h
  have := List.mem_range.mp hi
  omega
/-! ### the prices of values -/
theorem Wt.price {f : Int} {n : Nat} {ps : List Pt} {l r : TrD} (h1 : ∃ m, ∀ v, costT l v = m + oneN l.ks v) (h2 : ∃ m, ∀ v, costT r v = m + oneN r.ks v) (hne : mixN l.ks r.ks ≠ []) {vs : List (Option Int)} (hv : ∀ v ∈ mixN l.ks r.ks, v ∈ vs) {m : Int}
    (hm : m ∈ vs.map fun v => ((costT l v + costT r v : Nat) : Int)) (hl : ∀ x ∈ vs.map fun v => ((costT l v + costT r v : Nat) : Int), m ≤ x) (v : Option Int) (hvv : v ∈ vs) :
    (if (1 : Int) + m < ((costT l v + costT r v : Nat) : Int) then (1 : Int) + m else ((costT l v + costT r v : Nat) : Int)) = ((costT (.node (mixN l.ks r.ks) l r) v : Nat) : Int) := by
  obtain ⟨m1, e1⟩ := h1
  obtain ⟨m2, e2⟩ := h2
  have hab : ∀ v, abN (mixN l.ks r.ks) v ∈ mixN l.ks r.ks := fun v => by
    unfold abN
    split
    · assumption
    · exact chN_mem hne
  have e3 : costT (.node (mixN l.ks r.ks) l r) v = oneN (mixN l.ks r.ks) v + (costT l (abN (mixN l.ks r.ks) v) + costT r (abN (mixN l.ks r.ks) v)) := rfl
  obtain ⟨k, hk, ek⟩ := List.mem_map.mp hm
  obtain ⟨z, hz⟩ := List.exists_mem_of_ne_nil _ hne
  have h3 := hl _ (List.mem_map.mpr ⟨z, hv z hz, rfl⟩)
  have hone : ∀ {a : List (Option Int)} {x : Option Int}, x ∈ a → oneN a x = 0 := fun h => if_pos h
  have hone' : ∀ {a : List (Option Int)} {x : Option Int}, x ∉ a → oneN a x = 1 := fun h => if_neg h
  have h4 := hl _ (List.mem_map.mpr ⟨v, hvv, rfl⟩)
  rw [e3]
  rw [e1, e2] at ek h3 h4
  rw [e1 v, e2 v, e1 (abN _ _), e2 (abN _ _)]
  have ha := hab v
  rcases mixN_or l.ks r.ks with ⟨_, q⟩ | ⟨q0, q⟩
  · have hz' := (q z).mp hz
    have ha' := (q _).mp ha
    rw [hone hz'.1, hone hz'.2] at h3
    rw [hone ha'.1, hone ha'.2]
    by_cases hvm : v ∈ mixN l.ks r.ks
    · have hv' := (q v).mp hvm
      rw [hone hvm, hone hv'.1, hone hv'.2]
      split <;> omega
    · rw [hone' hvm]
      have : oneN l.ks v + oneN r.ks v ≥ 1 := by
        by_cases h5 : v ∈ l.ks
        · rw [hone' fun h6 => hvm ((q v).mpr ⟨h5, h6⟩)]
          omega
        · rw [hone' h5]
          omega
      split <;> omega
  · have hsum : ∀ x, oneN l.ks x + oneN r.ks x ≥ 1 := fun x => by
      by_cases h5 : x ∈ l.ks
      · rw [hone' (q0 x h5)]
        omega
      · rw [hone' h5]
        omega
    have hin : ∀ x, x ∈ mixN l.ks r.ks → oneN l.ks x + oneN r.ks x = 1 := fun x hx => by
      rcases (q x).mp hx with h5 | h5
      · rw [hone h5, hone' (q0 x h5)]
      · rw [hone h5, hone' fun h6 => q0 x h6 h5]
    have k1 := hsum k
    have k2 := hin z hz
    have k3 := hin _ ha
    by_cases hvm : v ∈ mixN l.ks r.ks
    · have k4 := hin v hvm
      rw [hone hvm]
      split <;> omega
    · rw [hone' hvm]
      have : oneN l.ks v + oneN r.ks v = 2 := by
        rw [hone' fun h6 => hvm ((q v).mpr (.inl h6)), hone' fun h6 => hvm ((q v).mpr (.inr h6))]
      split <;> omega
/-! ### the whole tree of what each address is told -/
def fT : Nat → Int → (Int → Option Int) → TrD
  | 0, f, g => .leaf [g f]
  | n + 1, f, g => .node (mixN (fT n f g).ks (fT n (f + ((2 ^ n : Nat) : Int)) g).ks) (fT n f g) (fT n (f + ((2 ^ n : Nat) : Int)) g)
theorem chN_one (c : Option Int) : chN [c] = c := by cases c <;> rfl
theorem mixN_one (c : Option Int) : mixN [c] [c] = [c] := by
  unfold mixN
  have e : [c].filter (fun k => decide (k ∈ [c])) = [c] := List.filter_eq_self.mpr fun k hk => decide_eq_true hk
  rw [e]
  rfl
theorem abN_one (c ab : Option Int) : abN [c] ab = c := by
  unfold abN
  split
  · next h => exact List.mem_singleton.mp h
  · exact chN_one c
theorem headT_in (w : Int) {ks : List (Option Int)} (beg : Str) {ab : Option Int} (h : ab ∈ ks) : headT w ks beg ab = [] := if_pos h
theorem fT_const (w : Int) {g : Int → Option Int} {c : Option Int} : ∀ (n : Nat) (f : Int), (∀ x, f ≤ x → x < f + ((2 ^ n : Nat) : Int) → g x = c) → (fT n f g).ks = [c] ∧ ∀ beg ab, rowsT w (fT n f g) beg ab = headT w [c] beg ab
  | 0, f, h => by
    have e : g f = c := h f (Int.le_refl _) (by omega)
    unfold fT
    rw [e]
    exact ⟨rfl, fun _ _ => rfl⟩
  | n + 1, f, h => by
    have he : ((2 ^ (n + 1) : Nat) : Int) = ((2 ^ n : Nat) : Int) + ((2 ^ n : Nat) : Int) := by rw [Nat.pow_succ]; omega
    have hp : 0 < 2 ^ n := Nat.two_pow_pos n
    obtain ⟨a1, a2⟩ := fT_const w n f fun x h0 h1 => h x h0 (by omega)
    obtain ⟨b1, b2⟩ := fT_const w n (f + ((2 ^ n : Nat) : Int)) fun x h0 h1 => h x (by omega) (by omega)
    have e : fT (n + 1) f g = .node [c] (fT n f g) (fT n (f + ((2 ^ n : Nat) : Int)) g) := by
      show TrD.node (mixN _ _) _ _ = _
      rw [a1, b1, mixN_one]
    rw [e]
    refine ⟨rfl, fun beg ab => ?_⟩
    show headT w [c] beg ab ++ (rowsT w (fT n f g) _ (abN [c] ab) ++ rowsT w (fT n (f + ((2 ^ n : Nat) : Int)) g) _ (abN [c] ab)) = _
    rw [a2, b2, abN_one, headT_in w _ (List.mem_singleton.mpr rfl), headT_in w _ (List.mem_singleton.mpr rfl), List.append_nil, List.append_nil]
/-- what the parts say of addresses -/
def VP (g : Int → Option Int) (ps : List Pt) : Prop := ∀ p ∈ ps, ∀ x, p.a ≤ x → x < p.b → g x = p.c
theorem Wt.full (w : Int) {g : Int → Option Int} {f : Int} {n : Nat} {ps : List Pt} {t : TrD} (h : Wt f n ps t) (c : Cv f (f + ((2 ^ n : Nat) : Int)) ps) (hv : VP g ps) : t.ks = (fT n f g).ks ∧ ∀ beg ab, rowsT w t beg ab = rowsT w (fT n f g) beg ab := by
  induction h with
  | @leaf f n p =>
    obtain ⟨h1, h2, h3⟩ := c
    obtain ⟨k1, k2⟩ := fT_const w (g := g) (c := p.c) n f fun x h0 h1 => hv p (List.mem_cons_self ..) x (by omega) (by omega)
    exact ⟨k1.symm, fun beg ab => (k2 beg ab).symm⟩
  | @node f n ps l r hp h1 h2 ih1 ih2 =>
    have hpw : 0 < 2 ^ n := Nat.two_pow_pos n
    have he : f + ((2 ^ (n + 1) : Nat) : Int) = f + ((2 ^ n : Nat) : Int) + ((2 ^ n : Nat) : Int) := by rw [Nat.pow_succ]; omega
    have hlt : f + ((2 ^ n : Nat) : Int) < f + ((2 ^ (n + 1) : Nat) : Int) := by omega
    obtain ⟨a1, a2⟩ := ih1 (c.low (by omega) hlt) fun p hp => hv p (List.mem_filter.mp hp).1
    obtain ⟨b1, b2⟩ := ih2 (by rw [← he]; exact c.high (by omega) hlt) fun p hp => hv p (List.mem_filter.mp hp).1
    have e : fT (n + 1) f g = .node (mixN l.ks r.ks) (fT n f g) (fT n (f + ((2 ^ n : Nat) : Int)) g) := by
      show TrD.node (mixN _ _) _ _ = _
      rw [a1, b1]
    rw [e]
    refine ⟨rfl, fun beg ab => ?_⟩
    show headT w (mixN l.ks r.ks) beg ab ++ (rowsT w l _ (abN (mixN l.ks r.ks) ab) ++ rowsT w r _ (abN (mixN l.ks r.ks) ab)) = headT w (mixN l.ks r.ks) beg ab ++ (rowsT w (fT n f g) _ (abN (mixN l.ks r.ks) ab) ++ rowsT w (fT n (f + ((2 ^ n : Nat) : Int)) g) _ (abN (mixN l.ks r.ks) ab))
    rw [a2, b2]
theorem Cn.vals : ∀ {s t : Int} {L : List Pt}, Cn s t L → ∃ g, VP g L
  | s, t, [], h => ⟨fun _ => none, fun p hp => absurd hp List.not_mem_nil⟩
  | s, t, p :: l, h => by
    obtain ⟨g, hg⟩ := Cn.vals h.2.2
    refine ⟨fun x => if x < p.b then p.c else g x, fun q hq x h0 h1 => ?_⟩
    rcases List.mem_cons.mp hq with rfl | hq
    · exact if_pos h1
    · have := h.2.2.los q hq
      show (if x < p.b then p.c else g x) = q.c
      rw [if_neg (by omega)]
      exact hg q hq x h0 h1
/-- the rows of the fewest -/
def tabT (w : Nat) (g : Int → Option Int) : List (Str × Option Int) := rowsT (w : Nat) (fT w 0 g) ("" : Str) none
end G
/-! My base, plain part 15: tables: the fewest, what a painted stretch adds, what rows tell, their order. -/
namespace G
open PySem PySem.Spec PyProof.Rows L2 TL
inductive Mx : TrD → Prop
  | leaf (c : Option Int) : Mx (.leaf [c])
  | node {l r : TrD} : Mx l → Mx r → Mx (.node (mixN l.ks r.ks) l r)
theorem Mx.ne {t : TrD} (h : Mx t) : t.ks ≠ [] := by
  induction h with
  | leaf c => exact List.cons_ne_nil _ _
  | @node l r _ _ ih1 ih2 =>
    show mixN l.ks r.ks ≠ []
    rcases mixN_or l.ks r.ks with ⟨⟨v, h1⟩, h2⟩ | ⟨_, h2⟩
    · exact List.ne_nil_of_mem ((h2 v).mpr h1)
    · obtain ⟨v, hv⟩ := List.exists_mem_of_ne_nil _ ih1
      exact List.ne_nil_of_mem ((h2 v).mpr (.inl hv))
theorem oneN_in {a : List (Option Int)} {x : Option Int} (h : x ∈ a) : oneN a x = 0 := if_pos h
theorem oneN_out {a : List (Option Int)} {x : Option Int} (h : x ∉ a) : oneN a x = 1 := if_neg h
theorem abN_mem {ks : List (Option Int)} (h : ks ≠ []) (v : Option Int) : abN ks v ∈ ks := by
  unfold abN
  split
  · assumption
  · exact chN_mem h
theorem Mx.cost {t : TrD} (h : Mx t) : ∃ m, ∀ v, costT t v = m + oneN t.ks v := by
  induction h with
  | leaf c => exact ⟨0, fun v => (Nat.zero_add _).symm⟩
  | @node l r h1 h2 ih1 ih2 =>
    obtain ⟨m1, e1⟩ := ih1
    obtain ⟨m2, e2⟩ := ih2
    have hne := (Mx.node h1 h2).ne
    have hab := abN_mem (ks := mixN l.ks r.ks) hne
    rcases mixN_or l.ks r.ks with ⟨_, h3⟩ | ⟨h0, h3⟩
    · refine ⟨m1 + m2, fun v => ?_⟩
      show oneN (mixN l.ks r.ks) v + (costT l (abN (mixN l.ks r.ks) v) + costT r (abN (mixN l.ks r.ks) v)) = m1 + m2 + oneN (mixN l.ks r.ks) v
      have h4 := (h3 _).mp (hab v)
      rw [e1, e2, oneN_in h4.1, oneN_in h4.2]
      omega
    · refine ⟨m1 + m2 + 1, fun v => ?_⟩
      show oneN (mixN l.ks r.ks) v + (costT l (abN (mixN l.ks r.ks) v) + costT r (abN (mixN l.ks r.ks) v)) = m1 + m2 + 1 + oneN (mixN l.ks r.ks) v
      rw [e1, e2]
      rcases (h3 _).mp (hab v) with h4 | h4
      · rw [oneN_in h4, oneN_out (h0 _ h4)]
        omega
      · rw [oneN_in h4, oneN_out fun k => h0 _ k h4]
        omega
theorem Mx.le {l r : TrD} (h1 : Mx l) (h2 : Mx r) (a b : Option Int) : costT (.node (mixN l.ks r.ks) l r) a ≤ costT l a + costT r a ∧ costT (.node (mixN l.ks r.ks) l r) a ≤ 1 + (costT l b + costT r b) := by
  obtain ⟨m1, e1⟩ := h1.cost
  obtain ⟨m2, e2⟩ := h2.cost
  have hne : mixN l.ks r.ks ≠ [] := (Mx.node h1 h2).ne
  have hab := abN_mem hne a
  have e3 : costT (.node (mixN l.ks r.ks) l r) a = oneN (mixN l.ks r.ks) a + (costT l (abN (mixN l.ks r.ks) a) + costT r (abN (mixN l.ks r.ks) a)) := rfl
  rw [e3]
  rw [e1, e2, e1 a, e2 a, e1 b, e2 b]
  rcases mixN_or l.ks r.ks with ⟨_, q⟩ | ⟨q0, q⟩
  · have ha' := (q _).mp hab
    rw [oneN_in ha'.1, oneN_in ha'.2]
    by_cases hvm : a ∈ mixN l.ks r.ks
    · rw [oneN_in hvm]
      omega
    · rw [oneN_out hvm]
      have : oneN l.ks a + oneN r.ks a ≥ 1 := by
        by_cases h5 : a ∈ l.ks
        · rw [oneN_out fun h6 => hvm ((q a).mpr ⟨h5, h6⟩)]
          omega
        · rw [oneN_out h5]
          omega
      omega
  · have hsum : ∀ x, oneN l.ks x + oneN r.ks x ≥ 1 := fun x => by
      by_cases h5 : x ∈ l.ks
      · rw [oneN_out (q0 x h5)]
        omega
      · rw [oneN_out h5]
        omega
    have hin : ∀ x, x ∈ mixN l.ks r.ks → oneN l.ks x + oneN r.ks x = 1 := fun x hx => by
      rcases (q x).mp hx with h5 | h5
      · rw [oneN_in h5, oneN_out (q0 x h5)]
      · rw [oneN_in h5, oneN_out fun h6 => q0 x h6 h5]
    have k1 := hsum b
    have k2 := hsum a
    have k3 := hin _ hab
    by_cases hvm : a ∈ mixN l.ks r.ks
    · have k4 := hin a hvm
      rw [oneN_in hvm]
      omega
    · rw [oneN_out hvm]
      have : oneN l.ks a + oneN r.ks a = 2 := by
        rw [oneN_out fun h6 => hvm ((q a).mpr (.inl h6)), oneN_out fun h6 => hvm ((q a).mpr (.inr h6))]
      omega
theorem fT_Mx : ∀ (n : Nat) (f : Int) (g : Int → Option Int), Mx (fT n f g)
  | 0, f, g => .leaf _
  | n + 1, f, g => .node (fT_Mx n f g) (fT_Mx n _ g)
def cN (n : Nat) (f : Int) (g : Int → Option Int) (a : Option Int) : Nat := costT (fT n f g) a
theorem tabT_len (w : Nat) (g : Int → Option Int) : (tabT w g).length = cN w 0 g none := rowsT_len ..
section
variable {n : Nat} {f : Int} {g : Int → Option Int}
theorem cN_one (a b : Option Int) : cN n f g a ≤ 1 + cN n f g b := by
  obtain ⟨m, e⟩ := (fT_Mx n f g).cost
  unfold cN
  rw [e, e]
  have := oneN_le (fT n f g).ks a
  omega
theorem cN_le1 (a : Option Int) : cN (n + 1) f g a ≤ cN n f g a + cN n (f + ((2 ^ n : Nat) : Int)) g a := (Mx.le (fT_Mx n f g) (fT_Mx n _ g) a a).1
theorem cN_le2 (a b : Option Int) : cN (n + 1) f g a ≤ 1 + (cN n f g b + cN n (f + ((2 ^ n : Nat) : Int)) g b) := (Mx.le (fT_Mx n f g) (fT_Mx n _ g) a b).2
theorem cN_eq (a : Option Int) : cN (n + 1) f g a = cN n f g a + cN n (f + ((2 ^ n : Nat) : Int)) g a ∨ ∃ b, cN (n + 1) f g a = 1 + (cN n f g b + cN n (f + ((2 ^ n : Nat) : Int)) g b) := by
  have e : cN (n + 1) f g a = oneN (fT (n + 1) f g).ks a + (cN n f g (abN (fT (n + 1) f g).ks a) + cN n (f + ((2 ^ n : Nat) : Int)) g (abN (fT (n + 1) f g).ks a)) := rfl
  rw [e]
  by_cases h : a ∈ (fT (n + 1) f g).ks
  · refine .inl ?_
    rw [oneN_in h, show abN (fT (n + 1) f g).ks a = a from if_pos h]
    omega
  · exact .inr ⟨abN (fT (n + 1) f g).ks a, by rw [oneN_out h]⟩
end
theorem fT_congr {g g' : Int → Option Int} : ∀ (n : Nat) (f : Int), (∀ x, f ≤ x → x < f + ((2 ^ n : Nat) : Int) → g x = g' x) → fT n f g = fT n f g'
  | 0, f, h => by
    unfold fT
    rw [h f (Int.le_refl _) (by omega)]
  | n + 1, f, h => by
    have he : ((2 ^ (n + 1) : Nat) : Int) = ((2 ^ n : Nat) : Int) + ((2 ^ n : Nat) : Int) := by rw [Nat.pow_succ]; omega
    have hp : 0 < 2 ^ n := Nat.two_pow_pos n
    show TrD.node _ _ _ = TrD.node _ _ _
    rw [fT_congr n f fun x h0 h1 => h x h0 (by omega), fT_congr n (f + ((2 ^ n : Nat) : Int)) fun x h0 h1 => h x (by omega) (by omega)]
/-! ### what a painted stretch adds -/
def paint (g : Int → Option Int) (x y : Int) (v : Option Int) : Int → Option Int := fun z => if x ≤ z ∧ z < y then v else g z
theorem cN_const {g : Int → Option Int} {c : Option Int} {n : Nat} {f : Int} (h : ∀ x, f ≤ x → x < f + ((2 ^ n : Nat) : Int) → g x = c) (a : Option Int) : cN n f g a ≤ 1 := by
  have := (fT_const 0 n f h).2 ("" : Str) a
  have e := congrArg List.length this
  rw [rowsT_len, headT_len] at e
  unfold cN
  rw [e]
  exact oneN_le _ _
theorem cN_step {g g' : Int → Option Int} {n : Nat} {f : Int} {k1 k2 : Nat} (h1 : ∀ a, cN n f g' a ≤ cN n f g a + k1) (h2 : ∀ a, cN n (f + ((2 ^ n : Nat) : Int)) g' a ≤ cN n (f + ((2 ^ n : Nat) : Int)) g a + k2) (a : Option Int) : cN (n + 1) f g' a ≤ cN (n + 1) f g a + (k1 + k2) := by
  rcases cN_eq (n := n) (f := f) (g := g) a with e | ⟨b, e⟩
  · have := cN_le1 (n := n) (f := f) (g := g') a
    have := h1 a
    have := h2 a
    omega
  · have := cN_le2 (n := n) (f := f) (g := g') a b
    have := h1 b
    have := h2 b
    omega
theorem cN_off {g : Int → Option Int} {x y : Int} {v : Option Int} {n : Nat} {f : Int} (h : y ≤ f ∨ f + ((2 ^ n : Nat) : Int) ≤ x) (a : Option Int) : cN n f (paint g x y v) a = cN n f g a := by
  unfold cN
  rw [fT_congr n f fun z h0 h1 => ?_]
  unfold paint
  exact if_neg (by omega)
theorem cN_whole {g : Int → Option Int} {x y : Int} {v : Option Int} {n : Nat} {f : Int} (h1 : x ≤ f) (h2 : f + ((2 ^ n : Nat) : Int) ≤ y) (a : Option Int) : cN n f (paint g x y v) a ≤ cN n f g a + 1 := by
  have := cN_const (g := paint g x y v) (c := v) (n := n) (f := f) (fun z h0 h3 => if_pos (by omega)) a
  omega
theorem pow_s (n : Nat) : ((2 ^ (n + 1) : Nat) : Int) = ((2 ^ n : Nat) : Int) + ((2 ^ n : Nat) : Int) := by rw [Nat.pow_succ]; omega
theorem cN_pre {g : Int → Option Int} {x y : Int} {v : Option Int} : ∀ (n : Nat) (f : Int), x ≤ f → ∀ a, cN n f (paint g x y v) a ≤ cN n f g a + (n + 1)
  | 0, f, h, a => by
    by_cases hy : y ≤ f
    · rw [cN_off (.inl hy)]
      omega
    · exact cN_whole h (by show f + 1 ≤ y; omega) a
  | n + 1, f, h, a => by
    have hp : 0 < 2 ^ n := Nat.two_pow_pos n
    by_cases hy : y ≤ f + ((2 ^ n : Nat) : Int)
    · have := cN_step (g := g) (g' := paint g x y v) (k1 := n + 1) (k2 := 0) (cN_pre n f h) (fun a => by rw [cN_off (.inl hy)]; omega) a
      omega
    · have := cN_step (g := g) (g' := paint g x y v) (k1 := 1) (k2 := n + 1) (fun a => cN_whole h (by omega) a) (cN_pre n (f + ((2 ^ n : Nat) : Int)) (by omega)) a
      omega
theorem cN_suf {g : Int → Option Int} {x y : Int} {v : Option Int} : ∀ (n : Nat) (f : Int), f + ((2 ^ n : Nat) : Int) ≤ y → ∀ a, cN n f (paint g x y v) a ≤ cN n f g a + (n + 1)
  | 0, f, h, a => by
    have h : f + 1 ≤ y := h
    by_cases hx : x ≤ f
    · exact cN_whole hx h a
    · rw [cN_off (.inr (by show f + 1 ≤ x; omega))]
      omega
  | n + 1, f, h, a => by
    have hp : 0 < 2 ^ n := Nat.two_pow_pos n
    rw [pow_s] at h
    by_cases hx : f + ((2 ^ n : Nat) : Int) ≤ x
    · have := cN_step (g := g) (g' := paint g x y v) (k1 := 0) (k2 := n + 1) (fun a => by rw [cN_off (.inr hx)]; omega) (cN_suf n (f + ((2 ^ n : Nat) : Int)) (by omega)) a
      omega
    · have := cN_step (g := g) (g' := paint g x y v) (k1 := n + 1) (k2 := 1) (cN_suf n f (by omega)) (fun a => cN_whole (by omega) (by omega) a) a
      omega
theorem cN_any {g : Int → Option Int} {x y : Int} {v : Option Int} : ∀ (n : Nat) (f : Int) (a : Option Int), cN n f (paint g x y v) a ≤ cN n f g a + (2 * n + 1)
  | 0, f, a => by
    by_cases hx : x ≤ f
    · have := cN_pre (g := g) (y := y) (v := v) 0 f hx a
      omega
    · rw [cN_off (.inr (by show f + 1 ≤ x; omega))]
      omega
  | n + 1, f, a => by
    have hp : 0 < 2 ^ n := Nat.two_pow_pos n
    by_cases hy : y ≤ f + ((2 ^ n : Nat) : Int)
    · have := cN_step (g := g) (g' := paint g x y v) (k1 := 2 * n + 1) (k2 := 0) (cN_any n f) (fun a => by rw [cN_off (.inl hy)]; omega) a
      omega
    · by_cases hx : f + ((2 ^ n : Nat) : Int) ≤ x
      · have := cN_step (g := g) (g' := paint g x y v) (k1 := 0) (k2 := 2 * n + 1) (fun a => by rw [cN_off (.inr hx)]; omega) (cN_any n (f + ((2 ^ n : Nat) : Int))) a
        omega
      · have := cN_step (g := g) (g' := paint g x y v) (k1 := n + 1) (k2 := n + 1) (cN_suf n f (by omega)) (cN_pre n (f + ((2 ^ n : Nat) : Int)) (by omega)) a
        omega
/-- an aligned block -/
theorem cN_block {g : Int → Option Int} {v : Option Int} {k j : Nat} : ∀ (d i : Nat), i * 2 ^ d ≤ j → j < (i + 1) * 2 ^ d → ∀ a, cN (k + d) ((i * 2 ^ (k + d) : Nat) : Int) (paint g ((j * 2 ^ k : Nat) : Int) ((j * 2 ^ k : Nat) + ((2 ^ k : Nat) : Int)) v) a ≤ cN (k + d) ((i * 2 ^ (k + d) : Nat) : Int) g a + 1
  | 0, i, h1, h2, a => by
    have : j = i := by omega
    subst this
    exact cN_whole (Int.le_refl _) (Int.le_refl _) a
  | d + 1, i, h1, h2, a => by
    have hp : 0 < 2 ^ d := Nat.two_pow_pos d
    have e1 : i * 2 ^ (d + 1) = (2 * i) * 2 ^ d := by rw [Nat.pow_succ, Nat.mul_comm (2 ^ d) 2, ← Nat.mul_assoc, Nat.mul_comm i 2]
    have e2 : (i + 1) * 2 ^ (d + 1) = (2 * i + 1 + 1) * 2 ^ d := by rw [Nat.pow_succ, Nat.mul_comm (2 ^ d) 2, ← Nat.mul_assoc, Nat.mul_comm (i + 1) 2]; rfl
    have e3 : i * 2 ^ (k + (d + 1)) = (2 * i) * 2 ^ (k + d) := by rw [← Nat.add_assoc, Nat.pow_succ, Nat.mul_comm (2 ^ (k + d)) 2, ← Nat.mul_assoc, Nat.mul_comm i 2]
    rw [e1] at h1
    rw [e2] at h2
    have hm : (((2 * i) * 2 ^ (k + d) : Nat) : Int) + ((2 ^ (k + d) : Nat) : Int) = (((2 * i + 1) * 2 ^ (k + d) : Nat) : Int) := by rw [Nat.add_mul (2 * i) 1, Nat.one_mul]; omega
    have e4 : (2 * i + 1) * 2 ^ (k + d) = (2 * i + 1) * 2 ^ d * 2 ^ k := by rw [Nat.mul_assoc, ← Nat.pow_add, Nat.add_comm d k]
    rw [e3]
    by_cases hj : j < (2 * i + 1) * 2 ^ d
    · have hle : (j + 1) * 2 ^ k ≤ (2 * i + 1) * 2 ^ d * 2 ^ k := Nat.mul_le_mul_right _ hj
      rw [Nat.succ_mul] at hle
      exact cN_step (n := k + d) (g := g) (g' := paint g ((j * 2 ^ k : Nat) : Int) ((j * 2 ^ k : Nat) + ((2 ^ k : Nat) : Int)) v) (k1 := 1) (k2 := 0) (cN_block d (2 * i) h1 hj) (fun a => by rw [cN_off (.inl (by rw [hm, e4]; omega))]; omega) a
    · have hle : (2 * i + 1) * 2 ^ d * 2 ^ k ≤ j * 2 ^ k := Nat.mul_le_mul_right _ (by omega)
      exact cN_step (n := k + d) (g := g) (g' := paint g ((j * 2 ^ k : Nat) : Int) ((j * 2 ^ k : Nat) + ((2 ^ k : Nat) : Int)) v) (k1 := 0) (k2 := 1) (fun a => by rw [cN_off (.inr (by rw [hm, e4]; omega))]; omega) (fun a => by rw [hm]; exact cN_block d (2 * i + 1) (by omega) h2 a) a
theorem cN_aligned {g : Int → Option Int} {v : Option Int} {k j w : Nat} (hk : k ≤ w) (hj : j < 2 ^ (w - k)) (a : Option Int) : cN w 0 (paint g ((j * 2 ^ k : Nat) : Int) ((j * 2 ^ k : Nat) + ((2 ^ k : Nat) : Int)) v) a ≤ cN w 0 g a + 1 := by
  have := cN_block (g := g) (v := v) (k := k) (j := j) (w - k) 0 (by omega) (by omega) a
  rw [show k + (w - k) = w by omega, Nat.zero_mul] at this
  exact this
theorem cN_nodes : ∀ (n : Nat) (f : Int) (g : Int → Option Int) (a : Option Int), cN n f g a + 1 ≤ 2 ^ (n + 1)
  | 0, f, g, a => by
    have : cN 0 f g a ≤ 1 := oneN_le [g f] a
    show _ + 1 ≤ 2
    omega
  | n + 1, f, g, a => by
    have h1 := cN_nodes n f g none
    have h2 := cN_nodes n (f + ((2 ^ n : Nat) : Int)) g none
    have h3 := cN_le2 (n := n) (f := f) (g := g) a none
    rw [Nat.pow_succ]
    omega
/-- no table has fewer rows -/
theorem cN_low {ρ : Type} (P : ρ → List Nat) (vl : ρ → Option Int) {g : Int → Option Int} (D : Nat → Int → Option Int → List ρ → Prop)
    (h0 : ∀ f a R, D 0 f a R → g f = a ∨ 1 ≤ R.length)
    (hs : ∀ n f a R, D (n + 1) f a R → ∃ b R1 R2, ((b = a ∧ R1.length + R2.length ≤ R.length) ∨ R1.length + R2.length + 1 ≤ R.length) ∧ D n f b R1 ∧ D n (f + ((2 ^ n : Nat) : Int)) b R2) : ∀ (n : Nat) (f : Int) (a : Option Int) (R : List ρ), D n f a R → cN n f g a ≤ R.length
  | 0, f, a, R, h => by
    rcases h0 f a R h with e | e
    · have : cN 0 f g a = oneN [g f] a := rfl
      rw [this, oneN_in (List.mem_singleton.mpr e.symm)]
      omega
    · have : cN 0 f g a ≤ 1 := oneN_le [g f] a
      omega
  | n + 1, f, a, R, h => by
    obtain ⟨b, R1, R2, hl, d1, d2⟩ := hs n f a R h
    have i1 := cN_low P vl D h0 hs n f b R1 d1
    have i2 := cN_low P vl D h0 hs n (f + ((2 ^ n : Nat) : Int)) b R2 d2
    rcases hl with ⟨rfl, hl⟩ | hl
    · have := cN_le1 (n := n) (f := f) (g := g) b
      omega
    · have := cN_le2 (n := n) (f := f) (g := g) a b
      omega
end G
/-! My base, plain part 16: what a table's rows tell, and their order. -/
namespace G
open PySem PySem.Spec PyProof.Rows L2 TL
def bitsS (x : Str) : List Nat := (tl x).filter (· != 42)
theorem bitsS_pat {w : Nat} {bs : List Nat} {x : Str} (p : Pat w bs x) : bitsS x = bs := by
  unfold bitsS
  rw [p.eq, patL, List.filter_append]
  have h1 : bs.filter (· != 42) = bs := List.filter_eq_self.mpr fun c hc => by
    have : c ≠ 42 := fun e => p.bits.no42 (e ▸ hc)
    simpa using this
  rw [h1]
  split <;> simp
def sp3 (w : Nat) (q : Str × Option Int) : Pt := T3.mk ((spanL w (bitsS q.1)).1 : Int) ((spanL w (bitsS q.1)).2 : Int) q.2
/-- the value of the narrowest span -/
def atF (x : Int) : List Pt → Option Int → Int → Option Int × Int
  | [], v, l => (v, l)
  | e :: r, v, l => if ((decide (e.a ≤ x)) && ((decide (x < e.b)) && (decide ((e.b - e.a) < l)))) = true then atF x r e.c (e.b - e.a) else atF x r v l
theorem atF_app (x : Int) : ∀ (A B : List Pt) (v : Option Int) (l : Int), atF x (A ++ B) v l = atF x B (atF x A v l).1 (atF x A v l).2
  | [], B, v, l => rfl
  | e :: A, B, v, l => by
    rw [List.cons_append, atF.eq_2, atF.eq_2]
    split
    · exact atF_app x A B _ _
    · exact atF_app x A B _ _
theorem atF_off {x : Int} : ∀ {L : List Pt}, (∀ e ∈ L, ¬ (e.a ≤ x ∧ x < e.b)) → ∀ v l, atF x L v l = (v, l)
  | [], _, v, l => rfl
  | e :: L, h, v, l => by
    unfold atF
    have h1 := h e (List.mem_cons_self ..)
    rw [if_neg, atF_off fun z hz => h z (List.mem_cons_of_mem _ hz)]
    intro k
    have k1 := of_decide_eq_true (Bool.and_eq_true_iff.mp k).1
    have k2 := of_decide_eq_true (Bool.and_eq_true_iff.mp (Bool.and_eq_true_iff.mp k).2).1
    exact h1 ⟨k1, k2⟩
theorem head_tl (w : Nat) (beg : Str) : tl (beg ++ Txt.mul ("*" : Str) (toI (decide (((beg.length : Nat) : Int) < ((w : Nat) : Int))))) = patL w (tl beg) := by
  rw [tl_append, tl_mul, tlStar]
  unfold patL
  congr 1
  rw [len_tl]
  by_cases h : (tl beg).length < w
  · rw [if_pos h, decide_eq_true (by omega)]
    rfl
  · rw [if_neg h, decide_eq_false (by omega)]
    rfl
theorem headT_pat {w : Nat} {ks : List (Option Int)} {beg : Str} {ab : Option Int} (hb : Bits (tl beg)) (hl : (tl beg).length ≤ w) : ∀ q ∈ headT (w : Nat) ks beg ab, Pat w (tl beg) q.1 ∧ tl q.1 = patL w (tl beg) ∧ q.2 = chN ks := fun q hq => by
  unfold headT at hq
  split at hq
  · exact absurd hq List.not_mem_nil
  · rw [List.mem_singleton.mp hq]
    exact ⟨⟨hb, hl, head_tl w beg⟩, head_tl w beg, rfl⟩
theorem beg_bits {beg : Str} {c : Nat} (hb : Bits (tl beg)) (hc : isB c = true) : Bits (tl (beg ++ sgn c)) := by
  rw [tl_append, tl_sgn]
  exact hb.app (Bits.one hc)
theorem beg_len {beg : Str} {c : Nat} : (tl (beg ++ sgn c)).length = (tl beg).length + 1 := by
  rw [tl_append, tl_sgn, List.length_append]
  rfl
theorem rowsT_pat {w : Nat} {g : Int → Option Int} : ∀ (n : Nat) (f : Int) (beg : Str) (ab : Option Int), Bits (tl beg) → (tl beg).length + n = w → ∀ q ∈ rowsT (w : Nat) (fT n f g) beg ab, ∃ s, Pat w (tl beg ++ s) q.1
  | 0, f, beg, ab, hb, hl, q, hq => ⟨[], by rw [List.append_nil]; exact (headT_pat hb (by omega) q hq).1⟩
  | n + 1, f, beg, ab, hb, hl, q, hq => by
    have hq : q ∈ headT (w : Nat) (fT (n + 1) f g).ks beg ab ++ (rowsT (w : Nat) (fT n f g) (beg ++ sgn 48) (abN (fT (n + 1) f g).ks ab) ++ rowsT (w : Nat) (fT n (f + ((2 ^ n : Nat) : Int)) g) (beg ++ sgn 49) (abN (fT (n + 1) f g).ks ab)) := hq
    rcases List.mem_append.mp hq with hq | hq
    · exact ⟨[], by rw [List.append_nil]; exact (headT_pat hb (by omega) q hq).1⟩
    · rcases List.mem_append.mp hq with hq | hq
      · obtain ⟨s, h⟩ := rowsT_pat n f _ _ (beg_bits hb (by decide)) (by rw [beg_len]; omega) q hq
        rw [tl_append, tl_sgn, List.append_assoc] at h
        exact ⟨_, h⟩
      · obtain ⟨s, h⟩ := rowsT_pat n _ _ _ (beg_bits hb (by decide)) (by rw [beg_len]; omega) q hq
        rw [tl_append, tl_sgn, List.append_assoc] at h
        exact ⟨_, h⟩
theorem lex_at {c d : Nat} (h : c < d) (s t : List Nat) : ∀ a : List Nat, a ++ c :: s < a ++ d :: t
  | [] => List.Lex.rel h
  | x :: a => List.Lex.cons (lex_at h s t a)
theorem rowsT_rise {w : Nat} {g : Int → Option Int} : ∀ (n : Nat) (f : Int) (beg : Str) (ab : Option Int), Bits (tl beg) → (tl beg).length + n = w → (rowsT (w : Nat) (fT n f g) beg ab).Pairwise fun p q => tl p.1 < tl q.1
  | 0, f, beg, ab, hb, hl => by
    show (headT (w : Nat) [g f] beg ab).Pairwise _
    unfold headT
    split
    · exact List.Pairwise.nil
    · exact List.pairwise_singleton _ _
  | n + 1, f, beg, ab, hb, hl => by
    show (headT (w : Nat) (fT (n + 1) f g).ks beg ab ++ (rowsT (w : Nat) (fT n f g) (beg ++ sgn 48) (abN (fT (n + 1) f g).ks ab) ++ rowsT (w : Nat) (fT n (f + ((2 ^ n : Nat) : Int)) g) (beg ++ sgn 49) (abN (fT (n + 1) f g).ks ab))).Pairwise _
    have hpre : ∀ (c : Nat) (f' : Int) (a' : Option Int), isB c = true → ∀ q ∈ rowsT (w : Nat) (fT n f' g) (beg ++ sgn c) a', ∃ s, tl q.1 = tl beg ++ c :: s := fun c f' a' hc q hq => by
      obtain ⟨s, h⟩ := rowsT_pat n f' _ _ (beg_bits hb hc) (by rw [beg_len]; omega) q hq
      refine ⟨s ++ (if (tl (beg ++ sgn c) ++ s).length < w then [42] else []), ?_⟩
      rw [h.eq, patL, tl_append, tl_sgn]
      simp
    refine List.pairwise_append.mpr ⟨?_, List.pairwise_append.mpr ⟨rowsT_rise n f _ _ (beg_bits hb (by decide)) (by rw [beg_len]; omega), rowsT_rise n _ _ _ (beg_bits hb (by decide)) (by rw [beg_len]; omega), ?_⟩, ?_⟩
    · unfold headT
      split
      · exact List.Pairwise.nil
      · exact List.pairwise_singleton _ _
    · intro p hp q hq
      obtain ⟨s, e1⟩ := hpre 48 _ _ (by decide) p hp
      obtain ⟨t, e2⟩ := hpre 49 _ _ (by decide) q hq
      rw [e1, e2]
      exact lex_at (by decide) s t _
    · intro p hp q hq
      have e0 := (headT_pat hb (by omega) p hp).2.1
      rw [patL, if_pos (by omega)] at e0
      rcases List.mem_append.mp hq with hq | hq
      · obtain ⟨t, e2⟩ := hpre 48 _ _ (by decide) q hq
        rw [e0, e2]
        exact lex_at (by decide) [] t _
      · obtain ⟨t, e2⟩ := hpre 49 _ _ (by decide) q hq
        rw [e0, e2]
        exact lex_at (by decide) [] t _
theorem sp3_pat {w : Nat} {bs : List Nat} {q : Str × Option Int} {n : Nat} (p : Pat w bs q.1) (hl : bs.length + n = w) : sp3 w q = T3.mk ((wr bs * 2 ^ n : Nat) : Int) ((wr bs * 2 ^ n : Nat) + ((2 ^ n : Nat) : Int)) q.2 := by
  unfold sp3 spanL
  rw [bitsS_pat p, show w - bs.length = n by omega, Nat.add_mul, Nat.one_mul]
  congr 1
theorem wr_beg {beg : Str} {n : Nat} : ((wr (tl (beg ++ sgn 48)) * 2 ^ n : Nat) : Int) = ((wr (tl beg) * 2 ^ (n + 1) : Nat) : Int) ∧ ((wr (tl (beg ++ sgn 49)) * 2 ^ n : Nat) : Int) = ((wr (tl beg) * 2 ^ (n + 1) : Nat) : Int) + ((2 ^ n : Nat) : Int) := by
  have e : wr (tl beg) * 2 ^ (n + 1) = 2 * wr (tl beg) * 2 ^ n := by rw [Nat.pow_succ, Nat.mul_comm (2 ^ n) 2, ← Nat.mul_assoc, Nat.mul_comm _ 2]
  rw [tl_append, tl_append, tl_sgn, tl_sgn, wr_snoc, wr_snoc, if_neg (by decide), if_pos rfl, e, Nat.add_mul (2 * wr (tl beg)) 1, Nat.one_mul, Nat.add_zero]
  exact ⟨rfl, by omega⟩
theorem rowsT_in {w : Nat} {g : Int → Option Int} : ∀ (n : Nat) (f : Int) (beg : Str) (ab : Option Int), Bits (tl beg) → (tl beg).length + n = w → f = ((wr (tl beg) * 2 ^ n : Nat) : Int) → ∀ e ∈ (rowsT (w : Nat) (fT n f g) beg ab).map (sp3 w), f ≤ e.a ∧ e.a < e.b ∧ e.b ≤ f + ((2 ^ n : Nat) : Int)
  | 0, f, beg, ab, hb, hl, hf, e, he => by
    obtain ⟨q, hq, rfl⟩ := List.mem_map.mp he
    rw [sp3_pat (n := 0) (headT_pat hb (by omega) q hq).1 hl, ← hf]
    exact ⟨Int.le_refl _, by show f < f + 1; omega, Int.le_refl _⟩
  | n + 1, f, beg, ab, hb, hl, hf, e, he => by
    have hp : 0 < 2 ^ n := Nat.two_pow_pos n
    have hps := pow_s n
    obtain ⟨q, hq, rfl⟩ := List.mem_map.mp he
    have hq : q ∈ headT (w : Nat) (fT (n + 1) f g).ks beg ab ++ (rowsT (w : Nat) (fT n f g) (beg ++ sgn 48) (abN (fT (n + 1) f g).ks ab) ++ rowsT (w : Nat) (fT n (f + ((2 ^ n : Nat) : Int)) g) (beg ++ sgn 49) (abN (fT (n + 1) f g).ks ab)) := hq
    rcases List.mem_append.mp hq with hq | hq
    · rw [sp3_pat (n := n + 1) (headT_pat hb (by omega) q hq).1 hl, ← hf]
      exact ⟨Int.le_refl _, by show f < f + ((2 ^ (n + 1) : Nat) : Int); omega, Int.le_refl _⟩
    · rcases List.mem_append.mp hq with hq | hq
      · have := rowsT_in n f _ _ (beg_bits hb (by decide)) (by rw [beg_len]; omega) (by rw [wr_beg.1]; exact hf) _ (List.mem_map.mpr ⟨q, hq, rfl⟩)
        omega
      · have := rowsT_in n (f + ((2 ^ n : Nat) : Int)) _ _ (beg_bits hb (by decide)) (by rw [beg_len]; omega) (by rw [wr_beg.2, hf]) _ (List.mem_map.mpr ⟨q, hq, rfl⟩)
        omega
theorem head_at {w n : Nat} {ks : List (Option Int)} {beg : Str} {ab : Option Int} {f x l : Int} (hb : Bits (tl beg)) (hl : (tl beg).length + n = w) (hf : f = ((wr (tl beg) * 2 ^ n : Nat) : Int)) (h0 : f ≤ x) (h1 : x < f + ((2 ^ n : Nat) : Int)) (h2 : ((2 ^ n : Nat) : Int) < l) :
    ∃ l', atF x ((headT (w : Nat) ks beg ab).map (sp3 w)) ab l = (abN ks ab, l') ∧ ((2 ^ n : Nat) : Int) ≤ l' := by
  unfold abN
  by_cases hm : ab ∈ ks
  · rw [if_pos hm, headT_in _ beg hm]
    exact ⟨l, rfl, by omega⟩
  · rw [if_neg hm]
    have e : headT ((w : Nat) : Int) ks beg ab = [(beg ++ Txt.mul ("*" : Str) (toI (decide (((beg.length : Nat) : Int) < ((w : Nat) : Int)))), chN ks)] := if_neg hm
    have hp := headT_pat (w := w) (ks := ks) (ab := ab) hb (by omega) _ (by rw [e]; exact List.mem_singleton.mpr rfl)
    rw [e, List.map_cons, List.map_nil, sp3_pat (n := n) hp.1 hl, ← hf]
    unfold atF
    rw [if_pos]
    · exact ⟨_, rfl, by show _ ≤ f + ((2 ^ n : Nat) : Int) - f; omega⟩
    · show (decide (f ≤ x) && (decide (x < f + ((2 ^ n : Nat) : Int)) && decide (f + ((2 ^ n : Nat) : Int) - f < l))) = true
      rw [decide_eq_true h0, decide_eq_true h1, decide_eq_true (by omega)]
      rfl
theorem rowsT_at {w : Nat} {g : Int → Option Int} : ∀ (n : Nat) (f : Int) (beg : Str) (ab : Option Int) (x l : Int), Bits (tl beg) → (tl beg).length + n = w → f = ((wr (tl beg) * 2 ^ n : Nat) : Int) → f ≤ x → x < f + ((2 ^ n : Nat) : Int) → ((2 ^ n : Nat) : Int) < l →
    ∃ l', atF x ((rowsT (w : Nat) (fT n f g) beg ab).map (sp3 w)) ab l = (g x, l')
  | 0, f, beg, ab, x, l, hb, hl, hf, h0, h1, h2 => by
    obtain ⟨l', e, _⟩ := head_at (ks := [g f]) (ab := ab) hb hl hf h0 h1 h2
    rw [abN_one] at e
    have : x = f := by
      have h1 : x < f + 1 := h1
      omega
    subst this
    exact ⟨l', e⟩
  | n + 1, f, beg, ab, x, l, hb, hl, hf, h0, h1, h2 => by
    have hp : 0 < 2 ^ n := Nat.two_pow_pos n
    have hps := pow_s n
    obtain ⟨l', e, h3⟩ := head_at (ks := (fT (n + 1) f g).ks) (ab := ab) hb hl hf h0 h1 h2
    have er : (rowsT (w : Nat) (fT (n + 1) f g) beg ab).map (sp3 w) = (headT (w : Nat) (fT (n + 1) f g).ks beg ab).map (sp3 w) ++ ((rowsT (w : Nat) (fT n f g) (beg ++ sgn 48) (abN (fT (n + 1) f g).ks ab)).map (sp3 w) ++ (rowsT (w : Nat) (fT n (f + ((2 ^ n : Nat) : Int)) g) (beg ++ sgn 49) (abN (fT (n + 1) f g).ks ab)).map (sp3 w)) := by
      rw [← List.map_append, ← List.map_append]
      rfl
    rw [er, atF_app, e, atF_app]
    have b0 := beg_bits (c := 48) hb (by decide)
    have b1 := beg_bits (c := 49) hb (by decide)
    have i0 := rowsT_in (w := w) (g := g) n f (beg ++ sgn 48) (abN (fT (n + 1) f g).ks ab) b0 (by rw [beg_len]; omega) (by rw [wr_beg.1]; exact hf)
    have i1 := rowsT_in (w := w) (g := g) n (f + ((2 ^ n : Nat) : Int)) (beg ++ sgn 49) (abN (fT (n + 1) f g).ks ab) b1 (by rw [beg_len]; omega) (by rw [wr_beg.2, hf])
    by_cases hx : x < f + ((2 ^ n : Nat) : Int)
    · obtain ⟨l2, e2⟩ := rowsT_at (w := w) (g := g) n f (beg ++ sgn 48) (abN (fT (n + 1) f g).ks ab) x l' b0 (by rw [beg_len]; omega) (by rw [wr_beg.1]; exact hf) h0 hx (by omega)
      rw [e2, atF_off fun z hz => by have := i1 z hz; omega]
      exact ⟨l2, rfl⟩
    · obtain ⟨l2, e2⟩ := rowsT_at (w := w) (g := g) n (f + ((2 ^ n : Nat) : Int)) (beg ++ sgn 49) (abN (fT (n + 1) f g).ks ab) x l' b1 (by rw [beg_len]; omega) (by rw [wr_beg.2, hf]) (by omega) (by omega) (by omega)
      rw [atF_off (L := (rowsT (w : Nat) (fT n f g) (beg ++ sgn 48) (abN (fT (n + 1) f g).ks ab)).map (sp3 w)) fun z hz => by have := i0 z hz; omega]
      exact ⟨l2, e2⟩
theorem tabT_pat {w : Nat} {g : Int → Option Int} : ∀ q ∈ tabT w g, IsPat w q.1 := fun q hq => by
  obtain ⟨s, h⟩ := rowsT_pat (w := w) (g := g) w 0 ("" : Str) none (by rw [tl_empty]; exact Bits.nil) (by rw [tl_empty]; exact Nat.zero_add _) q hq
  exact ⟨_, h⟩
theorem tabT_rise {w : Nat} {g : Int → Option Int} : (tabT w g).Pairwise fun p q => tl p.1 < tl q.1 := rowsT_rise w 0 ("" : Str) none (by rw [tl_empty]; exact Bits.nil) (by rw [tl_empty]; exact Nat.zero_add _)
theorem tabT_at {w : Nat} {g : Int → Option Int} {x l : Int} (h0 : 0 ≤ x) (h1 : x < ((2 ^ w : Nat) : Int)) (h2 : ((2 ^ w : Nat) : Int) < l) : ∃ l', atF x ((tabT w g).map (sp3 w)) none l = (g x, l') :=
  rowsT_at w 0 ("" : Str) none x l (by rw [tl_empty]; exact Bits.nil) (by rw [tl_empty]; exact Nat.zero_add _) (by rw [tl_empty]; show (0 : Int) = ((0 * 2 ^ w : Nat) : Int); rw [Nat.zero_mul]; rfl) h0 (by omega) h2
/-! ### texts that are patterns -/
def stB (x : Str) : Bool := decide ((tl x).getLast? = some 42)
theorem ends_star (x : Str) : Txt.endswith x ("*" : Str) = stB x := by
  have hs : (("*" : Str)).cps.toList = [42] := tlStar
  have hl : (("*" : Str)).length = 1 := by rw [len_tl, tlStar]; rfl
  have hx : x.length = (tl x).length := len_tl x
  unfold Txt.endswith stB
  rw [StrLaws.subAt_eq, hs, hl, hx]
  show (decide (0 + 1 ≤ (tl x).length) && (((tl x).drop ((tl x).length - 1)).take 1 == [42])) = _
  rcases List.eq_nil_or_concat (tl x) with h | ⟨l, c, h⟩
  · rw [h]
    rfl
  · rw [h, List.concat_eq_append, List.length_append, List.length_singleton, Nat.add_sub_cancel, List.drop_left]
    rw [List.getLast?_concat, decide_eq_true (by omega), Bool.true_and]
    show ([c] == [42]) = decide (some c = some 42)
    by_cases hc : c = 42
    · subst hc
      rfl
    · rw [decide_eq_false fun z => hc (Option.some.inj z)]
      exact beq_eq_false_iff_ne.mpr fun z => hc (List.cons.inj z).1
theorem last_star (x : Str) : eqS (cutS x (some (-(1 : Int))) none) ("*" : Str) = stB x := by
  rw [eqS_tl, tl_cut, tlStar, sIx_neg1, sIx_n]
  unfold stB
  rcases List.eq_nil_or_concat (tl x) with h | ⟨l, c, h⟩
  · rw [h]
    rfl
  · rw [h, List.concat_eq_append, List.length_append, List.length_singleton, Nat.add_sub_cancel, List.drop_left, List.getLast?_concat]
    have e : ([c] : List Nat).take (l.length + 1 - l.length) = [c] := by rw [Nat.add_sub_cancel_left]; rfl
    rw [e]
    refine decide_eq_decide.mpr ⟨fun z => congrArg some (List.cons.inj z).1, fun z => by rw [Option.some.inj z]⟩
def cor (x : Str) : List Nat := if stB x = true then (tl x).dropLast else tl x
theorem tl_core (x : Str) : tl (cutS x none (some (((x.length : Nat) : Int) - (toI (stB x))))) = cor x := by
  rw [tl_cut, sIx_n, List.drop_zero, Nat.sub_zero, len_tl]
  unfold cor
  cases h : stB x with
  | false =>
    rw [if_neg (by decide)]
    have e : HT.sIx (tl x).length (tl x).length (some (((tl x).length : Nat) - (toI false))) = (tl x).length := by
      show (if (((tl x).length : Nat) : Int) - 0 < 0 then ((((tl x).length : Nat) : Int) - 0 + (((tl x).length : Nat) : Int)).toNat else min ((((tl x).length : Nat) : Int) - 0).toNat (tl x).length) = _
      rw [if_neg (by omega)]
      omega
    rw [e, List.take_length]
  | true =>
    rw [if_pos rfl]
    have hne : tl x ≠ [] := fun z => by
      unfold stB at h
      rw [z] at h
      cases h
    have hpos := List.length_pos_iff.mpr hne
    have e : HT.sIx (tl x).length (tl x).length (some (((tl x).length : Nat) - (toI true))) = (tl x).length - 1 := by
      show (if (((tl x).length : Nat) : Int) - 1 < 0 then ((((tl x).length : Nat) : Int) - 1 + (((tl x).length : Nat) : Int)).toNat else min ((((tl x).length : Nat) : Int) - 1).toNat (tl x).length) = _
      rw [if_neg (by omega)]
      omega
    rw [e, List.dropLast_eq_take]
def isPB (w : Nat) (x : Str) : Bool := (cor x).all isB && (if stB x = true then decide ((cor x).length < w) else decide ((cor x).length = w))
theorem isPB_pat {w : Nat} {x : Str} (h : IsPat w x) : isPB w x = true := by
  obtain ⟨bs, p⟩ := h
  have hb : bs.all isB = true := List.all_eq_true.mpr p.bits
  unfold isPB
  by_cases hl : bs.length < w
  · have e : tl x = bs ++ [42] := by rw [p.eq, patL, if_pos hl]
    have e1 : stB x = true := by unfold stB; rw [e, List.getLast?_concat]; rfl
    have e2 : cor x = bs := by unfold cor; rw [if_pos e1, e, List.dropLast_concat]
    rw [e2, e1, if_pos rfl, hb, decide_eq_true hl]
    rfl
  · have e : tl x = bs := by rw [p.eq, patL, if_neg hl, List.append_nil]
    have e1 : stB x = false := by
      unfold stB
      rw [e]
      refine decide_eq_false fun z => p.bits.no42 (List.mem_of_getLast? z)
    have e2 : cor x = bs := by unfold cor; rw [if_neg (by rw [e1]; decide), e]
    have hle := p.le
    rw [e2, e1, if_neg (by decide), hb, decide_eq_true (by omega)]
    rfl
theorem isPB_is {w : Nat} {x : Str} (h : isPB w x = true) : IsPat w x := by
  unfold isPB at h
  obtain ⟨h1, h2⟩ := Bool.and_eq_true_iff.mp h
  have hb : Bits (cor x) := List.all_eq_true.mp h1
  refine ⟨cor x, hb, ?_, ?_⟩
  · split at h2 <;> (have := of_decide_eq_true h2; omega)
  · unfold patL
    cases hs : stB x with
    | true =>
      rw [hs, if_pos rfl] at h2
      rw [if_pos (of_decide_eq_true h2)]
      unfold cor
      rw [if_pos hs]
      have hl : (tl x).getLast? = some 42 := of_decide_eq_true hs
      rcases List.eq_nil_or_concat (tl x) with e | ⟨l, c, e⟩
      · rw [e] at hl
        cases hl
      · rw [List.concat_eq_append] at e
        rw [e, List.getLast?_concat] at hl
        rw [e, List.dropLast_concat, Option.some.inj hl]
    | false =>
      rw [hs, if_neg (by decide)] at h2
      have := of_decide_eq_true h2
      rw [if_neg (by omega), List.append_nil]
      unfold cor
      rw [if_neg (by rw [hs]; decide)]
end G
/-! My base, plain part 17: the faults of tables. -/
namespace G
open PySem PySem.Spec PyProof.Rows L2 TL
abbrev Rw := Str × Option Int
abbrev Flt_ := Option ((Str × Int) ⊕ (T1 Str))
theorem dput_old {S β : Type} [DecidableEq S] {D : List (S × β)} {s : S} {y : β} (h : s ∈ D.map (·.1)) : (dput D s y).map (·.1) = D.map (·.1) := by
  unfold dput
  rw [if_pos (dval_isS.mpr h), List.map_map]
  exact List.map_congr_left fun p _ => by
    simp only [Function.comp]
    split <;> rfl
theorem dput_mem {S β : Type} [DecidableEq S] {D : List (S × β)} {s k : S} {y : β} : k ∈ (dput D s y).map (·.1) ↔ k ∈ D.map (·.1) ∨ k = s := by
  by_cases h : s ∈ D.map (·.1)
  · rw [dput_old h]
    exact ⟨.inl, fun q => q.elim id fun e => e ▸ h⟩
  · rw [dput_new h, List.map_append, List.mem_append]
    simp
theorem dput_nd {S β : Type} [DecidableEq S] {D : List (S × β)} {s : S} {y : β} (hn : (D.map (·.1)).Nodup) : ((dput D s y).map (·.1)).Nodup := by
  by_cases h : s ∈ D.map (·.1)
  · rw [dput_old h]
    exact hn
  · rw [dput_new h, List.map_append, List.nodup_append]
    refine ⟨hn, List.nodup_cons.mpr ⟨List.not_mem_nil, List.nodup_nil⟩, fun a ha b hb => ?_⟩
    rw [List.map_cons, List.map_nil, List.mem_singleton] at hb
    exact fun z => h (by rw [z, hb] at ha; exact ha)
theorem dputAll_mem {S β : Type} [DecidableEq S] {k : S} : ∀ (ps D : List (S × β)), k ∈ (dputAll D ps).map (·.1) ↔ k ∈ D.map (·.1) ∨ k ∈ ps.map (·.1)
  | [], D => by show k ∈ D.map _ ↔ _; simp
  | p :: ps, D => by
    show k ∈ (dputAll (dput D p.1 p.2) ps).map _ ↔ _
    rw [dputAll_mem ps, dput_mem, List.map_cons, List.mem_cons, or_assoc]
theorem dputAll_nd {S β : Type} [DecidableEq S] : ∀ (ps D : List (S × β)), (D.map (·.1)).Nodup → ((dputAll D ps).map (·.1)).Nodup
  | [], D, h => h
  | p :: ps, D, h => dputAll_nd ps _ (dput_nd h)
theorem dputAll_len {S β : Type} [DecidableEq S] : ∀ (ps D : List (S × β)), (dputAll D ps).length ≤ D.length + ps.length
  | [], D => Nat.le_refl _
  | p :: ps, D => by
    have h1 := dputAll_len ps (dput D p.1 p.2)
    have h2 := dput_len D p.1 p.2
    show (dputAll (dput D p.1 p.2) ps).length ≤ _
    rw [List.length_cons]
    omega
theorem sortI_ssort {l m : List Int} (hn : l.Nodup) (h : ∀ k, k ∈ l ↔ k ∈ m) : sortI l = ssort m := by
  have hp := sortI_perm l
  refine (ssort_uniq ?_ fun k => ?_).symm
  · have h1 : (sortI l).Pairwise (· ≤ ·) := sortI_sorted l
    have h2 : (sortI l).Nodup := hp.nodup_iff.mpr hn
    exact (h1.and h2).imp fun ⟨a, b⟩ => by omega
  · rw [hp.mem_iff]
    exact h k
/-- the first row that is no pattern -/
def badP (w : Nat) : Nat → List Rw → Option Nat
  | _, [] => none
  | s, q :: l => if isPB w q.1 = true then badP w (s + 1) l else some s
/-- the first that is not above the one ahead -/
def badO : Nat → Rw → List Rw → Option Nat
  | _, _, [] => none
  | s, p, q :: l => if ltD p.1 q.1 = true then badO (s + 1) q l else some s
def badO' : List Rw → Option Nat
  | [] => none
  | p :: l => badO 1 p l
theorem badP_none {w : Nat} : ∀ {s : Nat} {l : List Rw}, badP w s l = none ↔ ∀ q ∈ l, IsPat w q.1
  | s, [] => ⟨fun _ q hq => absurd hq List.not_mem_nil, fun _ => rfl⟩
  | s, q :: l => by
    unfold badP
    by_cases h : isPB w q.1 = true
    · rw [if_pos h, badP_none]
      exact ⟨fun k z hz => (List.mem_cons.mp hz).elim (fun e => e ▸ isPB_is h) (k z), fun k z hz => k z (List.mem_cons_of_mem _ hz)⟩
    · rw [if_neg h]
      refine ⟨fun z => ?_, fun k => absurd (isPB_pat (k q (List.mem_cons_self ..))) h⟩
      cases z
theorem badO_rise : ∀ {s : Nat} {p : Rw} {l : List Rw}, (p :: l).Pairwise (fun p q => tl p.1 < tl q.1) → badO s p l = none
  | s, p, [], _ => rfl
  | s, p, q :: l, h => by
    unfold badO
    have h1 := (List.pairwise_cons.mp h).1 q (List.mem_cons_self ..)
    have h2 : ltD p.1 q.1 = true := (PySem.W.dataLt_str _ _).trans (decide_eq_true h1)
    rw [if_pos h2]
    exact badO_rise (List.pairwise_cons.mp h).2
theorem badO'_rise {l : List Rw} (h : l.Pairwise (fun p q => tl p.1 < tl q.1)) : badO' l = none := by
  cases l with
  | nil => rfl
  | cons p l => exact badO_rise h
def edgL (w : Nat) (sp ps : List Pt) : List Int := (ssort ([0] ++ sp.map (·.a) ++ sp.map (·.b) ++ ps.map (·.a))).filter fun x => decide (x < ((2 ^ w : Nat) : Int))
theorem mem_edgL {w : Nat} {sp ps : List Pt} {x : Int} : x ∈ edgL w sp ps ↔ (x = 0 ∨ (∃ e ∈ sp, e.a = x) ∨ (∃ e ∈ sp, e.b = x) ∨ ∃ p ∈ ps, p.a = x) ∧ x < ((2 ^ w : Nat) : Int) := by
  unfold edgL
  rw [List.mem_filter, ssort_mem, decide_eq_true_eq, List.mem_append, List.mem_append, List.mem_append, List.mem_singleton, List.mem_map, List.mem_map, List.mem_map, or_assoc, or_assoc]
theorem edgL_in {w : Nat} {R : List Rw} {ps : List Pt} {t : Int} (hc : Cn 0 t ps) {x : Int} (hx : x ∈ edgL w (R.map (sp3 w)) ps) : 0 ≤ x ∧ x < ((2 ^ w : Nat) : Int) := by
  obtain ⟨h1, h2⟩ := mem_edgL.mp hx
  refine ⟨?_, h2⟩
  have hpos : ∀ e ∈ R.map (sp3 w), 0 ≤ e.a ∧ 0 ≤ e.b := fun e he => by
    obtain ⟨q, _, rfl⟩ := List.mem_map.mp he
    exact ⟨Int.natCast_nonneg _, Int.natCast_nonneg _⟩
  rcases h1 with rfl | ⟨e, he, rfl⟩ | ⟨e, he, rfl⟩ | ⟨p, hp, rfl⟩
  · exact Int.le_refl _
  · exact (hpos e he).1
  · exact (hpos e he).2
  · exact (hc.los p hp).1
/-- what a table tells -/
def tellR (w : Nat) (R : List Rw) (x : Int) : Option Int := (atF x (R.map (sp3 w)) none 2147483648).1
def faultS (w : Nat) (R : List Rw) (ps : List Pt) (g : Int → Option Int) : Flt_ :=
  match badP w 0 R with
  | some k => some (.inl ("pattern", (k : Int)))
  | none =>
    match badO' R with
    | some k => some (.inl ("order", (k : Int)))
    | none =>
      match (edgL w (R.map (sp3 w)) ps).find? fun x => !eqD (tellR w R x) (g x) with
      | some x => some (.inl ("address", x))
      | none => if (tabT w g).length < R.length then some (.inr (T1.mk "more")) else none
theorem faultS_right {w : Nat} {R : List Rw} {ps : List Pt} {g : Int → Option Int} {t : Int} (hc : Cn 0 t ps) (hp : ∀ q ∈ R, IsPat w q.1) (hr : R.Pairwise fun p q => tl p.1 < tl q.1) (ht : ∀ x, 0 ≤ x → x < ((2 ^ w : Nat) : Int) → tellR w R x = g x) :
    faultS w R ps g = if (tabT w g).length < R.length then some (.inr (T1.mk "more")) else none := by
  have h1 : (edgL w (R.map (sp3 w)) ps).find? (fun x => !eqD (tellR w R x) (g x)) = none := List.find?_eq_none.mpr fun x hx => by
    obtain ⟨h0, h1⟩ := edgL_in hc hx
    rw [ht x h0 h1, eqD_refl]
    decide
  unfold faultS
  rw [badP_none.mpr hp, badO'_rise hr, h1]
theorem tabT_tell {w : Nat} {g : Int → Option Int} (hw : w ≤ 30) (x : Int) (h0 : 0 ≤ x) (h1 : x < ((2 ^ w : Nat) : Int)) : tellR w (tabT w g) x = g x := by
  have hpw : (2 : Nat) ^ w ≤ 2 ^ 30 := Nat.pow_le_pow_right (by decide) hw
  obtain ⟨l', e⟩ := tabT_at (g := g) (l := 2147483648) h0 h1 (by omega)
  unfold tellR
  rw [e]
theorem faultS_tab {w : Nat} {ps : List Pt} {g : Int → Option Int} {t : Int} (hw : w ≤ 30) (hc : Cn 0 t ps) : faultS w (tabT w g) ps g = none := by
  rw [faultS_right hc (fun q hq => tabT_pat q hq) tabT_rise (tabT_tell hw), if_neg (Nat.lt_irrefl _)]
theorem rangeL_s (s n : Nat) : rangeL ((s : Nat) : Int) (n + 1) = ((s : Nat) : Int) :: rangeL ((s + 1 : Nat) : Int) n := by
  unfold rangeL
  rw [List.range_succ_eq_map, List.map_cons, List.map_map]
  have hz : (s : Int) + ((0 : Nat) : Int) = (s : Nat) := by omega
  rw [hz]
  refine congrArg (List.cons _) (List.map_congr_left fun k _ => ?_)
  simp only [Function.comp]
  omega
/-- the values of the parts that begin no later -/
def lastP (e : Int) (L : List Pt) : List (Option Int) := (L.filter fun p => decide (p.a ≤ e)).map (·.c)
theorem lastP_at {e : Int} : ∀ {s t : Int} {L : List Pt} {g : Int → Option Int}, Cn s t L → VP g L → s ≤ e → e < t → atI (lastP e L) (-(1 : Int)) = some (g e)
  | s, t, [], g, h, _, h0, h1 => by
    have h : s = t := h
    omega
  | s, t, p :: l, g, h, hv, h0, h1 => by
    have hpa := h.1
    have e1 : lastP e (p :: l) = p.c :: lastP e l := by
      unfold lastP
      rw [List.filter_cons, if_pos (by rw [decide_eq_true_eq]; omega), List.map_cons]
    rw [e1]
    have hv' : VP g l := fun q hq => hv q (List.mem_cons_of_mem _ hq)
    by_cases hb : e < p.b
    · have e0 : lastP e l = [] := by
        unfold lastP
        rw [List.filter_eq_nil_iff.mpr fun q hq => ?_]
        · rfl
        · have := h.2.2.los q hq
          rw [decide_eq_true_eq]
          omega
      rw [e0]
      have := atI_last ([] : List (Option Int)) p.c
      rw [List.nil_append] at this
      rw [this, hv p (List.mem_cons_self ..) e (by omega) hb]
    · have ih := lastP_at (g := g) h.2.2 hv' (by omega) h1
      generalize hz : lastP e l = z at ih
      rcases List.eq_nil_or_concat z with hn | ⟨z', c, hn⟩
      · rw [hn] at ih
        cases ih
      · rw [hn, List.concat_eq_append] at ih ⊢
        rw [atI_last] at ih
        rw [← List.cons_append, atI_last]
        exact ih
def TxL (n : Nat) (R : List Rw) : Prop := ∀ q ∈ R, (tl q.1).length ≤ n
theorem TxL.mono {n m : Nat} {R : List Rw} (h : TxL n R) (k : n ≤ m) : TxL m R := fun q hq => Nat.le_trans (h q hq) k
theorem TxL.app {n : Nat} {A B : List Rw} (a : TxL n A) (b : TxL n B) : TxL n (A ++ B) := fun q hq => (List.mem_append.mp hq).elim (a q) (b q)
theorem TxL.cut {n : Nat} {A : List Rw} (a : TxL n A) (lo hi : Option Int) : TxL n (cutL A lo hi) := fun q hq => a q (mem_cutL hq)
end G
/-! My base, plain part 18: halves, a sign more, covers. -/
namespace G
open PySem PySem.Spec PyProof.Rows L2 TL
theorem fT_shift {g g' : Int → Option Int} {d : Int} : ∀ (n : Nat) (f : Int), (∀ x, f ≤ x → x < f + ((2 ^ n : Nat) : Int) → g' (x + d) = g x) → fT n (f + d) g' = fT n f g
  | 0, f, h => by
    unfold fT
    rw [h f (Int.le_refl _) (by omega)]
  | n + 1, f, h => by
    have he := pow_s n
    have hp : 0 < 2 ^ n := Nat.two_pow_pos n
    have e2 : f + d + ((2 ^ n : Nat) : Int) = (f + ((2 ^ n : Nat) : Int)) + d := by omega
    show TrD.node _ _ _ = TrD.node _ _ _
    rw [e2, fT_shift n f fun x h0 h1 => h x h0 (by omega), fT_shift n (f + ((2 ^ n : Nat) : Int)) fun x h0 h1 => h x (by omega) (by omega)]
/-! ### the rows told from another value above -/
theorem rowsT_kids {w : Nat} {g : Int → Option Int} {n : Nat} {f : Int} {beg : Str} {ab : Option Int} {x l : Int} (hb : Bits (tl beg)) (hl : (tl beg).length + (n + 1) = w) (hf : f = ((wr (tl beg) * 2 ^ (n + 1) : Nat) : Int)) (h0 : f ≤ x) (h1 : x < f + ((2 ^ (n + 1) : Nat) : Int)) (h2 : ((2 ^ n : Nat) : Int) < l) :
    ∃ l', atF x ((rowsT (w : Nat) (fT n f g) (beg ++ sgn 48) ab ++ rowsT (w : Nat) (fT n (f + ((2 ^ n : Nat) : Int)) g) (beg ++ sgn 49) ab).map (sp3 w)) ab l = (g x, l') := by
  have hp : 0 < 2 ^ n := Nat.two_pow_pos n
  have hps := pow_s n
  rw [List.map_append, atF_app]
  have b0 := beg_bits (c := 48) hb (by decide)
  have b1 := beg_bits (c := 49) hb (by decide)
  have i0 := rowsT_in (w := w) (g := g) n f (beg ++ sgn 48) ab b0 (by rw [beg_len]; omega) (by rw [wr_beg.1]; exact hf)
  have i1 := rowsT_in (w := w) (g := g) n (f + ((2 ^ n : Nat) : Int)) (beg ++ sgn 49) ab b1 (by rw [beg_len]; omega) (by rw [wr_beg.2, hf])
  by_cases hx : x < f + ((2 ^ n : Nat) : Int)
  · obtain ⟨l2, e2⟩ := rowsT_at (w := w) (g := g) n f (beg ++ sgn 48) ab x l b0 (by rw [beg_len]; omega) (by rw [wr_beg.1]; exact hf) h0 hx h2
    rw [e2, atF_off fun z hz => by have := i1 z hz; omega]
    exact ⟨l2, rfl⟩
  · obtain ⟨l2, e2⟩ := rowsT_at (w := w) (g := g) n (f + ((2 ^ n : Nat) : Int)) (beg ++ sgn 49) ab x l b1 (by rw [beg_len]; omega) (by rw [wr_beg.2, hf]) (by omega) (by omega) h2
    rw [atF_off (L := (rowsT (w : Nat) (fT n f g) (beg ++ sgn 48) ab).map (sp3 w)) fun z hz => by have := i0 z hz; omega]
    exact ⟨l2, e2⟩
theorem head_at2 {w n : Nat} {ks : List (Option Int)} {beg : Str} {ab u : Option Int} {f x l : Int} (hb : Bits (tl beg)) (hl : (tl beg).length + n = w) (hf : f = ((wr (tl beg) * 2 ^ n : Nat) : Int)) (h0 : f ≤ x) (h1 : x < f + ((2 ^ n : Nat) : Int)) (h2 : (u = ab ∧ ab ∈ ks ∧ ((2 ^ n : Nat) : Int) ≤ l) ∨ (((2 ^ n : Nat) : Int) < l ∧ ab ∉ ks)) :
    ∃ l', atF x ((headT (w : Nat) ks beg ab).map (sp3 w)) u l = (abN ks ab, l') ∧ ((2 ^ n : Nat) : Int) ≤ l' := by
  unfold abN
  rcases h2 with ⟨rfl, hm, h3⟩ | ⟨h2, hm⟩
  · rw [if_pos hm, headT_in _ beg hm]
    exact ⟨l, rfl, h3⟩
  · rw [if_neg hm]
    have e : headT ((w : Nat) : Int) ks beg ab = [(beg ++ Txt.mul ("*" : Str) (toI (decide (((beg.length : Nat) : Int) < ((w : Nat) : Int)))), chN ks)] := if_neg hm
    have hp := headT_pat (w := w) (ks := ks) (ab := ab) hb (by omega) _ (by rw [e]; exact List.mem_singleton.mpr rfl)
    rw [e, List.map_cons, List.map_nil, sp3_pat (n := n) hp.1 hl, ← hf]
    unfold atF
    rw [if_pos]
    · exact ⟨_, rfl, by show _ ≤ f + ((2 ^ n : Nat) : Int) - f; omega⟩
    · show (decide (f ≤ x) && (decide (x < f + ((2 ^ n : Nat) : Int)) && decide (f + ((2 ^ n : Nat) : Int) - f < l))) = true
      rw [decide_eq_true h0, decide_eq_true h1, decide_eq_true (by omega)]
      rfl
theorem rowsT_at2 {w : Nat} {g : Int → Option Int} (n : Nat) (f : Int) (beg : Str) (ab u : Option Int) (x l : Int) (hb : Bits (tl beg)) (hl : (tl beg).length + n = w) (hf : f = ((wr (tl beg) * 2 ^ n : Nat) : Int)) (h0 : f ≤ x) (h1 : x < f + ((2 ^ n : Nat) : Int)) (h2 : (u = ab ∧ ab ∈ (fT n f g).ks ∧ ((2 ^ n : Nat) : Int) ≤ l) ∨ (((2 ^ n : Nat) : Int) < l ∧ ab ∉ (fT n f g).ks)) :
    ∃ l', atF x ((rowsT (w : Nat) (fT n f g) beg ab).map (sp3 w)) u l = (g x, l') := by
  obtain ⟨l', e, h3⟩ := head_at2 hb hl hf h0 h1 h2
  cases n with
  | zero =>
    have hx : x = f := by
      have h1 : x < f + 1 := h1
      omega
    subst hx
    refine ⟨l', ?_⟩
    show atF x ((headT (w : Nat) [g x] beg ab).map (sp3 w)) u l = _
    have e2 : abN (fT 0 x g).ks ab = g x := abN_one _ _
    rw [e2] at e
    exact e
  | succ n =>
    have hp : 0 < 2 ^ n := Nat.two_pow_pos n
    have hps := pow_s n
    have er : (rowsT (w : Nat) (fT (n + 1) f g) beg ab).map (sp3 w) = (headT (w : Nat) (fT (n + 1) f g).ks beg ab).map (sp3 w) ++ (rowsT (w : Nat) (fT n f g) (beg ++ sgn 48) (abN (fT (n + 1) f g).ks ab) ++ rowsT (w : Nat) (fT n (f + ((2 ^ n : Nat) : Int)) g) (beg ++ sgn 49) (abN (fT (n + 1) f g).ks ab)).map (sp3 w) := by
      rw [← List.map_append]
      rfl
    rw [er, atF_app, e]
    exact rowsT_kids hb hl hf h0 h1 (by omega)
/-! ### a sign ahead, taken off -/
def drR (q : Rw) : Rw := (cutS q.1 (some (1 : Int)) none, q.2)
theorem tl_cut1 (x : Str) : tl (cutS x (some (1 : Int)) none) = (tl x).drop 1 := by
  rw [tl_cut, sIx_n]
  have e : HT.sIx (tl x).length 0 (some (1 : Int)) = min 1 (tl x).length := by
    show (if (1 : Int) < 0 then ((1 : Int) + (((tl x).length : Nat) : Int)).toNat else min (1 : Int).toNat (tl x).length) = _
    rw [if_neg (by decide)]
    rfl
  rw [e]
  by_cases h : (tl x).length = 0
  · have : tl x = [] := List.eq_nil_of_length_eq_zero h
    rw [this]
    rfl
  · rw [show min 1 (tl x).length = 1 by omega]
    exact List.take_of_length_le (by rw [List.length_drop]; omega)
theorem tl_to1 (x : Str) : tl (cutS x none (some (1 : Int))) = (tl x).take 1 := by
  rw [tl_cut, sIx_n, List.drop_zero, Nat.sub_zero]
  have e : HT.sIx (tl x).length (tl x).length (some (1 : Int)) = min 1 (tl x).length := by
    show (if (1 : Int) < 0 then ((1 : Int) + (((tl x).length : Nat) : Int)).toNat else min (1 : Int).toNat (tl x).length) = _
    rw [if_neg (by decide)]
    rfl
  rw [e]
  by_cases h : (tl x).length = 0
  · have : tl x = [] := List.eq_nil_of_length_eq_zero h
    rw [this]
    rfl
  · rw [show min 1 (tl x).length = 1 by omega]
theorem headT_drop {w : Nat} {ks : List (Option Int)} {beg beg' : Str} {ab : Option Int} {c : Nat} (h : tl beg' = c :: tl beg) : (headT ((w + 1 : Nat) : Int) ks beg' ab).map drR = headT (w : Nat) ks beg ab := by
  unfold headT
  by_cases hm : ab ∈ ks
  · rw [if_pos hm, if_pos hm]
    rfl
  · rw [if_neg hm, if_neg hm, List.map_cons, List.map_nil]
    have e : cutS (beg' ++ Txt.mul ("*" : Str) (toI (decide (((beg'.length : Nat) : Int) < ((w + 1 : Nat) : Int))))) (some (1 : Int)) none = beg ++ Txt.mul ("*" : Str) (toI (decide (((beg.length : Nat) : Int) < ((w : Nat) : Int)))) := tl_inj (by
      rw [tl_cut1, head_tl, head_tl, h]
      unfold patL
      rw [List.length_cons, List.cons_append, List.drop_succ_cons, List.drop_zero]
      congr 1
      by_cases hl : (tl beg).length < w
      · rw [if_pos hl, if_pos (by omega)]
      · rw [if_neg hl, if_neg (by omega)])
    unfold drR
    rw [e]
theorem rowsT_drop {w : Nat} : ∀ (t : TrD) (beg beg' : Str) (ab : Option Int) (c : Nat), tl beg' = c :: tl beg → (rowsT ((w + 1 : Nat) : Int) t beg' ab).map drR = rowsT (w : Nat) t beg ab
  | .leaf ks, beg, beg', ab, c, h => headT_drop h
  | .node ks l r, beg, beg', ab, c, h => by
    show (headT ((w + 1 : Nat) : Int) ks beg' ab ++ (rowsT ((w + 1 : Nat) : Int) l (beg' ++ sgn 48) (abN ks ab) ++ rowsT ((w + 1 : Nat) : Int) r (beg' ++ sgn 49) (abN ks ab))).map drR = headT (w : Nat) ks beg ab ++ (rowsT (w : Nat) l (beg ++ sgn 48) (abN ks ab) ++ rowsT (w : Nat) r (beg ++ sgn 49) (abN ks ab))
    rw [List.map_append, List.map_append, headT_drop h, rowsT_drop l (beg ++ sgn 48) (beg' ++ sgn 48) _ c (by rw [tl_append, tl_append, h, List.cons_append]), rowsT_drop r (beg ++ sgn 49) (beg' ++ sgn 49) _ c (by rw [tl_append, tl_append, h, List.cons_append])]
/-! ### a sign more behind -/
def lngR (q : Rw) : Rw := (strike q.1 42 ++ ("*" : Str), q.2)
theorem headT_lng {w : Nat} {ks : List (Option Int)} {beg : Str} {ab : Option Int} (hb : Bits (tl beg)) (hl : (tl beg).length ≤ w) : (headT (w : Nat) ks beg ab).map lngR = headT ((w + 1 : Nat) : Int) ks beg ab := by
  unfold headT
  by_cases hm : ab ∈ ks
  · rw [if_pos hm, if_pos hm]
    rfl
  · rw [if_neg hm, if_neg hm, List.map_cons, List.map_nil]
    have e : strike (beg ++ Txt.mul ("*" : Str) (toI (decide (((beg.length : Nat) : Int) < ((w : Nat) : Int))))) 42 ++ ("*" : Str) = beg ++ Txt.mul ("*" : Str) (toI (decide (((beg.length : Nat) : Int) < ((w + 1 : Nat) : Int)))) := tl_inj (by
      have hs : (patL w (tl beg)).filter (· != 42) = tl beg := by
        have := bitsS_pat (w := w) (bs := tl beg) (x := beg ++ Txt.mul ("*" : Str) (toI (decide (((beg.length : Nat) : Int) < ((w : Nat) : Int))))) ⟨hb, hl, head_tl w beg⟩
        unfold bitsS at this
        rw [head_tl] at this
        exact this
      rw [tl_append, strike_tl, head_tl, head_tl, hs, tlStar]
      unfold patL
      rw [if_pos (by omega)])
    unfold lngR
    rw [e]
theorem rowsT_dbl {w : Nat} {g g' : Int → Option Int} : ∀ (n : Nat) (f : Int) (beg : Str) (ab : Option Int), Bits (tl beg) → (tl beg).length + n = w → (∀ x, f ≤ x → x < f + ((2 ^ n : Nat) : Int) → g' (2 * x) = g x ∧ g' (2 * x + 1) = g x) →
    (fT (n + 1) (2 * f) g').ks = (fT n f g).ks ∧ rowsT ((w + 1 : Nat) : Int) (fT (n + 1) (2 * f) g') beg ab = (rowsT (w : Nat) (fT n f g) beg ab).map lngR
  | 0, f, beg, ab, hb, hl, h => by
    obtain ⟨h1, h2⟩ := h f (Int.le_refl _) (by omega)
    obtain ⟨k1, k2⟩ := fT_const ((w + 1 : Nat) : Int) (g := g') (c := g f) 1 (2 * f) fun x x0 x1 => by
      have x1 : x < 2 * f + 2 := x1
      by_cases hx : x = 2 * f
      · rw [hx, h1]
      · rw [show x = 2 * f + 1 by omega, h2]
    refine ⟨k1, ?_⟩
    rw [k2]
    exact (headT_lng hb (by omega)).symm
  | n + 1, f, beg, ab, hb, hl, h => by
    have hps := pow_s n
    have hps2 := pow_s (n + 1)
    have hp : 0 < 2 ^ n := Nat.two_pow_pos n
    have e2 : 2 * f + ((2 ^ (n + 1) : Nat) : Int) = 2 * (f + ((2 ^ n : Nat) : Int)) := by omega
    have i1 := fun ab' => rowsT_dbl (w := w) (g := g) (g' := g') n f (beg ++ sgn 48) ab' (beg_bits hb (by decide)) (by rw [beg_len]; omega) fun x h0 h1 => h x h0 (by omega)
    have i2 := fun ab' => rowsT_dbl (w := w) (g := g) (g' := g') n (f + ((2 ^ n : Nat) : Int)) (beg ++ sgn 49) ab' (beg_bits hb (by decide)) (by rw [beg_len]; omega) fun x h0 h1 => h x (by omega) (by omega)
    have ek : (fT (n + 1 + 1) (2 * f) g').ks = (fT (n + 1) f g).ks := by
      show mixN (fT (n + 1) (2 * f) g').ks (fT (n + 1) (2 * f + ((2 ^ (n + 1) : Nat) : Int)) g').ks = mixN _ _
      rw [e2, (i1 none).1, (i2 none).1]
    refine ⟨ek, ?_⟩
    show headT ((w + 1 : Nat) : Int) (fT (n + 1 + 1) (2 * f) g').ks beg ab ++ (rowsT ((w + 1 : Nat) : Int) (fT (n + 1) (2 * f) g') (beg ++ sgn 48) (abN (fT (n + 1 + 1) (2 * f) g').ks ab) ++ rowsT ((w + 1 : Nat) : Int) (fT (n + 1) (2 * f + ((2 ^ (n + 1) : Nat) : Int)) g') (beg ++ sgn 49) (abN (fT (n + 1 + 1) (2 * f) g').ks ab)) =
      (headT (w : Nat) (fT (n + 1) f g).ks beg ab ++ (rowsT (w : Nat) (fT n f g) (beg ++ sgn 48) (abN (fT (n + 1) f g).ks ab) ++ rowsT (w : Nat) (fT n (f + ((2 ^ n : Nat) : Int)) g) (beg ++ sgn 49) (abN (fT (n + 1) f g).ks ab))).map lngR
    rw [ek, e2, (i1 _).2, (i2 _).2, List.map_append, List.map_append, headT_lng hb (by omega)]
theorem tabT_dbl {w : Nat} {g g' : Int → Option Int} (h : ∀ x, 0 ≤ x → x < ((2 ^ w : Nat) : Int) → g' (2 * x) = g x ∧ g' (2 * x + 1) = g x) : tabT (w + 1) g' = (tabT w g).map lngR :=
  (rowsT_dbl w 0 ("" : Str) none (by rw [tl_empty]; exact Bits.nil) (by rw [tl_empty]; exact Nat.zero_add _) fun x h0 h1 => h x h0 (by omega)).2
/-! ### the values in rows -/
theorem fT_ks {g : Int → Option Int} : ∀ (n : Nat) (f : Int), ∀ v ∈ (fT n f g).ks, ∃ x, f ≤ x ∧ x < f + ((2 ^ n : Nat) : Int) ∧ g x = v
  | 0, f, v, hv => ⟨f, Int.le_refl _, by omega, (List.mem_singleton.mp hv).symm⟩
  | n + 1, f, v, hv => by
    have hps := pow_s n
    have hp : 0 < 2 ^ n := Nat.two_pow_pos n
    have hv : v ∈ mixN (fT n f g).ks (fT n (f + ((2 ^ n : Nat) : Int)) g).ks := hv
    have h : v ∈ (fT n f g).ks ∨ v ∈ (fT n (f + ((2 ^ n : Nat) : Int)) g).ks := by
      rcases mixN_or (fT n f g).ks (fT n (f + ((2 ^ n : Nat) : Int)) g).ks with ⟨_, h2⟩ | ⟨_, h2⟩
      · exact .inl ((h2 v).mp hv).1
      · exact (h2 v).mp hv
    rcases h with h | h
    · obtain ⟨x, h0, h1, e⟩ := fT_ks n f v h
      exact ⟨x, h0, by omega, e⟩
    · obtain ⟨x, h0, h1, e⟩ := fT_ks n _ v h
      exact ⟨x, by omega, by omega, e⟩
theorem rowsT_vals {w : Int} {g : Int → Option Int} : ∀ (n : Nat) (f : Int) (beg : Str) (ab : Option Int), ∀ q ∈ rowsT w (fT n f g) beg ab, ∃ x, f ≤ x ∧ x < f + ((2 ^ n : Nat) : Int) ∧ g x = q.2 := by
  have hh : ∀ (n : Nat) (f : Int) (beg : Str) (ab : Option Int), ∀ q ∈ headT w (fT n f g).ks beg ab, ∃ x, f ≤ x ∧ x < f + ((2 ^ n : Nat) : Int) ∧ g x = q.2 := fun n f beg ab q hq => by
    unfold headT at hq
    split at hq
    · exact absurd hq List.not_mem_nil
    · rw [List.mem_singleton.mp hq]
      exact fT_ks n f _ (chN_mem (fT_Mx n f g).ne)
  intro n
  induction n with
  | zero => exact fun f beg ab q hq => hh 0 f beg ab q hq
  | succ n ih =>
    intro f beg ab q hq
    have hps := pow_s n
    have hp : 0 < 2 ^ n := Nat.two_pow_pos n
    have hq : q ∈ headT w (fT (n + 1) f g).ks beg ab ++ (rowsT w (fT n f g) (beg ++ sgn 48) (abN (fT (n + 1) f g).ks ab) ++ rowsT w (fT n (f + ((2 ^ n : Nat) : Int)) g) (beg ++ sgn 49) (abN (fT (n + 1) f g).ks ab)) := hq
    rcases List.mem_append.mp hq with hq | hq
    · exact hh (n + 1) f beg ab q hq
    · rcases List.mem_append.mp hq with hq | hq
      · obtain ⟨x, h0, h1, e⟩ := ih f _ _ q hq
        exact ⟨x, h0, by omega, e⟩
      · obtain ⟨x, h0, h1, e⟩ := ih _ _ _ q hq
        exact ⟨x, by omega, by omega, e⟩
/-! ### covers -/
theorem cN_const' {g : Int → Option Int} {c : Option Int} {n : Nat} {f : Int} (h : ∀ x, f ≤ x → x < f + ((2 ^ n : Nat) : Int) → g x = c) (a : Option Int) : cN n f g a = oneN [c] a := by
  have := (fT_const 0 n f h).2 ("" : Str) a
  have e := congrArg List.length this
  rw [rowsT_len, headT_len] at e
  exact e
theorem can_cost {S : List (Int × Int)} (hS : Rise S) {g : Int → Option Int} {z : Int} {lo hi : Int} (hg : ∀ x, lo ≤ x → x < hi → (ct S x (x + 1) = 0 ∧ g x = none) ∨ (ct S x (x + 1) = 1 ∧ g x = some z)) :
    ∀ (j : Nat) (a : Int) (bs : List Nat), lo ≤ a → a + H2 j ≤ hi → cN j a g none ≤ (can S j a bs).length
  | 0, a, bs, h0, h1 => by
    have h1 : a + 1 ≤ hi := h1
    have e : cN 0 a g none = oneN [g a] none := rfl
    unfold can
    rw [e]
    rcases hg a h0 (by omega) with ⟨h2, h3⟩ | ⟨h2, h3⟩
    · rw [h3, oneN_in (List.mem_singleton.mpr rfl)]
      exact Nat.zero_le _
    · have h2' : ¬ ct S a (a + H2 0) = 0 := by
        show ¬ ct S a (a + 1) = 0
        omega
      rw [if_neg h2']
      exact oneN_le _ _
  | j + 1, a, bs, h0, h1 => by
    have hp := H2_pos j
    have hs := H2_succ j
    have hpw : ((2 ^ (j + 1) : Nat) : Int) = H2 (j + 1) := rfl
    by_cases c0 : ct S a (a + H2 (j + 1)) = 0
    · rw [cN_const' (c := none) (fun x x0 x1 => ?_), oneN_in (List.mem_singleton.mpr rfl)]
      · exact Nat.zero_le _
      · rcases hg x (by omega) (by omega) with ⟨_, h3⟩ | ⟨h2, _⟩
        · exact h3
        · have k1 := ct_cut hS (a := a) (m := x) (e := a + H2 (j + 1)) x0 (by omega)
          have k2 := ct_cut hS (a := x) (m := x + 1) (e := a + H2 (j + 1)) (by omega) (by omega)
          have n1 := ct_nn S a x
          have n2 := ct_nn S (x + 1) (a + H2 (j + 1))
          omega
    · by_cases c1 : ct S a (a + H2 (j + 1)) = H2 (j + 1)
      · rw [can_full c1, cN_const' (c := some z) (fun x x0 x1 => ?_)]
        · exact oneN_le _ _
        · rcases hg x (by omega) (by omega) with ⟨h2, _⟩ | ⟨_, h3⟩
          · have k1 := ct_cut hS (a := a) (m := x) (e := a + H2 (j + 1)) x0 (by omega)
            have k2 := ct_cut hS (a := x) (m := x + 1) (e := a + H2 (j + 1)) (by omega) (by omega)
            have n1 := ct_le hS (a := a) (e := x) x0
            have n2 := ct_le hS (a := x + 1) (e := a + H2 (j + 1)) (by omega)
            omega
          · exact h3
      · rw [can_part c0 c1, List.length_append]
        have i1 := can_cost hS hg j a (bs ++ [48]) h0 (by omega)
        have i2 := can_cost hS hg j (a + H2 j) (bs ++ [49]) (by omega) (by omega)
        have h3 := cN_le1 (n := j) (f := a) (g := g) none
        have e : a + ((2 ^ j : Nat) : Int) = a + H2 j := rfl
        rw [e] at h3
        omega
end G
/-! My base, plain part 19: no table that tells the same has fewer rows; the narrowest span. -/
namespace G
open PySem PySem.Spec PyProof.Rows L2 TL
abbrev Ris (R : List Rw) : Prop := R.Pairwise fun p q => tl p.1 < tl q.1
theorem pat_span {w n : Nat} {u s : List Nat} {q : Rw} (p : Pat w (u ++ s) q.1) (hl : u.length + n = w) : ((wr u * 2 ^ n : Nat) : Int) ≤ (sp3 w q).a ∧ (sp3 w q).a < (sp3 w q).b ∧ (sp3 w q).b ≤ ((wr u * 2 ^ n : Nat) : Int) + ((2 ^ n : Nat) : Int) := by
  have hle := p.le
  rw [List.length_append] at hle
  obtain ⟨k, hk⟩ : ∃ k, n = s.length + k := ⟨n - s.length, by omega⟩
  rw [sp3_pat (n := k) p (by rw [List.length_append]; omega), wr_app]
  have h1 := wr_lt s
  have hp : 0 < 2 ^ k := Nat.two_pow_pos k
  have e1 : wr u * 2 ^ n = wr u * 2 ^ s.length * 2 ^ k := by rw [hk, Nat.pow_add, Nat.mul_assoc]
  have e2 : 2 ^ n = 2 ^ s.length * 2 ^ k := by rw [hk, Nat.pow_add]
  have h2 : (wr s + 1) * 2 ^ k ≤ 2 ^ s.length * 2 ^ k := Nat.mul_le_mul_right _ h1
  rw [Nat.succ_mul] at h2
  rw [e1, e2, Nat.add_mul]
  show ((_ : Nat) : Int) ≤ ((_ : Nat) : Int) ∧ ((_ : Nat) : Int) < ((_ : Nat) : Int) + ((_ : Nat) : Int) ∧ ((_ : Nat) : Int) + ((_ : Nat) : Int) ≤ _
  omega
theorem pat_tl {w : Nat} {bs : List Nat} {c : Nat} {s : List Nat} {x : Str} (p : Pat w (bs ++ c :: s) x) : ∃ t, tl x = bs ++ c :: t := ⟨s ++ (if (bs ++ c :: s).length < w then [42] else []), by rw [p.eq, patL, List.append_assoc]; rfl⟩
theorem split3 {w : Nat} {bs : List Nat} (hl : bs.length < w) : ∀ R : List Rw, (∀ q ∈ R, ∃ s, Pat w (bs ++ s) q.1) → Ris R →
    ∃ H R1 R2, R = H ++ (R1 ++ R2) ∧ H.length ≤ 1 ∧ (∀ q ∈ H, Pat w bs q.1) ∧ (∀ q ∈ R1, ∃ s, Pat w (bs ++ [48] ++ s) q.1) ∧ (∀ q ∈ R2, ∃ s, Pat w (bs ++ [49] ++ s) q.1)
  | [], _, _ => ⟨[], [], [], rfl, Nat.zero_le _, fun q hq => absurd hq List.not_mem_nil, fun q hq => absurd hq List.not_mem_nil, fun q hq => absurd hq List.not_mem_nil⟩
  | q :: R, hp, hr => by
    obtain ⟨H, R1, R2, rfl, h1, h2, h3, h4⟩ := split3 hl R (fun z hz => hp z (List.mem_cons_of_mem _ hz)) (List.pairwise_cons.mp hr).2
    have hlt := (List.pairwise_cons.mp hr).1
    obtain ⟨s, p⟩ := hp q (List.mem_cons_self ..)
    have hH : ∀ h ∈ H, tl h.1 = bs ++ [42] := fun h hh => by rw [(h2 h hh).eq, patL, if_pos hl]
    have nolt : ∀ {a b : List Nat}, a < b → b < a → False := fun h k => List.lt_irrefl _ (List.lt_trans h k)
    cases s with
    | nil =>
      rw [List.append_nil] at p
      have hq : tl q.1 = bs ++ [42] := by rw [p.eq, patL, if_pos hl]
      cases H with
      | nil =>
        refine ⟨[q], R1, R2, rfl, Nat.le_refl _, fun z hz => ?_, h3, h4⟩
        rw [List.mem_singleton.mp hz]
        exact p
      | cons h H =>
        have := hlt h (List.mem_append_left _ (List.mem_cons_self ..))
        rw [hq, hH h (List.mem_cons_self ..)] at this
        exact absurd this (List.lt_irrefl _)
    | cons c s =>
      obtain ⟨t, ht⟩ := pat_tl p
      have hc : c = 48 ∨ c = 49 := isB_iff.mp (p.bits c (List.mem_append_right _ (List.mem_cons_self ..)))
      have hH0 : H = [] := by
        cases H with
        | nil => rfl
        | cons h H =>
          have := hlt h (List.mem_append_left _ (List.mem_cons_self ..))
          rw [ht, hH h (List.mem_cons_self ..)] at this
          exact (nolt this (lex_at (by omega) [] t bs)).elim
      subst hH0
      rcases hc with rfl | rfl
      · refine ⟨[], q :: R1, R2, rfl, Nat.zero_le _, fun q hq => absurd hq List.not_mem_nil, fun z hz => ?_, h4⟩
        rcases List.mem_cons.mp hz with rfl | hz
        · exact ⟨s, by rw [List.append_assoc]; exact p⟩
        · exact h3 z hz
      · have hR1 : R1 = [] := by
          cases R1 with
          | nil => rfl
          | cons h R1 =>
            have := hlt h (List.mem_append_right _ (List.mem_append_left _ (List.mem_cons_self ..)))
            obtain ⟨s', p'⟩ := h3 h (List.mem_cons_self ..)
            rw [List.append_assoc] at p'
            obtain ⟨t', ht'⟩ := pat_tl p'
            rw [ht, ht'] at this
            exact (nolt this (lex_at (by decide) t' t bs)).elim
        subst hR1
        refine ⟨[], [], q :: R2, rfl, Nat.zero_le _, fun q hq => absurd hq List.not_mem_nil, fun q hq => absurd hq List.not_mem_nil, fun z hz => ?_⟩
        rcases List.mem_cons.mp hz with rfl | hz
        · exact ⟨s, by rw [List.append_assoc]; exact p⟩
        · exact h4 z hz
def Dw (w : Nat) (g : Int → Option Int) (n : Nat) (f : Int) (a : Option Int) (R : List Rw) : Prop :=
  ∃ bs, Bits bs ∧ bs.length + n = w ∧ f = ((wr bs * 2 ^ n : Nat) : Int) ∧ (∀ q ∈ R, ∃ s, Pat w (bs ++ s) q.1) ∧ Ris R ∧ ∀ x, f ≤ x → x < f + ((2 ^ n : Nat) : Int) → ∃ l, ((2 ^ n : Nat) : Int) < l ∧ (atF x (R.map (sp3 w)) a l).1 = g x
theorem wr_b (bs : List Nat) (n : Nat) : ((wr (bs ++ [48]) * 2 ^ n : Nat) : Int) = ((wr bs * 2 ^ (n + 1) : Nat) : Int) ∧ ((wr (bs ++ [49]) * 2 ^ n : Nat) : Int) = ((wr bs * 2 ^ (n + 1) : Nat) : Int) + ((2 ^ n : Nat) : Int) := by
  have e : wr bs * 2 ^ (n + 1) = 2 * wr bs * 2 ^ n := by rw [Nat.pow_succ, Nat.mul_comm (2 ^ n) 2, ← Nat.mul_assoc, Nat.mul_comm _ 2]
  rw [wr_snoc, wr_snoc, if_neg (by decide), if_pos rfl, e, Nat.add_mul (2 * wr bs) 1, Nat.one_mul, Nat.add_zero]
  exact ⟨rfl, by omega⟩
theorem Dw.step {w : Nat} {g : Int → Option Int} {n : Nat} {f : Int} {a : Option Int} {R : List Rw} (h : Dw w g (n + 1) f a R) :
    ∃ b R1 R2, ((b = a ∧ R1.length + R2.length ≤ R.length) ∨ R1.length + R2.length + 1 ≤ R.length) ∧ Dw w g n f b R1 ∧ Dw w g n (f + ((2 ^ n : Nat) : Int)) b R2 := by
  obtain ⟨bs, hb, hl, hf, hp, hr, ht⟩ := h
  obtain ⟨H, R1, R2, rfl, h1, h2, h3, h4⟩ := split3 (w := w) (by omega) R hp hr
  have hps := pow_s n
  have hpos : 0 < 2 ^ n := Nat.two_pow_pos n
  have hr12 := (List.pairwise_append.mp hr).2.1
  have hr1 := (List.pairwise_append.mp hr12).1
  have hr2 := (List.pairwise_append.mp hr12).2.1
  have b1 : Bits (bs ++ [48]) := hb.app (Bits.one (by decide))
  have b2 : Bits (bs ++ [49]) := hb.app (Bits.one (by decide))
  have s1 : ∀ e ∈ R1.map (sp3 w), f ≤ e.a ∧ e.b ≤ f + ((2 ^ n : Nat) : Int) := fun e he => by
    obtain ⟨q, hq, rfl⟩ := List.mem_map.mp he
    obtain ⟨s, p⟩ := h3 q hq
    have := pat_span (n := n) p (by rw [List.length_append]; show bs.length + 1 + n = w; omega)
    rw [(wr_b bs n).1] at this
    omega
  have s2 : ∀ e ∈ R2.map (sp3 w), f + ((2 ^ n : Nat) : Int) ≤ e.a := fun e he => by
    obtain ⟨q, hq, rfl⟩ := List.mem_map.mp he
    obtain ⟨s, p⟩ := h4 q hq
    have := pat_span (n := n) p (by rw [List.length_append]; show bs.length + 1 + n = w; omega)
    rw [(wr_b bs n).2] at this
    omega
  -- what stands behind the head
  obtain ⟨b, hbl, hst⟩ : ∃ b, ((b = a ∧ R1.length + R2.length ≤ (H ++ (R1 ++ R2)).length) ∨ R1.length + R2.length + 1 ≤ (H ++ (R1 ++ R2)).length) ∧ ∀ x l, f ≤ x → x < f + ((2 ^ (n + 1) : Nat) : Int) → ((2 ^ (n + 1) : Nat) : Int) < l → ∃ l1, ((2 ^ n : Nat) : Int) < l1 ∧ atF x (H.map (sp3 w)) a l = (b, l1) := by
    match H, h1, h2 with
    | [], _, _ => exact ⟨a, .inl ⟨rfl, by simp⟩, fun x l _ _ hl => ⟨l, by omega, rfl⟩⟩
    | [h], _, h2 =>
      refine ⟨h.2, .inr (by simp), fun x l x0 x1 hl' => ⟨((2 ^ (n + 1) : Nat) : Int), by omega, ?_⟩⟩
      rw [List.map_cons, List.map_nil, sp3_pat (n := n + 1) (h2 h (List.mem_cons_self ..)) hl, ← hf]
      unfold atF
      rw [if_pos (by
        show (decide (f ≤ x) && (decide (x < f + ((2 ^ (n + 1) : Nat) : Int)) && decide (f + ((2 ^ (n + 1) : Nat) : Int) - f < l))) = true
        rw [decide_eq_true x0, decide_eq_true x1, decide_eq_true (by omega)]
        rfl)]
      show (h.2, f + ((2 ^ (n + 1) : Nat) : Int) - f) = _
      rw [show f + ((2 ^ (n + 1) : Nat) : Int) - f = ((2 ^ (n + 1) : Nat) : Int) by omega]
  refine ⟨b, R1, R2, hbl, ⟨bs ++ [48], b1, by rw [List.length_append]; show bs.length + 1 + n = w; omega, by rw [(wr_b bs n).1]; exact hf, h3, hr1, fun x x0 x1 => ?_⟩, ⟨bs ++ [49], b2, by rw [List.length_append]; show bs.length + 1 + n = w; omega, by rw [(wr_b bs n).2, hf], h4, hr2, fun x x0 x1 => ?_⟩⟩
  · obtain ⟨l, hl1, e⟩ := ht x x0 (by omega)
    obtain ⟨l1, hl2, e1⟩ := hst x l x0 (by omega) hl1
    rw [List.map_append, List.map_append, atF_app, e1, atF_app, atF_off (L := R2.map (sp3 w)) fun z hz => by have := s2 z hz; omega] at e
    exact ⟨l1, hl2, e⟩
  · obtain ⟨l, hl1, e⟩ := ht x (by omega) (by omega)
    obtain ⟨l1, hl2, e1⟩ := hst x l (by omega) (by omega) hl1
    rw [List.map_append, List.map_append, atF_app, e1, atF_app, atF_off (L := R1.map (sp3 w)) fun z hz => by have := s1 z hz; omega] at e
    exact ⟨l1, hl2, e⟩
theorem tab_least {w : Nat} (hw : w ≤ 30) {g : Int → Option Int} {R : List Rw} (hp : ∀ q ∈ R, IsPat w q.1) (hr : Ris R) (ht : ∀ x, 0 ≤ x → x < ((2 ^ w : Nat) : Int) → tellR w R x = g x) : (tabT w g).length ≤ R.length := by
  have hpw : (2 : Nat) ^ w ≤ 2 ^ 30 := Nat.pow_le_pow_right (by decide) hw
  rw [tabT_len]
  refine cN_low (ρ := Rw) (fun _ => []) (fun q => q.2) (g := g) (Dw w g) (fun f a R h => ?_) (fun n f a R h => h.step) w 0 none R ⟨[], Bits.nil, Nat.zero_add _, ?_, fun q hq => ?_, hr, fun x x0 x1 => ⟨2147483648, by omega, ht x x0 (by omega)⟩⟩
  · obtain ⟨bs, _, _, _, _, _, h⟩ := h
    cases R with
    | nil =>
      obtain ⟨l, _, e⟩ := h f (Int.le_refl _) (by show f < f + 1; omega)
      exact .inl e.symm
    | cons q R => exact .inr (by rw [List.length_cons]; omega)
  · show (0 : Int) = ((0 * 2 ^ w : Nat) : Int)
    rw [Nat.zero_mul]
    rfl
  · obtain ⟨bs, p⟩ := hp q hq
    exact ⟨bs, p⟩
/-! ### the narrowest span -/
def hasX (x : Int) (e : Pt) : Prop := e.a ≤ x ∧ x < e.b
theorem atF_spec (x : Int) : ∀ (L : List Pt) (v : Option Int) (l : Int), (atF x L v l = (v, l) ∧ ∀ e ∈ L, hasX x e → l ≤ e.b - e.a) ∨ (∃ e ∈ L, hasX x e ∧ e.b - e.a < l ∧ atF x L v l = (e.c, e.b - e.a) ∧ ∀ e' ∈ L, hasX x e' → e.b - e.a ≤ e'.b - e'.a)
  | [], v, l => .inl ⟨rfl, fun e he => absurd he List.not_mem_nil⟩
  | e :: L, v, l => by
    unfold atF
    by_cases h : ((decide (e.a ≤ x)) && ((decide (x < e.b)) && (decide ((e.b - e.a) < l)))) = true
    · rw [if_pos h]
      have k1 := of_decide_eq_true (Bool.and_eq_true_iff.mp h).1
      have k2 := of_decide_eq_true (Bool.and_eq_true_iff.mp (Bool.and_eq_true_iff.mp h).2).1
      have k3 := of_decide_eq_true (Bool.and_eq_true_iff.mp (Bool.and_eq_true_iff.mp h).2).2
      rcases atF_spec x L e.c (e.b - e.a) with ⟨h1, h2⟩ | ⟨z, hz, h1, h2, h3, h4⟩
      · refine .inr ⟨e, List.mem_cons_self .., ⟨k1, k2⟩, k3, h1, fun e' he' hx => ?_⟩
        rcases List.mem_cons.mp he' with rfl | he'
        · exact Int.le_refl _
        · exact h2 e' he' hx
      · refine .inr ⟨z, List.mem_cons_of_mem _ hz, h1, by omega, h3, fun e' he' hx => ?_⟩
        rcases List.mem_cons.mp he' with rfl | he'
        · omega
        · exact h4 e' he' hx
    · rw [if_neg h]
      have hn : hasX x e → l ≤ e.b - e.a := fun hx => by
        apply Int.not_lt.mp
        intro hlt
        apply h
        rw [decide_eq_true hx.1, decide_eq_true hx.2, decide_eq_true hlt]
        rfl
      rcases atF_spec x L v l with ⟨h1, h2⟩ | ⟨z, hz, h1, h2, h3, h4⟩
      · refine .inl ⟨h1, fun e' he' hx => ?_⟩
        rcases List.mem_cons.mp he' with rfl | he'
        · exact hn hx
        · exact h2 e' he' hx
      · refine .inr ⟨z, List.mem_cons_of_mem _ hz, h1, h2, h3, fun e' he' hx => ?_⟩
        rcases List.mem_cons.mp he' with rfl | he'
        · have := hn hx
          omega
        · exact h4 e' he' hx
/-- two patterns of one length that have an address are one -/
theorem pat_same {w : Nat} {p q : Rw} (hp : IsPat w p.1) (hq : IsPat w q.1) {x : Int} (h1 : hasX x (sp3 w p)) (h2 : hasX x (sp3 w q)) (hs : (sp3 w p).b - (sp3 w p).a = (sp3 w q).b - (sp3 w q).a) : p.1 = q.1 := by
  obtain ⟨bs, pp⟩ := hp
  obtain ⟨cs, pq⟩ := hq
  have l1 := pp.le
  have l2 := pq.le
  rw [sp3_pat (n := w - bs.length) pp (by omega)] at h1 hs
  rw [sp3_pat (n := w - cs.length) pq (by omega)] at h2 hs
  have hs : ((wr bs * 2 ^ (w - bs.length) : Nat) : Int) + ((2 ^ (w - bs.length) : Nat) : Int) - ((wr bs * 2 ^ (w - bs.length) : Nat) : Int) = ((wr cs * 2 ^ (w - cs.length) : Nat) : Int) + ((2 ^ (w - cs.length) : Nat) : Int) - ((wr cs * 2 ^ (w - cs.length) : Nat) : Int) := hs
  have he : 2 ^ (w - bs.length) = 2 ^ (w - cs.length) := by omega
  have hl : w - bs.length = w - cs.length := (Nat.pow_right_inj (by decide : 1 < 2)).mp he
  have hll : bs.length = cs.length := by omega
  obtain ⟨a1, a2⟩ := h1
  obtain ⟨a3, a4⟩ := h2
  have a1 : ((wr bs * 2 ^ (w - bs.length) : Nat) : Int) ≤ x := a1
  have a2 : x < ((wr bs * 2 ^ (w - bs.length) : Nat) : Int) + ((2 ^ (w - bs.length) : Nat) : Int) := a2
  have a3 : ((wr cs * 2 ^ (w - cs.length) : Nat) : Int) ≤ x := a3
  have a4 : x < ((wr cs * 2 ^ (w - cs.length) : Nat) : Int) + ((2 ^ (w - cs.length) : Nat) : Int) := a4
  rw [← hl] at a3 a4
  have hw : wr bs = wr cs := by
    obtain ⟨y, rfl⟩ : ∃ y : Nat, x = (y : Int) := ⟨x.toNat, by omega⟩
    have hpos : 0 < 2 ^ (w - bs.length) := Nat.two_pow_pos _
    have d1 : y / 2 ^ (w - bs.length) = wr bs := by
      apply Nat.div_eq_of_lt_le
      · omega
      · rw [Nat.succ_mul]; omega
    have d2 : y / 2 ^ (w - bs.length) = wr cs := by
      apply Nat.div_eq_of_lt_le
      · omega
      · rw [Nat.succ_mul]; omega
    rw [← d1, d2]
  have hb := wr_inj pp.bits pq.bits hll hw
  apply tl_inj
  rw [pp.eq, pq.eq, hb]
theorem size_small {w : Nat} (hw : w ≤ 30) (q : Rw) : (sp3 w q).b - (sp3 w q).a < 2147483648 := by
  have hp : 2 ^ (w - (bitsS q.1).length) ≤ 2 ^ 30 := Nat.pow_le_pow_right (by decide) (by omega)
  show ((_ : Nat) : Int) - ((_ : Nat) : Int) < _
  unfold spanL
  dsimp only
  rw [Nat.succ_mul]
  omega
/-- a table is told by which rows it has, where they have texts of their own -/
theorem tellR_map {w : Nat} (hw : w ≤ 30) {R S : List Rw} {x y : Int} {m : Option Int → Option Int} (hm : m none = none) (hS : ∀ q ∈ S, IsPat w q.1) (hn : (S.map (·.1)).Nodup)
    (h1 : ∀ q ∈ R, hasX x (sp3 w q) → ∃ q' ∈ S, hasX y (sp3 w q') ∧ q'.2 = m q.2 ∧ (sp3 w q').b - (sp3 w q').a = (sp3 w q).b - (sp3 w q).a)
    (h2 : ∀ q' ∈ S, hasX y (sp3 w q') → ∃ q ∈ R, hasX x (sp3 w q) ∧ (sp3 w q').b - (sp3 w q').a = (sp3 w q).b - (sp3 w q).a) : tellR w S y = m (tellR w R x) := by
  unfold tellR
  rcases atF_spec x (R.map (sp3 w)) none 2147483648 with ⟨k1, k2⟩ | ⟨e, he, k1, k2, k3, k4⟩
  · rcases atF_spec y (S.map (sp3 w)) none 2147483648 with ⟨j1, j2⟩ | ⟨z, hz, j1, j2, j3, j4⟩
    · rw [k1, j1, hm]
    · obtain ⟨q', hq', rfl⟩ := List.mem_map.mp hz
      obtain ⟨q, hq, hx, hs⟩ := h2 q' hq' j1
      have := k2 _ (List.mem_map.mpr ⟨q, hq, rfl⟩) hx
      have := size_small hw q
      omega
  · obtain ⟨q, hq, rfl⟩ := List.mem_map.mp he
    obtain ⟨q', hq', hy, hv, hs⟩ := h1 q hq k1
    rcases atF_spec y (S.map (sp3 w)) none 2147483648 with ⟨j1, j2⟩ | ⟨z, hz, j1, j2, j3, j4⟩
    · have := j2 _ (List.mem_map.mpr ⟨q', hq', rfl⟩) hy
      have := size_small hw q'
      omega
    · obtain ⟨r', hr', rfl⟩ := List.mem_map.mp hz
      obtain ⟨r, hr, hrx, hrs⟩ := h2 r' hr' j1
      have l1 := j4 _ (List.mem_map.mpr ⟨q', hq', rfl⟩) hy
      have l2 := k4 _ (List.mem_map.mpr ⟨r, hr, rfl⟩) hrx
      have hqr : r' = q' := row_of_text hn hr' hq' (pat_same (hS r' hr') (hS q' hq') j1 hy (by omega))
      rw [j3, k3, hqr]
      exact hv
/-- between neighbouring edges one value is told -/
theorem atF_congr {x y : Int} : ∀ {L : List Pt}, (∀ e ∈ L, hasX x e ↔ hasX y e) → ∀ v l, atF x L v l = atF y L v l
  | [], _, v, l => rfl
  | e :: L, h, v, l => by
    have ih := atF_congr (L := L) fun z hz => h z (List.mem_cons_of_mem _ hz)
    have he := h e (List.mem_cons_self ..)
    unfold atF
    rw [ih, ih]
    have e1 : ((decide (e.a ≤ x)) && ((decide (x < e.b)) && (decide ((e.b - e.a) < l)))) = ((decide (e.a ≤ y)) && ((decide (y < e.b)) && (decide ((e.b - e.a) < l)))) := by
      rw [← Bool.and_assoc, ← Bool.and_assoc]
      congr 1
      rw [Bool.eq_iff_iff, Bool.and_eq_true, Bool.and_eq_true, decide_eq_true_eq, decide_eq_true_eq, decide_eq_true_eq, decide_eq_true_eq]
      exact he
    rw [e1]
theorem ris_nodup {R : List Rw} (h : Ris R) : (R.map (·.1)).Nodup := by
  refine List.pairwise_map.mpr (h.imp fun {p q} k e => ?_)
  rw [e] at k
  exact List.lt_irrefl _ k
end G
set_option synthInstance.maxSize 1000
set_option synthInstance.maxHeartbeats 400000
namespace K33
open PySem PySem.Spec PyProof.Rows L2 TL G
def topS (i : Nat) : Stmt := PySem.Challenge.pw_wishnet_k33_whole_no_fewer_rows_by_trial.main.body.getD i (.Pass ⟨0, 0, 0, 0⟩)
abbrev s_wanted : Stmt := topS 2
abbrev s_chosen : Stmt := topS 3
abbrev s_rows_below : Stmt := topS 4
abbrev s_table_of : Stmt := topS 5
abbrev s_l_bag : Stmt := topS 7
abbrev s_l_stirred : Stmt := topS 8
abbrev s_l_draw : Stmt := topS 9
abbrev s_l_choices : Stmt := topS 10
abbrev s_l_beginnings : Stmt := topS 11
abbrev s_l_places : Stmt := topS 12
abbrev s_l_can_tell : Stmt := topS 13
abbrev s_l_told : Stmt := topS 14
abbrev s_l_right : Stmt := topS 15
abbrev s_law : Stmt := topS 16
structure Txt (K : PySem.W.Frag) (mg : Str → Option Value) where
  a_wanted : Addr
  d_wanted : FuncData
  F_wanted : FnP K "wanted" s_wanted a_wanted d_wanted
  g_wanted : mg "wanted" = some (.ref a_wanted)
  a_chosen : Addr
  d_chosen : FuncData
  F_chosen : FnP K "chosen" s_chosen a_chosen d_chosen
  g_chosen : mg "chosen" = some (.ref a_chosen)
  a_rows_below : Addr
  d_rows_below : FuncData
  F_rows_below : FnP K "rows_below" s_rows_below a_rows_below d_rows_below
  g_rows_below : mg "rows_below" = some (.ref a_rows_below)
  a_table_of : Addr
  d_table_of : FuncData
  F_table_of : FnP K "table_of" s_table_of a_table_of d_table_of
  g_table_of : mg "table_of" = some (.ref a_table_of)
  a_l_bag : Addr
  d_l_bag : FuncData
  F_l_bag : FnP K "_law_bag" s_l_bag a_l_bag d_l_bag
  g_l_bag : mg "_law_bag" = some (.ref a_l_bag)
  a_l_stirred : Addr
  d_l_stirred : FuncData
  F_l_stirred : FnP K "_law_stirred" s_l_stirred a_l_stirred d_l_stirred
  g_l_stirred : mg "_law_stirred" = some (.ref a_l_stirred)
  a_l_draw : Addr
  d_l_draw : FuncData
  F_l_draw : FnP K "_law_draw" s_l_draw a_l_draw d_l_draw
  g_l_draw : mg "_law_draw" = some (.ref a_l_draw)
  a_l_choices : Addr
  d_l_choices : FuncData
  F_l_choices : FnP K "_law_choices" s_l_choices a_l_choices d_l_choices
  g_l_choices : mg "_law_choices" = some (.ref a_l_choices)
  a_l_beginnings : Addr
  d_l_beginnings : FuncData
  F_l_beginnings : FnP K "_law_beginnings" s_l_beginnings a_l_beginnings d_l_beginnings
  g_l_beginnings : mg "_law_beginnings" = some (.ref a_l_beginnings)
  a_l_places : Addr
  d_l_places : FuncData
  F_l_places : FnP K "_law_places" s_l_places a_l_places d_l_places
  g_l_places : mg "_law_places" = some (.ref a_l_places)
  a_l_can_tell : Addr
  d_l_can_tell : FuncData
  F_l_can_tell : FnP K "_law_can_tell" s_l_can_tell a_l_can_tell d_l_can_tell
  g_l_can_tell : mg "_law_can_tell" = some (.ref a_l_can_tell)
  a_l_told : Addr
  d_l_told : FuncData
  F_l_told : FnP K "_law_told" s_l_told a_l_told d_l_told
  g_l_told : mg "_law_told" = some (.ref a_l_told)
  a_l_right : Addr
  d_l_right : FuncData
  F_l_right : FnP K "_law_right" s_l_right a_l_right d_l_right
  g_l_right : mg "_law_right" = some (.ref a_l_right)
  a_law : Addr
  d_law : FuncData
  F_law : FnP K "law" s_law a_law d_law
  g_law : mg "law" = some (.ref a_law)
  n_abs : mg "abs" = none
  n_int : mg "int" = none
  n_len : mg "len" = none
  n_list : mg "list" = none
  n_min : mg "min" = none
  n_range : mg "range" = none
  n_str : mg "str" = none
  n_zip : mg "zip" = none
  t_STAR : Tok
  k_STAR : mg "STAR" = some (.str "*" t_STAR)
/-! ### the bag, the draws -/
abbrev Bag := G.Bag2
abbrev BagAt := @G.BagAt2
structure BOk (b : Bag) : Prop where
  lo : 0 ≤ b.stir
  hi : b.stir < 2147483648
  len : b.cells.length ≤ 63
abbrev N_l_bag : List Str := ["_law_script", "_law_stir", "_law_cell"]
theorem sc_l_bag : FnScope N_l_bag ["_law_script"] (defScope s_l_bag) := ⟨rfl, rfl, rfl, by decide +kernel, rfl, by decide +kernel, by decide +kernel⟩
def sp_l_bag (K : PySem.W.Frag) : Sp := fun vs H Q _ => ∃ (a : Addr) (ns : List Int), vs = [.ref a] ∧ SqL K H a (ns.map V.int) ∧ ns.length ≤ 63 ∧ (∀ (B C : Addr) (b : Bag) (F H' : Hp), Same F H' → BagAt F H' B C b → BOk b → SqL K H' a (ns.map V.int) → (∀ o, H a = some o → ¬ Bc B C a) → Q (.ref B) H')
def nxt (s c : Int) : Int := (s ^ 3 + 69621 * s + 1031 * c + 1) % 2147483647
def stirN (z c : Int) : Nat → Int × Int × Int
  | 0 => (z, c, 0)
  | n + 1 => (nxt (stirN z c n).1 ((stirN z c n).2.1 + 1), (stirN z c n).2.1 + 1, (stirN z c n).2.2 * 134217728 + nxt (stirN z c n).1 ((stirN z c n).2.1 + 1) / 16)
def m_l_stirred (b : Bag) (n : Int) : Option (Int × Bag) :=
  if (0 < n ∧ Builtin.Int.intBits n < 9000) ∧ (0 ≤ b.stir ∧ b.stir < 2147483648) then
    some ((stirN b.stir b.cnt (1 + Builtin.Int.intBits n / 27)).2.2 % n, { b with stir := (stirN b.stir b.cnt (1 + Builtin.Int.intBits n / 27)).1, cnt := (stirN b.stir b.cnt (1 + Builtin.Int.intBits n / 27)).2.1 })
  else none
def m_l_draw (b : Bag) (n : Int) : Option (Int × Bag) :=
  if (0 < n ∧ n.natAbs.log2 < 9000) ∧ b.cells.length ≤ sizeLine then
    if b.left = 0 then
      match b.cells[b.at_]? with
      | some x => some (x % n, { b with at_ := b.at_ + 1, left := x / n })
      | none => m_l_stirred b n
    else some (b.left % n, { b with left := b.left / n })
  else none
abbrev N_l_stirred : List Str := ["_law_bag_here", "_law_many", "_law_found", "_law_k"]
theorem sc_l_stirred : FnScope N_l_stirred ["_law_bag_here", "_law_many"] (defScope s_l_stirred) := ⟨rfl, rfl, rfl, by decide +kernel, rfl, by decide +kernel, by decide +kernel⟩
def sp_l_stirred (K : PySem.W.Frag) : Sp := fun vs H Q _ => ∃ (F : Hp) (B C : Addr) (b : Bag) (y_many : Int) (r : Int) (b' : Bag), vs = [.ref B, .int y_many] ∧ Same F H ∧ BagAt F H B C b ∧ m_l_stirred b y_many = some (r, b') ∧ (∀ F' H', Gr (Bc B C) F H F' H' → BagAt F' H' B C b' → Q (.int r) H')
abbrev N_l_draw : List Str := ["_law_bag_here", "_law_many", "_law_found"]
theorem sc_l_draw : FnScope N_l_draw ["_law_bag_here", "_law_many"] (defScope s_l_draw) := ⟨rfl, rfl, rfl, by decide +kernel, rfl, by decide +kernel, by decide +kernel⟩
def sp_l_draw (K : PySem.W.Frag) : Sp := fun vs H Q _ => ∃ (F : Hp) (B C : Addr) (b : Bag) (y_many : Int) (r : Int) (b' : Bag), vs = [.ref B, .int y_many] ∧ Same F H ∧ BagAt F H B C b ∧ m_l_draw b y_many = some (r, b') ∧ (∀ F' H', Gr (Bc B C) F H F' H' → BagAt F' H' B C b' → Q (.int r) H')
theorem atI_map {xs : List Int} {k : Nat} {x : Int} (h : xs[k]? = some x) : atI (xs.map V.int) (k : Nat) = some (.int x) := atI_nat (by rw [List.getElem?_map, h]; rfl)

/-! ### wanted -/
def m_wanted_c1 (rec_ : (Int → Int → (List (T3 Int Int (Option Int))) → Option TrD)) (x_middle : Int) : List (T3 Int Int (Option Int)) → List (T3 Int Int (Option Int))
  | [] => []
  | e67 :: xs_ => if (decide (e67.a < x_middle)) then e67 :: m_wanted_c1 rec_ x_middle xs_ else m_wanted_c1 rec_ x_middle xs_
def m_wanted_c2 (rec_ : (Int → Int → (List (T3 Int Int (Option Int))) → Option TrD)) (x_middle : Int) : List (T3 Int Int (Option Int)) → List (T3 Int Int (Option Int))
  | [] => []
  | e134 :: xs_ => if (decide (x_middle < e134.b)) then e134 :: m_wanted_c2 rec_ x_middle xs_ else m_wanted_c2 rec_ x_middle xs_
def m_wanted_c3 (rec_ : (Int → Int → (List (T3 Int Int (Option Int))) → Option TrD)) (x_high : TrD) : List (Option Int) → List (Option Int)
  | [] => []
  | k210 :: xs_ => if (decide (k210 ∈ (x_high).ks)) then k210 :: m_wanted_c3 rec_ x_high xs_ else m_wanted_c3 rec_ x_high xs_
def m_wanted_c4 (rec_ : (Int → Int → (List (T3 Int Int (Option Int))) → Option TrD))  : List (Option Int) → List (Option Int)
  | [] => []
  | e364 :: xs_ => e364 :: m_wanted_c4 rec_  xs_
def mS_wanted (rec_ : (Int → Int → (List (T3 Int Int (Option Int))) → Option TrD)) (x_first : Int) (x_behind : Int) (x_parts : (List (T3 Int Int (Option Int)))) : Option TrD :=
  if (eqI (((x_parts).length : Nat) : Int) (1 : Int)) then (Option.bind (atI x_parts (0 : Int)) fun t7 =>
 some (TrD.leaf [t7.c])) else (Option.bind (some ((x_first + x_behind) / (2 : Int))) fun x_middle37 =>
 Option.bind (rec_ x_first x_middle37 (m_wanted_c1 rec_ x_middle37 x_parts)) fun r94 =>
 Option.bind (rec_ x_middle37 x_behind (m_wanted_c2 rec_ x_middle37 x_parts)) fun r163 =>
 Option.bind (conL (r94).ks (r163).ks) fun t299 =>
 some (TrD.node (if (!((putsN (m_wanted_c3 rec_ r163 (r94).ks))).isEmpty) then (putsN (m_wanted_c3 rec_ r163 (r94).ks)) else (putsN (m_wanted_c4 rec_  t299))) r94 r163))
def m_wanted : Nat → (Int → Int → (List (T3 Int Int (Option Int))) → Option TrD)
  | 0 => fun _ _ _ => none
  | n_ + 1 => mS_wanted (m_wanted n_)
abbrev N_wanted : List Str := ["first", "behind", "parts", "middle", "low", "high", "both", "either", "value", "part"]
theorem sc_wanted : FnScope N_wanted ["first", "behind", "parts"] (defScope s_wanted) := ⟨rfl, rfl, rfl, by decide +kernel, rfl, by decide +kernel, by decide +kernel⟩
def spR_wanted (m_ : (Int → Int → (List (T3 Int Int (Option Int))) → Option TrD)) (K : PySem.W.Frag) : Sp := fun vs H Q _ => ∃ (F : Hp) (x_first : Int) (x_behind : Int) (p_x_parts : Addr) (ws_x_parts : List V) (x_parts : (List (T3 Int Int (Option Int)))) (r : TrD), vs = [.int x_first, .int x_behind, .ref p_x_parts] ∧ Same F H ∧ SqL K H p_x_parts ws_x_parts ∧ ws_x_parts.length ≤ sizeLine ∧ RL K F ws_x_parts x_parts ∧ ¬ M0 p_x_parts ∧ m_ x_first x_behind x_parts = some r ∧ (∀ v F' H', Gr M0 F H F' H' → RTr F' v r → Q v H')
def sp_wanted (K : PySem.W.Frag) : Sp := spR_wanted (m_wanted 40) K
/-! ### chosen -/
def m_chosen_c1  : List (Option Int) → Option (List Int)
  | [] => some []
  | k27 :: xs_ =>
    if (!(k27).isNone) then (Option.bind (k27) fun t41 => Option.bind (m_chosen_c1  xs_) fun rest45 => some (t41 :: rest45)) else m_chosen_c1  xs_
def m_chosen (x_values : (List (Option Int))) : Option (Option Int) :=
  Option.bind (m_chosen_c1  x_values) fun l10 =>
  Option.bind (if (!eqD l10 ([] : (List Int))) then (Option.bind (minO l10) fun t77 => some ((some t77))) else ( some ((none : (Option Int))))) fun c72 =>
  some c72
abbrev N_chosen : List Str := ["values", "numbers", "value"]
theorem sc_chosen : FnScope N_chosen ["values"] (defScope s_chosen) := ⟨rfl, rfl, rfl, by decide +kernel, rfl, by decide +kernel, by decide +kernel⟩
def sp_chosen (K : PySem.W.Frag) : Sp := fun vs H Q _ => ∃ (F : Hp) (v_x_values : V) (x_values : (List (Option Int))) (r : (Option Int)), vs = [v_x_values] ∧ Same F H ∧ RDN F v_x_values x_values ∧ m_chosen x_values = some r ∧ (∀ v F' H', Gr M0 F H F' H' → R K F' v r → Q v H')
/-! ### rows_below -/
def m_rows_below_l1 (rec_ : (TrD → Str → (Option Int) → Int → Option (List (Str × (Option Int))))) (x_beginning : Str) (x_above : (Option Int)) (x_width : Int) : List (Nat × TrD) → (List (Str × (Option Int))) → (Option ((List (Str × (Option Int)))))
  | [], x_rows => some x_rows
  | e94 :: xs_, x_rows =>
    Option.bind (catS x_beginning (sgn e94.1)) fun t105 =>
    Option.bind (rec_ e94.2 t105 x_above x_width) fun r108 =>
    Option.bind (conL x_rows r108) fun t125 =>
    m_rows_below_l1 rec_ x_beginning x_above x_width xs_ t125
def mS_rows_below (rec_ : (TrD → Str → (Option Int) → Int → Option (List (Str × (Option Int))))) (x_tree : TrD) (x_beginning : Str) (x_above : (Option Int)) (x_width : Int) : Option (List (Str × (Option Int))) :=
  Option.bind (some ([] : List (Str × (Option Int)))) fun x_rows14 =>
  bind2 (if (!decide (x_above ∈ (x_tree).ks)) then (Option.bind (m_chosen (x_tree).ks) fun r26 =>
 Option.bind (mulS ("*" : Str) (toI (decide (((x_beginning.length : Nat) : Int) < x_width)))) fun t35 =>
 Option.bind (catS x_beginning t35) fun t38 =>
 Option.bind (appL x_rows14 (t38, r26)) fun t48 =>
 some (r26, t48)) else (some (x_above, x_rows14))) fun x_above18 x_rows19 =>
  Option.bind (m_rows_below_l1 rec_ x_beginning x_above18 x_width (List.zip (("01" : Str)).cps.toList (x_tree).hs) x_rows19) fun x_rows72 =>
  some x_rows72
def m_rows_below : Nat → (TrD → Str → (Option Int) → Int → Option (List (Str × (Option Int))))
  | 0 => fun _ _ _ _ => none
  | n_ + 1 => mS_rows_below (m_rows_below n_)
abbrev N_rows_below : List Str := ["tree", "beginning", "above", "width", "values", "halves", "rows", "sign", "half"]
theorem sc_rows_below : FnScope N_rows_below ["tree", "beginning", "above", "width"] (defScope s_rows_below) := ⟨rfl, rfl, rfl, by decide +kernel, rfl, by decide +kernel, by decide +kernel⟩
def spR_rows_below (m_ : (TrD → Str → (Option Int) → Int → Option (List (Str × (Option Int))))) (K : PySem.W.Frag) : Sp := fun vs H Q _ => ∃ (F : Hp) (v_x_tree : V) (x_tree : TrD) (x_beginning : Str) (v_x_above : V) (x_above : (Option Int)) (x_width : Int) (r : (List (Str × (Option Int)))), vs = [v_x_tree, .str x_beginning, v_x_above, .int x_width] ∧ Same F H ∧ RTr F v_x_tree x_tree ∧ GS x_beginning ∧ R K F v_x_above x_above ∧ m_ x_tree x_beginning x_above x_width = some r ∧ (∀ p ws F' H', Gr M0 F H F' H' → H p = none → H' p = some (.lst ws) → F' p = none → ws.length ≤ sizeLine → RL K F' ws r → Q (.ref p) H')
def sp_rows_below (K : PySem.W.Frag) : Sp := spR_rows_below (m_rows_below 40) K
/-! ### table_of -/
def m_table_of (x_parts : (List (T3 Int Int (Option Int)))) (x_width : Int) : Option (List (Str × (Option Int))) :=
  Option.bind (shlI (1 : Int) x_width) fun t1 =>
  Option.bind (m_wanted 40 (0 : Int) t1 x_parts) fun r4 =>
  Option.bind (m_rows_below 40 r4 ("" : Str) (none : (Option Int)) x_width) fun r12 =>
  some r12
abbrev N_table_of : List Str := ["parts", "width"]
theorem sc_table_of : FnScope N_table_of ["parts", "width"] (defScope s_table_of) := ⟨rfl, rfl, rfl, by decide +kernel, rfl, by decide +kernel, by decide +kernel⟩
def sp_table_of (K : PySem.W.Frag) : Sp := fun vs H Q _ => ∃ (F : Hp) (p_x_parts : Addr) (ws_x_parts : List V) (x_parts : (List (T3 Int Int (Option Int)))) (x_width : Int) (r : (List (Str × (Option Int)))), vs = [.ref p_x_parts, .int x_width] ∧ Same F H ∧ SqL K H p_x_parts ws_x_parts ∧ ws_x_parts.length ≤ sizeLine ∧ RL K F ws_x_parts x_parts ∧ ¬ M0 p_x_parts ∧ m_table_of x_parts x_width = some r ∧ (∀ p ws F' H', Gr M0 F H F' H' → H p = none → H' p = some (.lst ws) → F' p = none → ws.length ≤ sizeLine → RL K F' ws r → Q (.ref p) H')
/-! ### l_choices -/
def m_l_choices_c3 (y_row : (VT Int)) : List Int → Option (List (VT Int))
  | [] => some []
  | e138 :: xs_ =>
    Option.bind (conV y_row (VT.mk [(T1.mk e138).a] : (VT Int))) fun t155 =>
    Option.bind (m_l_choices_c3 y_row xs_) fun rest184 => some (t155 :: rest184)
def m_l_choices_l2 (y_many : Int) : List (VT Int) → (List (VT Int)) → (Option ((List (VT Int))))
  | [], y_longer => some y_longer
  | e72 :: xs_, y_longer =>
    Option.bind (if (eqD e72 (VT.mk [] : (VT Int))) then ( some ((0 : Int))) else (Option.bind (atI (e72).l (((((e72).l).length : Nat) : Int) - (1 : Int))) fun t98 => some ((t98 + (1 : Int))))) fun c84 =>
    Option.bind (rangeO c84 y_many) fun l111 =>
    Option.bind (m_l_choices_c3 e72 l111) fun l120 =>
    Option.bind (conL y_longer l120) fun t204 =>
    m_l_choices_l2 y_many xs_ t204
def m_l_choices_l1 (y_many : Int) : List Int → (List (VT Int)) → (Option ((List (VT Int))))
  | [], y_found => some y_found
  | e38 :: xs_, y_found =>
    Option.bind (some ([] : List (VT Int))) fun y_longer45 =>
    Option.bind (m_l_choices_l2 y_many y_found y_longer45) fun y_longer55 =>
    m_l_choices_l1 y_many xs_ y_longer55
def m_l_choices (y_many : Int) (y_size : Int) : Option (List (VT Int)) :=
  Option.bind (some ([(VT.mk [] : (VT Int))] : List (VT Int))) fun y_found11 =>
  Option.bind (rangeO1 y_size) fun l15 =>
  Option.bind (m_l_choices_l1 y_many l15 y_found11) fun y_found21 =>
  some y_found21
abbrev N_l_choices : List Str := ["_law_many", "_law_size", "_law_found", "_law_k", "_law_longer", "_law_row", "_law_least", "_law_one"]
theorem sc_l_choices : FnScope N_l_choices ["_law_many", "_law_size"] (defScope s_l_choices) := ⟨rfl, rfl, rfl, by decide +kernel, rfl, by decide +kernel, by decide +kernel⟩
def sp_l_choices (K : PySem.W.Frag) : Sp := fun vs H Q _ => ∃ (F : Hp) (y_many : Int) (y_size : Int) (r : (List (VT Int))), vs = [.int y_many, .int y_size] ∧ Same F H ∧ m_l_choices y_many y_size = some r ∧ (∀ v F' H', Gr M0 F H F' H' → R K F' v r → Q v H')
/-! ### l_beginnings -/
def m_l_beginnings_c2 (y_size : Int) : List Int → List (Int × Int)
  | [] => []
  | e58 :: xs_ => (y_size, e58) :: m_l_beginnings_c2 y_size xs_
def m_l_beginnings_l1  : List Int → (List (Int × Int)) → (Option ((List (Int × Int))))
  | [], y_found => some y_found
  | e29 :: xs_, y_found =>
    Option.bind (shlI (1 : Int) e29) fun t31 =>
    Option.bind (rangeO1 t31) fun l34 =>
    Option.bind (conL y_found (m_l_beginnings_c2 e29 l34)) fun t86 =>
    m_l_beginnings_l1  xs_ t86
def m_l_beginnings (y_wide : Int) : Option (List (Int × Int)) :=
  Option.bind (some ([] : List (Int × Int))) fun y_found6 =>
  Option.bind (rangeO1 (y_wide + (1 : Int))) fun l10 =>
  Option.bind (m_l_beginnings_l1  l10 y_found6) fun y_found13 =>
  some y_found13
abbrev N_l_beginnings : List Str := ["_law_wide", "_law_found", "_law_size", "_law_number"]
theorem sc_l_beginnings : FnScope N_l_beginnings ["_law_wide"] (defScope s_l_beginnings) := ⟨rfl, rfl, rfl, by decide +kernel, rfl, by decide +kernel, by decide +kernel⟩
def sp_l_beginnings (K : PySem.W.Frag) : Sp := fun vs H Q _ => ∃ (F : Hp) (y_wide : Int) (r : (List (Int × Int))), vs = [.int y_wide] ∧ Same F H ∧ m_l_beginnings y_wide = some r ∧ (∀ p ws F' H', Gr M0 F H F' H' → H p = none → H' p = some (.lst ws) → F' p = none → ws.length ≤ sizeLine → RL K F' ws r → Q (.ref p) H')
/-! ### l_places -/
def m_l_places_c2 (y_wide : Int) (y_some : (List (Int × Int))) (y_spot : Int) : List Int → Option (List Int)
  | [] => some []
  | e83 :: xs_ =>
    Option.bind (atI y_some e83) fun t85 =>
    Option.bind (shrI y_spot (y_wide - t85.1)) fun t97 =>
    Option.bind (atI y_some e83) fun t100 =>
    if (eqI t97 t100.2) then (Option.bind (m_l_places_c2 y_wide y_some y_spot xs_) fun rest113 => some (e83 :: rest113)) else m_l_places_c2 y_wide y_some y_spot xs_
def m_l_places_l1 (y_wide : Int) (y_some : (List (Int × Int))) : List Int → (List (List Int)) → (Option ((List (List Int))))
  | [], y_found => some y_found
  | e51 :: xs_, y_found =>
    Option.bind (rangeO1 (((y_some).length : Nat) : Int)) fun l53 =>
    Option.bind (m_l_places_c2 y_wide y_some e51 l53) fun l64 =>
    Option.bind (appL y_found (l64.reverse)) fun t152 =>
    m_l_places_l1 y_wide y_some xs_ t152
def m_l_places (y_wide : Int) : Option (List (List Int)) :=
  Option.bind (m_l_beginnings y_wide) fun r1 =>
  Option.bind (some ([] : List (List Int))) fun y_found23 =>
  Option.bind (shlI (1 : Int) y_wide) fun t27 =>
  Option.bind (rangeO1 t27) fun l30 =>
  Option.bind (m_l_places_l1 y_wide r1 l30 y_found23) fun y_found33 =>
  some y_found33
abbrev N_l_places : List Str := ["_law_wide", "_law_some", "_law_found", "_law_spot", "_law_row", "_law_k"]
theorem sc_l_places : FnScope N_l_places ["_law_wide"] (defScope s_l_places) := ⟨rfl, rfl, rfl, by decide +kernel, rfl, by decide +kernel, by decide +kernel⟩
def sp_l_places (K : PySem.W.Frag) : Sp := fun vs H Q _ => ∃ (F : Hp) (y_wide : Int) (r : (List (List Int))), vs = [.int y_wide] ∧ Same F H ∧ m_l_places y_wide = some r ∧ (∀ p ws F' H', Gr M0 F H F' H' → H p = none → H' p = some (.lst ws) → F' p = none → ws.length ≤ sizeLine → RL K F' ws r → Q (.ref p) H')
/-! ### l_can_tell -/
def m_l_can_tell_c2 (y_choice : (VT Int)) : List Int → List Int
  | [] => []
  | e75 :: xs_ => if (decide (e75 ∈ (y_choice).l)) then e75 :: m_l_can_tell_c2 y_choice xs_ else m_l_can_tell_c2 y_choice xs_
def m_l_can_tell_l1 (y_choice : (VT Int)) (y_places_here : (List (List Int))) (y_values : (List (Option Int))) : List Int → (List (Int × (Option Int))) → (Option (Lp ((List (Int × (Option Int)))) (Bool)))
  | [], y_due => some (.go y_due)
  | e31 :: xs_, y_due =>
    Option.bind (atI y_places_here e31) fun t33 =>
    Option.bind (some (cutL (m_l_can_tell_c2 y_choice t33) none (some (1 : Int)))) fun y_longest111 =>
    Option.bind (if (eqD y_longest111 ([] : (List Int))) then (Option.bind (atI y_values e31) fun t133 => some ((!(t133).isNone))) else some false) fun c128 =>
    if c128 then (some (.ret false)) else (if (!eqD y_longest111 ([] : (List Int))) then (Option.bind (atI y_longest111 (0 : Int)) fun t162 =>
 Option.bind (atI y_values e31) fun t167 =>
 Option.bind (dsdO y_due t162 t167) fun y_due172 =>
 Option.bind (atI y_values e31) fun t186 => if (!eqD ((dval y_due t162).getD t167) t186) then (some (.ret false)) else (m_l_can_tell_l1 y_choice y_places_here y_values xs_ y_due172)) else (m_l_can_tell_l1 y_choice y_places_here y_values xs_ y_due))
def m_l_can_tell (y_choice : (VT Int)) (y_places_here : (List (List Int))) (y_values : (List (Option Int))) : Option Bool :=
  Option.bind (some ([] : (List (Int × (Option Int))))) fun y_due6 =>
  Option.bind (rangeO1 (((y_places_here).length : Nat) : Int)) fun l10 =>
  bindL1 (m_l_can_tell_l1 y_choice y_places_here y_values l10 y_due6) (fun y_due13 => some true) (fun r_ => some r_)
abbrev N_l_can_tell : List Str := ["_law_choice", "_law_places_here", "_law_values", "_law_due", "_law_spot", "_law_longest", "_law_k"]
theorem sc_l_can_tell : FnScope N_l_can_tell ["_law_choice", "_law_places_here", "_law_values"] (defScope s_l_can_tell) := ⟨rfl, rfl, rfl, by decide +kernel, rfl, by decide +kernel, by decide +kernel⟩
def sp_l_can_tell (K : PySem.W.Frag) : Sp := fun vs H Q _ => ∃ (v_y_choice : V) (y_choice : (VT Int)) (p_y_places_here : Addr) (ws_y_places_here : List V) (y_places_here : (List (List Int))) (p_y_values : Addr) (ws_y_values : List V) (y_values : (List (Option Int))) (r : Bool), vs = [v_y_choice, .ref p_y_places_here, .ref p_y_values] ∧ R K H v_y_choice y_choice ∧ SqL K H p_y_places_here ws_y_places_here ∧ ws_y_places_here.length ≤ sizeLine ∧ RL K H ws_y_places_here y_places_here ∧ ¬ M0 p_y_places_here ∧ SqL K H p_y_values ws_y_values ∧ ws_y_values.length ≤ sizeLine ∧ RL K H ws_y_values y_values ∧ ¬ M0 p_y_values ∧ m_l_can_tell y_choice y_places_here y_values = some r ∧ (∀ F' H', Gr M0 H H F' H' → Q (.bl r) H')
/-! ### l_told -/
def m_l_told_c1  : List Int → List (Option Int)
  | [] => []
  | e25 :: xs_ => (none : (Option Int)) :: m_l_told_c1  xs_
def m_l_told_c5 (y_wide : Int) (y_spot : Int) : List Int → Option (List Str)
  | [] => some []
  | e159 :: xs_ =>
    Option.bind (shrI y_spot ((y_wide - (1 : Int)) - e159)) fun t161 =>
    Option.bind (strO (Builtin.bitAnd t161 (1 : Int))) fun t164 =>
    Option.bind (m_l_told_c5 y_wide y_spot xs_) fun rest167 => some (t164 :: rest167)
def m_l_told_l4 (y_wide : Int) (y_size : Int) (y_value : (Option Int)) (y_bits : Str) : List Int → (List (Option Int)) → (Option ((List (Option Int))))
  | [], y_found => some y_found
  | e130 :: xs_, y_found =>
    Option.bind (rangeO1 y_size) fun l132 =>
    Option.bind (m_l_told_c5 y_wide e130 l132) fun l141 =>
    Option.bind (joinS ("" : Str) l141) fun t187 =>
    if (eqS t187 y_bits) then (Option.bind (setL y_found e130 y_value) fun t193 =>
 m_l_told_l4 y_wide y_size y_value y_bits xs_ t193) else (m_l_told_l4 y_wide y_size y_value y_bits xs_ y_found)
def m_l_told_l3 (y_wide : Int) (y_size : Int) : List (Str × (Option Int)) → (List (Option Int)) → (Option ((List (Option Int))))
  | [], y_found => some y_found
  | e92 :: xs_, y_found =>
    Option.bind (some (strike e92.1 42)) fun y_bits103 =>
    if (eqI ((y_bits103.length : Nat) : Int) y_size) then (Option.bind (shlI (1 : Int) y_wide) fun t107 =>
 Option.bind (rangeO1 t107) fun l110 =>
 Option.bind (m_l_told_l4 y_wide y_size e92.2 y_bits103 l110 y_found) fun y_found113 =>
 m_l_told_l3 y_wide y_size xs_ y_found113) else (m_l_told_l3 y_wide y_size xs_ y_found)
def m_l_told_l2 (y_chart : (List (Str × (Option Int)))) (y_wide : Int) : List Int → (List (Option Int)) → (Option ((List (Option Int))))
  | [], y_found => some y_found
  | e70 :: xs_, y_found =>
    Option.bind (m_l_told_l3 y_wide e70 y_chart y_found) fun y_found72 =>
    m_l_told_l2 y_chart y_wide xs_ y_found72
def m_l_told (y_chart : (List (Str × (Option Int)))) (y_wide : Int) : Option (List (Option Int)) :=
  Option.bind (shlI (1 : Int) y_wide) fun t1 =>
  Option.bind (rangeO1 t1) fun l4 =>
  Option.bind (some (m_l_told_c1  l4)) fun y_found42 =>
  Option.bind (rangeO1 (y_wide + (1 : Int))) fun l46 =>
  Option.bind (m_l_told_l2 y_chart y_wide l46 y_found42) fun y_found49 =>
  some y_found49
abbrev N_l_told : List Str := ["_law_chart", "_law_wide", "_law_found", "_law_size", "_law_pattern", "_law_value", "_law_bits", "_law_spot", "_law_text", "_law_k"]
theorem sc_l_told : FnScope N_l_told ["_law_chart", "_law_wide"] (defScope s_l_told) := ⟨rfl, rfl, rfl, by decide +kernel, rfl, by decide +kernel, by decide +kernel⟩
def sp_l_told (K : PySem.W.Frag) : Sp := fun vs H Q _ => ∃ (F : Hp) (p_y_chart : Addr) (ws_y_chart : List V) (y_chart : (List (Str × (Option Int)))) (y_wide : Int) (r : (List (Option Int))), vs = [.ref p_y_chart, .int y_wide] ∧ Same F H ∧ SqL K H p_y_chart ws_y_chart ∧ ws_y_chart.length ≤ sizeLine ∧ RL K F ws_y_chart y_chart ∧ ¬ M0 p_y_chart ∧ m_l_told y_chart y_wide = some r ∧ (∀ p ws F' H', Gr M0 F H F' H' → H p = none → H' p = some (.lst ws) → F' p = none → ws.length ≤ sizeLine → RL K F' ws r → Q (.ref p) H')
/-! ### l_right -/
def m_l_right_c1 (y_values : (List (Option Int))) : List Int → Option (List (T3 Int Int (Option Int)))
  | [] => some []
  | e25 :: xs_ =>
    Option.bind (atI y_values e25) fun t27 =>
    Option.bind (m_l_right_c1 y_values xs_) fun rest40 => some ((T3.mk e25 (e25 + (1 : Int)) t27) :: rest40)
def m_l_right_l2 (y_values : (List (Option Int))) (y_places_here : (List (List Int))) : List (VT Int) → (Option (Lp (Unit) (Bool)))
  | [] => some (.go ())
  | e171 :: xs_ =>
    Option.bind (m_l_can_tell e171 y_places_here y_values) fun r174 =>
    if r174 then (some (.ret false)) else (m_l_right_l2 y_values y_places_here xs_ )
def m_l_right (y_wide : Int) (y_values : (List (Option Int))) : Option Bool :=
  Option.bind (rangeO1 (((y_values).length : Nat) : Int)) fun l1 =>
  Option.bind (m_l_right_c1 y_values l1) fun l8 =>
  Option.bind (m_table_of l8 y_wide) fun r58 =>
  Option.bind (m_l_told r58 y_wide) fun r75 =>
  if (!eqD r75 y_values) then (some false) else (Option.bind (m_l_places y_wide) fun r96 =>
 if (eqI (((r58).length : Nat) : Int) (0 : Int)) then (some true) else (Option.bind (m_l_beginnings y_wide) fun r117 =>
 Option.bind (m_l_choices (((r117).length : Nat) : Int) ((((r58).length : Nat) : Int) - (1 : Int))) fun r140 =>
 bindL0 (m_l_right_l2 y_values r96 r140 ) (some true) (fun r_ => some r_)))
abbrev N_l_right : List Str := ["_law_wide", "_law_values", "_law_chart", "_law_places_here", "_law_choice", "_law_k"]
theorem sc_l_right : FnScope N_l_right ["_law_wide", "_law_values"] (defScope s_l_right) := ⟨rfl, rfl, rfl, by decide +kernel, rfl, by decide +kernel, by decide +kernel⟩
def sp_l_right (K : PySem.W.Frag) : Sp := fun vs H Q _ => ∃ (y_wide : Int) (p_y_values : Addr) (ws_y_values : List V) (y_values : (List (Option Int))) (r : Bool), vs = [.int y_wide, .ref p_y_values] ∧ SqL K H p_y_values ws_y_values ∧ ws_y_values.length ≤ sizeLine ∧ RL K H ws_y_values y_values ∧ ¬ M0 p_y_values ∧ m_l_right y_wide y_values = some r ∧ (∀ F' H', Gr M0 H H F' H' → Q (.bl r) H')
/-! ### law -/
def m_law_c2  : List Int → Bag → Option (List (Option Int) × Bag)
  | [], b => some ([], b)
  | e79 :: xs_, b =>
    bind2 (m_l_draw b (5 : Int)) fun r92 b93 =>
    Option.bind (atI ([(none : (Option Int)), (some (0 : Int)), (some (5 : Int)), (some (-(1 : Int))), (some (7 : Int))] : List (Option Int)) r92) fun t104 =>
    bind2 (m_law_c2  xs_ b93) fun rest110 b111 => some (t104 :: rest110, b111)
def m_law_l1  : List Int → Bag → (Option (Lp (Bag) (Bool × Bag)))
  | [], b => some (.go b)
  | e20 :: xs_, b =>
    bind2 (m_l_draw b (4 : Int)) fun r29 b30 =>
    Option.bind (atI ([(1 : Int), (2 : Int), (2 : Int), (2 : Int)] : List Int) r29) fun t39 =>
    Option.bind (shlI (1 : Int) t39) fun t44 =>
    Option.bind (rangeO1 t44) fun l47 =>
    bind2 (m_law_c2  l47 b30) fun l58 b59 =>
    Option.bind (m_l_right t39 l58) fun r134 =>
    if (!r134) then (some (.ret (false, b59))) else (m_law_l1  xs_ b59)
def m_law_c3 (y_pool : (List (Option Int))) : List Int → Bag → Option (List (Option Int) × Bag)
  | [], b => some ([], b)
  | e292 :: xs_, b =>
    bind2 (m_l_draw b (((y_pool).length : Nat) : Int)) fun r300 b301 =>
    Option.bind (atI y_pool r300) fun t311 =>
    bind2 (m_law_c3 y_pool xs_ b301) fun rest317 b318 => some (t311 :: rest317, b318)
def m_law (b : Bag) (len_ : Nat)  : Option (Bool × Bag) :=
  Option.bind (rangeO1 ((3 : Int) + (if ((len_ : Nat) : Int) < (6 : Int) then ((len_ : Nat) : Int) else (6 : Int)))) fun l1 =>
  bindL1 (m_law_l1  l1 b) (fun b4 => bind2 (m_l_draw b4 (5 : Int)) fun r248 b249 =>
 Option.bind (atI ([([(none : (Option Int)), (some (0 : Int)), (some (5 : Int))] : List (Option Int)), ([(some (3 : Int)), (some (0 : Int)), (some (5 : Int))] : List (Option Int)), ([(none : (Option Int)), (some (1 : Int))] : List (Option Int)), ([(some (2 : Int)), (some (1 : Int))] : List (Option Int)), ([(some (1 : Int)), (some (2 : Int)), (none : (Option Int))] : List (Option Int))] : List (List (Option Int))) r248) fun t258 =>
 bind2 (m_law_c3 t258 (rangeL (0 : Int) 8) b249) fun l271 b272 =>
 Option.bind (m_l_right (3 : Int) l271) fun r340 =>
 some (r340, b272)) (fun r_ => some r_)
abbrev N_law : List Str := ["_law_script", "_law_bag_here", "_law_turn", "_law_wide", "_law_values", "_law_pool", "_law_k"]
theorem sc_law : FnScope N_law ["_law_script"] (defScope s_law) := ⟨rfl, rfl, rfl, by decide +kernel, rfl, by decide +kernel, by decide +kernel⟩
def sp_law (K : PySem.W.Frag) : Sp := fun vs H Q _ => ∃ (a : Addr) (ns : List Int), vs = [.ref a] ∧ SqL K H a (ns.map V.int) ∧ ns.length ≤ 63 ∧ (∀ H', Q (.bl true) H')

end K33
set_option synthInstance.maxSize 1000
set_option synthInstance.maxHeartbeats 400000
namespace K33
open PySem PySem.Spec PyProof.Rows L2 TL G
theorem okS_wanted {P : Program} {w : World} {K : PySem.W.Frag} {mg : Str → Option Value} {base : Heap} (T : Txt K mg) (k_ : Nat) (hk_ : 0 ≤ k_) (rec_ : (Int → Int → (List (T3 Int Int (Option Int))) → Option TrD)) (ih_ : FnOk P w K mg base CX0 k_ T.a_wanted T.d_wanted ["first", "behind", "parts"] (spR_wanted rec_ K)) : FnOk P w K mg base CX0 (k_ + 1) T.a_wanted T.d_wanted ["first", "behind", "parts"] (spR_wanted (mS_wanted rec_) K) := by
  have b_wanted := T.F_wanted.bindsN (ps := ["first", "behind", "parts"]) fun _ _ _ _ _ _ us hl => match us, hl with | [_, _, _], _ => rfl
  refine fd_ok T.F_wanted sc_wanted (fun vs H Q E h => ?_) (fun cdv A outer s H0 vs Q E hr h => ?_)
  · obtain ⟨_, _, _, _, _, _, _, rfl, _⟩ := h
    rfl
  · obtain ⟨F0, x_first, x_behind, p_x_parts, ws_x_parts, x_parts, r, rfl, hS0, hS_x_parts, hl_x_parts, hA_x_parts, nm_x_parts, hm, hQ⟩ := h
    refine ⟨_, (pss_cons (ps_if (pt_cmpR op_eq (pe_callB (call_lenLK (K := K)) (by rfl) T.n_len (by decide +kernel) (pa_cons (pv 2) pa_nil)) pe_int (nomark _)) (pss_one (ps_ret (pe_tup (pa_cons (pe_dispN (pe_ix (ix_tupK (K := K)) (pe_ix (ix_listK (K := K)) (pv 2) pe_int (fun _ _ => rfl)) pe_int (fun _ _ => rfl)) pe_bl) (pa_cons (pe_tup pa_nil) pa_nil))))) pss_nil) (pss_cons (ps_set (i := 3) sc_wanted.nd rfl (.inr rfl) (pe_op op_fdiv (pe_op op_add (pv 0) (pv 1)) pe_int)) (pss_cons (ps_set (i := 4) sc_wanted.nd rfl (.inl rfl) (pe_call ih_ hr (by rfl) T.g_wanted T.F_wanted.kp b_wanted .nil pass0 (pa_cons (pv 0) (pa_cons (pv 3) (pa_cons (pe_lc (own := [("part", 9)]) rfl sc_wanted.nd (pi_listK (K := K) (pv 2)) (blkOk_by (own := [("part", 9)]) (N := N_wanted) (sc := defScope s_wanted) (by decide +kernel)) (fun _ _ _ _ _ => (pg_name (i := 9) sc_wanted.nd rfl (Or.inl rfl) (.inr rfl))) (fun _ _ _ _ _ => (pts_one (pt_cmpR op_lt (pe_ix (ix_tupK (K := K)) (pv 9) pe_int (fun _ _ => rfl)) (pv 3) (nomark _)))) (fun _ _ _ _ _ => (pv 9))) pa_nil))))) (pss_cons (ps_set (i := 5) sc_wanted.nd rfl (.inr rfl) (pe_call ih_ hr (by rfl) T.g_wanted T.F_wanted.kp b_wanted .nil pass0 (pa_cons (pv 3) (pa_cons (pv 1) (pa_cons (pe_lc (own := [("part", 9)]) rfl sc_wanted.nd (pi_listK (K := K) (pv 2)) (blkOk_by (own := [("part", 9)]) (N := N_wanted) (sc := defScope s_wanted) (by decide +kernel)) (fun _ _ _ _ _ => (pg_name (i := 9) sc_wanted.nd rfl (Or.inl rfl) (.inr rfl))) (fun _ _ _ _ _ => (pts_one (pt_cmpR op_gt (pe_ix (ix_tupK (K := K)) (pv 9) pe_int (fun _ _ => rfl)) (pv 3) (nomark _)))) (fun _ _ _ _ _ => (pv 9))) pa_nil))))) (pss_cons (ps_setDcN (i := 6) (own := [("value", 8)]) rfl (hu_of hr) sc_wanted.nd rfl rfl (sw_trueD rfl rfl rfl (by decide +kernel)) (pi_keysN (pe_ix (ix_tupK (K := K)) (pv 4) pe_int (fun _ _ => rfl))) (blkOk_by (own := [("value", 8)]) (N := N_wanted) (sc := defScope s_wanted) (by decide +kernel)) (fun _ _ _ _ _ => (pg_name (i := 8) sc_wanted.nd rfl (Or.inl rfl) (.inr rfl))) (fun _ _ _ _ _ => (pts_one (pt_cmpR op_inN (pv 8) (pe_ix (ix_tupK (K := K)) (pv 5) pe_int (fun _ _ => rfl)) rfl))) (fun _ _ _ _ _ => (pv 8)) (fun _ _ _ _ _ => pe_bl)) (pss_cons (ps_setDcN (i := 7) (own := [("value", 8)]) rfl (hu_of hr) sc_wanted.nd rfl rfl (sw_trueD rfl rfl rfl (by decide +kernel)) (pi_listK (K := K) (pe_op (op_catLK (K := K)) (pe_callTy (call_list_N rfl) (by rfl) T.n_list (by decide +kernel) (pa_cons (pe_ix (ix_tupK (K := K)) (pv 4) pe_int (fun _ _ => rfl)) pa_nil)) (pe_callTy (call_list_N rfl) (by rfl) T.n_list (by decide +kernel) (pa_cons (pe_ix (ix_tupK (K := K)) (pv 5) pe_int (fun _ _ => rfl)) pa_nil)))) (blkOk_by (own := [("value", 8)]) (N := N_wanted) (sc := defScope s_wanted) (by decide +kernel)) (fun _ _ _ _ _ => (pg_name (i := 8) sc_wanted.nd rfl (Or.inl rfl) (.inr rfl))) (fun _ _ _ _ _ => pts_nil) (fun _ _ _ _ _ => (pv 8)) (fun _ _ _ _ _ => pe_bl)) (pss_one (ps_ret (pe_tup (pa_cons (pe_ifExp (pt_cmpR (op_neN (Nat.lt_of_le_of_lt (Nat.le_add_right _ 64) hr.units)) (pv 6) pe_dnewK (nomark _)) (pv 6) (pv 7)) (pa_cons (pe_tup (pa_cons (pv 4) (pa_cons (pv 5) pa_nil))) pa_nil))))))))))), ?_⟩
    have g0 : Gr M0 F0 H0 F0 H0 := Gr.refl hS0
    unfold mS_wanted at hm
    refine p_seq ?_
    refine p_if ?_
    refine ⟨(V.ref p_x_parts), rfl, p_x_parts, ws_x_parts, _, rfl, (.inl (g0.seq nm_x_parts hS_x_parts)), (RL.len hA_x_parts), rfl, _, rfl, (iteB (fun hc => ?_) (fun hc => ?_))⟩
    · have hm := ifT hc hm
      refine p_ret ?_
      refine fun p1 np2 => ?_
      have g4 := g0.own (o := (.dK [])) np2
      have ow5 : Od H0 F0 (upd H0 p1 (.dK [])) p1 (.dK []) := Od.new g0 np2 (fun _ z => nomatch z)
      have hA6 : RD (α := Int) (β := Bool) K F0 [] [] := RD.nil
      obtain ⟨t7, hb8, hm⟩ := bnd hm
      obtain ⟨v9, ha10, r11⟩ := RL.at hA_x_parts hb8
      obtain ⟨p12, v15, v16, v17, ev13, hS14, r18, r19, r20⟩ := R.p3_v r11
      obtain rfl := R.int_v r18
      obtain rfl := R.int_v r19
      refine ⟨(V.ref p_x_parts), rfl, p_x_parts, ws_x_parts, _, v9, rfl, rfl, (g4.seq nm_x_parts hS_x_parts), ha10, p12, _, _, v17, ev13, rfl, (SqT_mono g4.fh hS14), rfl, ow5.h, rfl, t7.c, (R_vN (K := K) (F := F0) r20), fun o3 => ?_⟩
      have hA21 : RNk [t7.c] [t7.c] := rfl
      have hl22 : ([t7.c] : List (Option Int)).length ≤ sizeLine := (by decide : 1 ≤ sizeLine)
      have g23 := Gr.mut (o := (.frz o3 (DN p1 [t7.c]))) g4 ow5.nF (.inl ow5.n0)
      have g24 := Gr.freeze g23 upd_same ow5.n0
      have sm25 := same_new (o := (.frz o3 (DN p1 [t7.c]))) ow5.nF
      have r26 : RDN (upd F0 p1 (.frz o3 (DN p1 [t7.c]))) (.ref p1) [t7.c] := RNk.rdn hA21 ⟨p1, o3, rfl, upd_same, hl22⟩
      refine ⟨(by show 0 ≤ sizeLine; decide), fun p27 np28 => ?_⟩
      have sm29 := same_new (o := (.tup [])) (g24.noneF np28)
      have g30 := g24.frz (o := (.tup [])) np28
      have hE31 : (upd (upd F0 p1 (.frz o3 (DN p1 [t7.c]))) p27 (.tup [])) p27 = some (.tup []) := upd_same
      refine ⟨(by show 2 ≤ sizeLine; decide), fun p32 np33 => ?_⟩
      have sm34 := same_new (o := (.tup [(V.ref p1), (V.ref p27)])) (g30.noneF np33)
      have g35 := g30.frz (o := (.tup [(V.ref p1), (V.ref p27)])) np33
      have r36 : RTr (upd (upd (upd F0 p1 (.frz o3 (DN p1 [t7.c]))) p27 (.tup [])) p32 (.tup [(V.ref p1), (V.ref p27)])) (.ref p32) (TrD.leaf [t7.c]) := RTr.leaf upd_same (r26.up (Same.trans sm29 sm34)) (sm34 _ _ hE31)
      obtain rfl := sjoin hm
      exact (hQ _ _ _ g35 r36)
    · have hm := ifF hc hm
      refine p_next ?_
      refine p_nx ?_
      refine p_seq ?_
      refine p_asg ?_
      refine ⟨(V.int x_first), rfl, (V.int x_behind), rfl, _, _, rfl, rfl, _, _, rfl, rfl, ⟨by decide, by decide⟩, ?_⟩
      obtain ⟨x_middle37, hb38, hm⟩ := bnd hm
      have hx39 : ((x_first + x_behind) / (2 : Int)) = x_middle37 := sjoin hb38
      refine p_nm (v' := (V.int x_middle37)) (congrArg V.int hx39) ?_
      refine p_nx ?_
      refine p_seq ?_
      refine p_asg ?_
      refine ⟨(V.int x_first), rfl, (V.int x_middle37), rfl, (V.ref p_x_parts), rfl, p_x_parts, rfl, ⟨_, (g0.seq nm_x_parts hS_x_parts)⟩, fun D40 nD41 => ?_⟩
      have g42 := g0.own (o := (.lst [])) nD41
      have ow43 : Ow H0 F0 (upd H0 D40 (.lst [])) D40 [] := Ow.new g0 nD41
      refine lc_list (K := K) (a := p_x_parts) (xs := ws_x_parts) (fun i H' => ∃ (F' : Hp) (acc : List V) (ds : List (T3 Int Int (Option Int))), Gr M0 F0 H0 F' H' ∧ Same F0 F' ∧ Ow H0 F' H' D40 acc ∧ RL K F' acc ds ∧ acc.length ≤ i ∧ ds ++ m_wanted_c1 rec_ x_middle37 (x_parts.drop i) = (m_wanted_c1 rec_ x_middle37 x_parts)) ?_ ?_ ?_ ?_
      · exact ⟨F0, [], [], g42, Same.refl _, ow43, RpA.nil, Nat.le_refl _, rfl⟩
      · intro i H' _ hP
        obtain ⟨F45, acc46, ds47, g048, sm49, owD50, hA51, hi52, hr53⟩ := hP
        exact (g048.seq nm_x_parts hS_x_parts)
      · intro i55 xv54 H57 hx56 hP
        obtain ⟨F58, acc59, ds60, g061, sm62, owD63, hA64, hi65, hr66⟩ := hP
        obtain ⟨e67, he68, r69⟩ := RL.get (hA_x_parts.up sm62) hx56
        rw [drop_at he68, m_wanted_c1.eq_2] at hr66
        obtain ⟨p70, v73, v74, v75, ev71, hS72, r76, r77, r78⟩ := R.p3_v r69
        obtain rfl := R.int_v r76
        obtain rfl := R.int_v r77
        refine ⟨rfl, xv54, rfl, p70, _, _, (V.int e67.a), ev71, rfl, (SqT_mono g061.fh hS72), rfl, (V.int x_middle37), rfl, _, _, rfl, rfl, _, rfl, (iteB (fun hc => ?_) (fun hc => ?_))⟩
        · have hc : (decide (e67.a < x_middle37)) = true := hc
          rw [if_pos hc] at hr66
          have hA79 : RL K F58 (acc59 ++ [xv54]) (ds60 ++ [(e67 : (T3 Int Int (Option Int)))]) := RL.snoc hA64 r69
          refine ⟨xv54, rfl, acc59, owD63.h, (lt_line hi65 (List.getElem?_eq_some_iff.mp hx56).1 hl_x_parts), ?_⟩
          have g80 := g061.put (o := (.lst (acc59 ++ [xv54]))) owD63
          have ow81 := owD63.put (us := (acc59 ++ [xv54]))
          exact ⟨F58, (acc59 ++ [xv54]), (ds60 ++ [e67]), g80, sm62, ow81, hA79, (by rw [List.length_append]; exact Nat.succ_le_succ hi65), (snoc_rest hr66)⟩
        · have hc : (decide (e67.a < x_middle37)) = false := hc
          rw [if_neg (ne_true_of_eq_false hc)] at hr66
          exact ⟨F58, acc59, ds60, g061, sm62, owD63, hA64, (Nat.le_succ_of_le hi65), hr66⟩
      intro H82 hP
      obtain ⟨F83, acc84, ds85, g087, sm88, owD89, hA90, hi91, hr92⟩ := hP
      rw [drop_end (RL.len hA_x_parts)] at hr92
      rw [m_wanted_c1.eq_1, List.append_nil] at hr92
      obtain rfl := hr92
      have hl93 : acc84.length ≤ sizeLine := Nat.le_trans hi91 hl_x_parts
      obtain ⟨r94, hb95, hm⟩ := bnd hm
      refine ⟨F83, x_first, x_middle37, D40, acc84, (m_wanted_c1 rec_ x_middle37 x_parts), r94, rfl, g087.fh, owD89.sq, hl93, hA90, id, hb95, fun v99 F96 H97 g98 r100 => ?_⟩
      have g101 := Gr.trans g087 g98
      have ow102 := owD89.gr0 g98
      refine p_name ?_
      refine p_nx ?_
      refine p_seq ?_
      refine p_asg ?_
      refine ⟨(V.int x_middle37), rfl, (V.int x_behind), rfl, (V.ref p_x_parts), rfl, p_x_parts, rfl, ⟨_, (g101.seq nm_x_parts hS_x_parts)⟩, fun D103 nD104 => ?_⟩
      have ne105 := ow102.ne nD104
      have g106 := g101.own (o := (.lst [])) nD104
      have ow107 := ow102.own (o := (.lst [])) nD104
      have ow108 : Ow H0 F96 (upd H97 D103 (.lst [])) D103 [] := Ow.new g101 nD104
      refine lc_list (K := K) (a := p_x_parts) (xs := ws_x_parts) (fun i H' => ∃ (F' : Hp) (acc : List V) (ds : List (T3 Int Int (Option Int))), Gr M0 F0 H0 F' H' ∧ Same F96 F' ∧ Ow H0 F' H' D103 acc ∧ RL K F' acc ds ∧ acc.length ≤ i ∧ Ow H0 F' H' D40 acc84 ∧ ds ++ m_wanted_c2 rec_ x_middle37 (x_parts.drop i) = (m_wanted_c2 rec_ x_middle37 x_parts)) ?_ ?_ ?_ ?_
      · exact ⟨F96, [], [], g106, Same.refl _, ow108, RpA.nil, Nat.le_refl _, ow107, rfl⟩
      · intro i H' _ hP
        obtain ⟨F110, acc111, ds112, g0113, sm114, owD115, hA116, hi117, ow0118, hr119⟩ := hP
        exact (g0113.seq nm_x_parts hS_x_parts)
      · intro i121 xv120 H123 hx122 hP
        obtain ⟨F124, acc125, ds126, g0127, sm128, owD129, hA130, hi131, ow0132, hr133⟩ := hP
        obtain ⟨e134, he135, r136⟩ := RL.get (hA_x_parts.up (Same.trans sm88 (Same.trans g98.ff sm128))) hx122
        rw [drop_at he135, m_wanted_c2.eq_2] at hr133
        obtain ⟨p137, v140, v141, v142, ev138, hS139, r143, r144, r145⟩ := R.p3_v r136
        obtain rfl := R.int_v r143
        obtain rfl := R.int_v r144
        refine ⟨rfl, xv120, rfl, p137, _, _, (V.int e134.b), ev138, rfl, (SqT_mono g0127.fh hS139), rfl, (V.int x_middle37), rfl, _, _, rfl, rfl, _, rfl, (iteB (fun hc => ?_) (fun hc => ?_))⟩
        · have hc : (decide (x_middle37 < e134.b)) = true := hc
          rw [if_pos hc] at hr133
          have hA146 : RL K F124 (acc125 ++ [xv120]) (ds126 ++ [(e134 : (T3 Int Int (Option Int)))]) := RL.snoc hA130 r136
          refine ⟨xv120, rfl, acc125, owD129.h, (lt_line hi131 (List.getElem?_eq_some_iff.mp hx122).1 hl_x_parts), ?_⟩
          have g147 := g0127.put (o := (.lst (acc125 ++ [xv120]))) owD129
          have ow148 := ow0132.other (o := (.lst (acc125 ++ [xv120]))) ne105
          have ow149 := owD129.put (us := (acc125 ++ [xv120]))
          exact ⟨F124, (acc125 ++ [xv120]), (ds126 ++ [e134]), g147, sm128, ow149, hA146, (by rw [List.length_append]; exact Nat.succ_le_succ hi131), ow148, (snoc_rest hr133)⟩
        · have hc : (decide (x_middle37 < e134.b)) = false := hc
          rw [if_neg (ne_true_of_eq_false hc)] at hr133
          exact ⟨F124, acc125, ds126, g0127, sm128, owD129, hA130, (Nat.le_succ_of_le hi131), ow0132, hr133⟩
      intro H150 hP
      obtain ⟨F151, acc152, ds153, g0155, sm156, owD157, hA158, hi159, ow0160, hr161⟩ := hP
      rw [drop_end (RL.len (hA_x_parts.up (Same.trans sm88 g98.ff)))] at hr161
      rw [m_wanted_c2.eq_1, List.append_nil] at hr161
      obtain rfl := hr161
      have hl162 : acc152.length ≤ sizeLine := Nat.le_trans hi159 hl_x_parts
      obtain ⟨r163, hb164, hm⟩ := bnd hm
      refine ⟨F151, x_middle37, x_behind, D103, acc152, (m_wanted_c2 rec_ x_middle37 x_parts), r163, rfl, g0155.fh, owD157.sq, hl162, hA158, id, hb164, fun v168 F165 H166 g167 r169 => ?_⟩
      have g170 := Gr.trans g0155 g167
      have ow171 := ow0160.gr0 g167
      have ow172 := owD157.gr0 g167
      refine p_name ?_
      refine p_nx ?_
      refine p_seq ?_
      refine p_asg ?_
      obtain ⟨p173, vd174, vh175, ev176, hp177, rd178, rh179⟩ := RTr.inv r100
      have hS180 : SqT K _ p173 [vd174, vh175] := sqT_of hp177
      obtain ⟨d181, o182, ev183, hd184, hl185⟩ := RDN.op rd178
      refine ⟨v99, rfl, p173, _, _, vd174, ev176, rfl, (SqT_mono g170.fh (SqT_mono (Same.trans sm156 g167.ff) hS180)), rfl, d181, o182, (r94).ks, ev183, (g170.fh _ _ (g167.ff _ _ (sm156 _ _ hd184))), fun D186 nD187 => ?_⟩
      have ne188 := ow171.ne nD187
      have ne189 := ow172.ne nD187
      have g190 := g170.own (o := (.dK [])) nD187
      have ow191 := ow171.own (o := (.dK [])) nD187
      have ow192 := ow172.own (o := (.dK [])) nD187
      have ow193 : Od H0 F165 (upd H166 D186 (.dK [])) D186 (.dK []) := Od.new g170 nD187 (fun _ z => nomatch z)
      refine dS_keysN (d := d181) (o := o182) (ks := (r94).ks) (fun i H' => ∃ (F' : Hp) (acc : (List (Option Int))) (ds : List (Option Int)), Gr M0 F0 H0 F' H' ∧ Same F165 F' ∧ Od H0 F' H' D186 (obN D186 acc) ∧ RNk acc (putsN ds) ∧ acc.length ≤ i ∧ Ow H0 F' H' D40 acc84 ∧ Ow H0 F' H' D103 acc152 ∧ ds ++ m_wanted_c3 rec_ r163 ((r94).ks.drop i) = (m_wanted_c3 rec_ r163 (r94).ks)) ?_ ?_ ?_ ?_
      · exact ⟨F165, [], [], g190, Same.refl _, ow193, rfl, Nat.le_refl _, ow191, ow192, rfl⟩
      · intro i H' _ hP
        obtain ⟨F195, acc196, ds197, g0198, sm199, owD200, hA201, hi202, ow0203, ow1204, hr205⟩ := hP
        exact (g0198.fh _ _ (sm199 _ _ (g167.ff _ _ (sm156 _ _ hd184))))
      · intro i207 k210 H209 hx208 hP
        obtain ⟨F211, acc212, ds213, g0214, sm215, owD216, hA217, hi218, ow0219, ow1220, hr221⟩ := hP
        have r223 : R K F211 (vN k210) k210 := R_ofN k210
        rw [drop_at hx208, m_wanted_c3.eq_2] at hr221
        obtain ⟨p224, vd225, vh226, ev227, hp228, rd229, rh230⟩ := RTr.inv r169
        have hS231 : SqT K _ p224 [vd225, vh226] := sqT_of hp228
        obtain ⟨d232, o233, ev234, hd235, hl236⟩ := RDN.op rd229
        refine ⟨rfl, (vN k210), rfl, v168, rfl, p224, _, _, vd225, ev227, rfl, (SqT_mono g0214.fh (SqT_mono sm215 hS231)), rfl, k210, d232, o233, (r163).ks, (R_vN (K := K) (F := F211) r223), ev234, (g0214.fh _ _ (sm215 _ _ hd235)), _, rfl, (iteB (fun hc => ?_) (fun hc => ?_))⟩
        · have hc : (decide (k210 ∈ (r163).ks)) = true := hc
          rw [if_pos hc] at hr221
          have hA237 : RNk (putN acc212 k210) (putsN (ds213 ++ [k210])) := RNk.put hA217 k210
          refine ⟨(vN k210), rfl, _, (sn_put owD216.h (R_vN (K := K) (F := F211) r223) (lt_line hi218 (List.getElem?_eq_some_iff.mp hx208).1 hl185)), ?_⟩
          have g238 := Gr.mut (o := (obN D186 (putN acc212 k210))) g0214 owD216.nF (.inl owD216.n0)
          have ow239 := ow0219.other (o := (obN D186 (putN acc212 k210))) ne188
          have ow240 := ow1220.other (o := (obN D186 (putN acc212 k210))) ne189
          have ow241 := owD216.put (o := (obN D186 (putN acc212 k210))) obN_nt
          exact ⟨F211, (putN acc212 k210), (ds213 ++ [k210]), g238, sm215, ow241, hA237, (Nat.le_trans (putN_len _ _) (Nat.succ_le_succ hi218)), ow239, ow240, (snoc_rest hr221)⟩
        · have hc : (decide (k210 ∈ (r163).ks)) = false := hc
          rw [if_neg (ne_true_of_eq_false hc)] at hr221
          exact ⟨F211, acc212, ds213, g0214, sm215, owD216, hA217, (Nat.le_succ_of_le hi218), ow0219, ow1220, hr221⟩
      intro H242 hP
      obtain ⟨F243, acc244, ds245, g0246, sm247, owD248, hA249, hi250, ow0251, ow1252, hr253⟩ := hP
      rw [drop_end rfl] at hr253
      rw [m_wanted_c3.eq_1, List.append_nil] at hr253
      obtain rfl := hr253
      have hl254 : acc244.length ≤ sizeLine := Nat.le_trans hi250 hl185
      refine p_name ?_
      refine ⟨D186, acc244, (nh_of owD248.h), fun o255 => ?_⟩
      have g256 := Gr.mut (o := (.frz o255 (DN D186 acc244))) g0246 owD248.nF (.inl owD248.n0)
      have g257 := Gr.freeze g256 upd_same owD248.n0
      have sm258 := same_new (o := (.frz o255 (DN D186 acc244))) owD248.nF
      have ow259 := ow0251.other (o := (.frz o255 (DN D186 acc244))) ne188
      have ow260 : Ow H0 (upd F243 D186 (.frz o255 (DN D186 acc244))) (upd H242 D186 (.frz o255 (DN D186 acc244))) D40 acc84 := ow259.fz ne188
      have ow261 := ow1252.other (o := (.frz o255 (DN D186 acc244))) ne189
      have ow262 : Ow H0 (upd F243 D186 (.frz o255 (DN D186 acc244))) (upd H242 D186 (.frz o255 (DN D186 acc244))) D103 acc152 := ow261.fz ne189
      have r263 : RDN (upd F243 D186 (.frz o255 (DN D186 acc244))) (.ref D186) (putsN (m_wanted_c3 rec_ r163 (r94).ks)) := RNk.rdn hA249 ⟨D186, o255, rfl, upd_same, hl254⟩
      refine p_nx ?_
      refine p_seq ?_
      refine p_asg ?_
      refine ⟨v99, rfl, p173, _, _, vd174, ev176, rfl, (SqT_mono g257.fh (SqT_mono (Same.trans sm156 (Same.trans g167.ff (Same.trans sm247 sm258))) hS180)), rfl, d181, o182, (r94).ks, (by rw [ev183]), (g257.fh _ _ (sm258 _ _ (sm247 _ _ (g167.ff _ _ (sm156 _ _ hd184))))), fun p264 np265 => ?_⟩
      have hl266 : (((r94).ks).map vN).length ≤ sizeLine := by rw [List.length_map]; exact hl185
      have hA267 : RL K (upd F243 D186 (.frz o255 (DN D186 acc244))) (((r94).ks).map vN) (r94).ks := RL_ofN _
      have ne268 := ow260.ne np265
      have ne269 := ow262.ne np265
      have g270 := g257.own (o := (.lst (((r94).ks).map vN))) np265
      have ow271 := ow260.own (o := (.lst (((r94).ks).map vN))) np265
      have ow272 := ow262.own (o := (.lst (((r94).ks).map vN))) np265
      have ow273 : Ow H0 (upd F243 D186 (.frz o255 (DN D186 acc244))) (upd (upd H242 D186 (.frz o255 (DN D186 acc244))) p264 (.lst (((r94).ks).map vN))) p264 (((r94).ks).map vN) := Ow.new g257 np265
      obtain ⟨p274, vd275, vh276, ev277, hp278, rd279, rh280⟩ := RTr.inv r169
      have hS281 : SqT K _ p274 [vd275, vh276] := sqT_of hp278
      obtain ⟨d282, o283, ev284, hd285, hl286⟩ := RDN.op rd279
      refine ⟨v168, rfl, p274, _, _, vd275, ev277, rfl, (SqT_mono g270.fh (SqT_mono (Same.trans sm247 sm258) hS281)), rfl, d282, o283, (r163).ks, (by rw [ev284]), (g270.fh _ _ (sm258 _ _ (sm247 _ _ hd285))), fun p287 np288 => ?_⟩
      have hl289 : (((r163).ks).map vN).length ≤ sizeLine := by rw [List.length_map]; exact hl286
      have hA290 : RL K (upd F243 D186 (.frz o255 (DN D186 acc244))) (((r163).ks).map vN) (r163).ks := RL_ofN _
      have ne291 := ow271.ne np288
      have ne292 := ow272.ne np288
      have ne293 := ow273.ne np288
      have g294 := g270.own (o := (.lst (((r163).ks).map vN))) np288
      have ow295 := ow271.own (o := (.lst (((r163).ks).map vN))) np288
      have ow296 := ow272.own (o := (.lst (((r163).ks).map vN))) np288
      have ow297 := ow273.own (o := (.lst (((r163).ks).map vN))) np288
      have ow298 : Ow H0 (upd F243 D186 (.frz o255 (DN D186 acc244))) (upd (upd (upd H242 D186 (.frz o255 (DN D186 acc244))) p264 (.lst (((r94).ks).map vN))) p287 (.lst (((r163).ks).map vN))) p287 (((r163).ks).map vN) := Ow.new g270 np288
      obtain ⟨t299, hb300, hm⟩ := bnd hm
      obtain ⟨hk301, rfl⟩ := conL_ok hb300
      have hz304 : ((((r94).ks).map vN) ++ (((r163).ks).map vN)).length ≤ sizeLine := by rw [List.length_append, RL.len hA267, RL.len hA290]; exact hk301
      refine ⟨p264, p287, (((r94).ks).map vN), (((r163).ks).map vN), rfl, rfl, ow297.sq, ow298.sq, (by rw [RL.len hA267, RL.len hA290]; exact hk301), fun p302 np303 => ?_⟩
      have hA305 := RL.app hA267 hA290
      have ne307 := ow295.ne np303
      have ne308 := ow296.ne np303
      have ne309 := ow297.ne np303
      have ne310 := ow298.ne np303
      have g311 := g294.own (o := (.lst ((((r94).ks).map vN) ++ (((r163).ks).map vN)))) np303
      have ow312 := ow295.own (o := (.lst ((((r94).ks).map vN) ++ (((r163).ks).map vN)))) np303
      have ow313 := ow296.own (o := (.lst ((((r94).ks).map vN) ++ (((r163).ks).map vN)))) np303
      have ow314 := ow297.own (o := (.lst ((((r94).ks).map vN) ++ (((r163).ks).map vN)))) np303
      have ow315 := ow298.own (o := (.lst ((((r94).ks).map vN) ++ (((r163).ks).map vN)))) np303
      have ow316 : Ow H0 (upd F243 D186 (.frz o255 (DN D186 acc244))) (upd (upd (upd (upd H242 D186 (.frz o255 (DN D186 acc244))) p264 (.lst (((r94).ks).map vN))) p287 (.lst (((r163).ks).map vN))) p302 (.lst ((((r94).ks).map vN) ++ (((r163).ks).map vN)))) p302 ((((r94).ks).map vN) ++ (((r163).ks).map vN)) := Ow.new g294 np303
      refine ⟨p302, rfl, ⟨_, ow316.sq⟩, fun D317 nD318 => ?_⟩
      have ne319 := ow312.ne nD318
      have ne320 := ow313.ne nD318
      have ne321 := ow314.ne nD318
      have ne322 := ow315.ne nD318
      have ne323 := ow316.ne nD318
      have g324 := g311.own (o := (.dK [])) nD318
      have ow325 := ow312.own (o := (.dK [])) nD318
      have ow326 := ow313.own (o := (.dK [])) nD318
      have ow327 := ow314.own (o := (.dK [])) nD318
      have ow328 := ow315.own (o := (.dK [])) nD318
      have ow329 := ow316.own (o := (.dK [])) nD318
      have ow330 : Od H0 (upd F243 D186 (.frz o255 (DN D186 acc244))) (upd (upd (upd (upd (upd H242 D186 (.frz o255 (DN D186 acc244))) p264 (.lst (((r94).ks).map vN))) p287 (.lst (((r163).ks).map vN))) p302 (.lst ((((r94).ks).map vN) ++ (((r163).ks).map vN)))) D317 (.dK [])) D317 (.dK []) := Od.new g311 nD318 (fun _ z => nomatch z)
      refine dS_list (K := K) (a := p302) (xs := ((((r94).ks).map vN) ++ (((r163).ks).map vN))) (fun i H' => ∃ (F' : Hp) (acc : (List (Option Int))) (ds : List (Option Int)), Gr M0 F0 H0 F' H' ∧ Same (upd F243 D186 (.frz o255 (DN D186 acc244))) F' ∧ Od H0 F' H' D317 (obN D317 acc) ∧ RNk acc (putsN ds) ∧ acc.length ≤ i ∧ Ow H0 F' H' D40 acc84 ∧ Ow H0 F' H' D103 acc152 ∧ Ow H0 F' H' p264 (((r94).ks).map vN) ∧ Ow H0 F' H' p287 (((r163).ks).map vN) ∧ Ow H0 F' H' p302 ((((r94).ks).map vN) ++ (((r163).ks).map vN)) ∧ ds ++ m_wanted_c4 rec_  (((r94).ks ++ (r163).ks).drop i) = (m_wanted_c4 rec_  ((r94).ks ++ (r163).ks))) ?_ ?_ ?_ ?_
      · exact ⟨(upd F243 D186 (.frz o255 (DN D186 acc244))), [], [], g324, Same.refl _, ow330, rfl, Nat.le_refl _, ow325, ow326, ow327, ow328, ow329, rfl⟩
      · intro i H' _ hP
        obtain ⟨F332, acc333, ds334, g0335, sm336, owD337, hA338, hi339, ow0340, ow1341, ow2342, ow3343, ow4344, hr345⟩ := hP
        exact ow4344.sq
      · intro i347 xv346 H349 hx348 hP
        obtain ⟨F350, acc351, ds352, g0353, sm354, owD355, hA356, hi357, ow0358, ow1359, ow2360, ow3361, ow4362, hr363⟩ := hP
        obtain ⟨e364, he365, r366⟩ := RL.get (hA305.up sm354) hx348
        rw [drop_at he365, m_wanted_c4.eq_2] at hr363
        refine ⟨rfl, (p_yes ?_)⟩
        have hA367 : RNk (putN acc351 e364) (putsN (ds352 ++ [e364])) := RNk.put hA356 e364
        refine ⟨xv346, rfl, _, (sn_put owD355.h (R_vN (K := K) (F := F350) r366) (lt_line hi357 (List.getElem?_eq_some_iff.mp hx348).1 hz304)), ?_⟩
        have g368 := Gr.mut (o := (obN D317 (putN acc351 e364))) g0353 owD355.nF (.inl owD355.n0)
        have ow369 := ow0358.other (o := (obN D317 (putN acc351 e364))) ne319
        have ow370 := ow1359.other (o := (obN D317 (putN acc351 e364))) ne320
        have ow371 := ow2360.other (o := (obN D317 (putN acc351 e364))) ne321
        have ow372 := ow3361.other (o := (obN D317 (putN acc351 e364))) ne322
        have ow373 := ow4362.other (o := (obN D317 (putN acc351 e364))) ne323
        have ow374 := owD355.put (o := (obN D317 (putN acc351 e364))) obN_nt
        exact ⟨F350, (putN acc351 e364), (ds352 ++ [e364]), g368, sm354, ow374, hA367, (Nat.le_trans (putN_len _ _) (Nat.succ_le_succ hi357)), ow369, ow370, ow371, ow372, ow373, (snoc_rest hr363)⟩
      intro H375 hP
      obtain ⟨F376, acc377, ds378, g0379, sm380, owD381, hA382, hi383, ow0384, ow1385, ow2386, ow3387, ow4388, hr389⟩ := hP
      rw [drop_end (RL.len hA305)] at hr389
      rw [m_wanted_c4.eq_1, List.append_nil] at hr389
      obtain rfl := hr389
      have hl390 : acc377.length ≤ sizeLine := Nat.le_trans hi383 hz304
      refine p_name ?_
      refine ⟨D317, acc377, (nh_of owD381.h), fun o391 => ?_⟩
      have g392 := Gr.mut (o := (.frz o391 (DN D317 acc377))) g0379 owD381.nF (.inl owD381.n0)
      have g393 := Gr.freeze g392 upd_same owD381.n0
      have sm394 := same_new (o := (.frz o391 (DN D317 acc377))) owD381.nF
      have ow395 := ow0384.other (o := (.frz o391 (DN D317 acc377))) ne319
      have ow396 : Ow H0 (upd F376 D317 (.frz o391 (DN D317 acc377))) (upd H375 D317 (.frz o391 (DN D317 acc377))) D40 acc84 := ow395.fz ne319
      have ow397 := ow1385.other (o := (.frz o391 (DN D317 acc377))) ne320
      have ow398 : Ow H0 (upd F376 D317 (.frz o391 (DN D317 acc377))) (upd H375 D317 (.frz o391 (DN D317 acc377))) D103 acc152 := ow397.fz ne320
      have ow399 := ow2386.other (o := (.frz o391 (DN D317 acc377))) ne321
      have ow400 : Ow H0 (upd F376 D317 (.frz o391 (DN D317 acc377))) (upd H375 D317 (.frz o391 (DN D317 acc377))) p264 (((r94).ks).map vN) := ow399.fz ne321
      have ow401 := ow3387.other (o := (.frz o391 (DN D317 acc377))) ne322
      have ow402 : Ow H0 (upd F376 D317 (.frz o391 (DN D317 acc377))) (upd H375 D317 (.frz o391 (DN D317 acc377))) p287 (((r163).ks).map vN) := ow401.fz ne322
      have ow403 := ow4388.other (o := (.frz o391 (DN D317 acc377))) ne323
      have ow404 : Ow H0 (upd F376 D317 (.frz o391 (DN D317 acc377))) (upd H375 D317 (.frz o391 (DN D317 acc377))) p302 ((((r94).ks).map vN) ++ (((r163).ks).map vN)) := ow403.fz ne323
      have r405 : RDN (upd F376 D317 (.frz o391 (DN D317 acc377))) (.ref D317) (putsN (m_wanted_c4 rec_  ((r94).ks ++ (r163).ks))) := RNk.rdn hA382 ⟨D317, o391, rfl, upd_same, hl390⟩
      refine p_nx ?_
      refine p_ret ?_
      refine ⟨(V.ref D186), rfl, fun p406 np407 => ?_⟩
      have ne408 := ow396.ne np407
      have ne409 := ow398.ne np407
      have ne410 := ow400.ne np407
      have ne411 := ow402.ne np407
      have ne412 := ow404.ne np407
      have g413 := g393.own (o := (.dK [])) np407
      have ow414 := ow396.own (o := (.dK [])) np407
      have ow415 := ow398.own (o := (.dK [])) np407
      have ow416 := ow400.own (o := (.dK [])) np407
      have ow417 := ow402.own (o := (.dK [])) np407
      have ow418 := ow404.own (o := (.dK [])) np407
      have ow419 : Od H0 (upd F376 D317 (.frz o391 (DN D317 acc377))) (upd (upd H375 D317 (.frz o391 (DN D317 acc377))) p406 (.dK [])) p406 (.dK []) := Od.new g393 np407 (fun _ z => nomatch z)
      have hA420 : RD (α := Int) (β := Bool) K (upd F376 D317 (.frz o391 (DN D317 acc377))) [] [] := RD.nil
      obtain ⟨d421, o422, ev423, hd424, hl425⟩ := RDN.op r263
      refine ⟨d421, o422, (putsN (m_wanted_c3 rec_ r163 (r94).ks)), p406, ev423, rfl, (g413.fh _ _ (sm394 _ _ (sm380 _ _ hd424))), ow419.h, _, rfl, ?_⟩
      refine ifJ (M := M0) (F := (upd F376 D317 (.frz o391 (DN D317 acc377)))) (P := fun v' F' H' => RDN F' v' ((if (!((putsN (m_wanted_c3 rec_ r163 (r94).ks))).isEmpty) then (putsN (m_wanted_c3 rec_ r163 (r94).ks)) else (putsN (m_wanted_c4 rec_  ((r94).ks ++ (r163).ks)))) : (List (Option Int)))) (fun ha => ?_) (fun ha => ?_) ?_
      · intro Q428 q429
        have ha : (!((putsN (m_wanted_c3 rec_ r163 (r94).ks))).isEmpty) = true := ha
        refine ⟨(V.ref D186), rfl, (q429 _ _ _ (Gr.refl (M := M0) g413.fh) (by rw [if_pos ha]; exact (r263.up (Same.trans sm380 sm394))))⟩
      · intro Q430 q431
        have ha : (!((putsN (m_wanted_c3 rec_ r163 (r94).ks))).isEmpty) = false := ha
        refine ⟨(V.ref D317), rfl, (q431 _ _ _ (Gr.refl (M := M0) g413.fh) (by rw [if_neg (ne_true_of_eq_false ha)]; exact r405))⟩
      intro v435 F432 H433 g434 hp436
      have g438 := Gr.trans g413 g434
      have ow439 := ow414.gr0 g434
      have ow440 := ow415.gr0 g434
      have ow441 := ow416.gr0 g434
      have ow442 := ow417.gr0 g434
      have ow443 := ow418.gr0 g434
      have ow444 := ow419.gr0 g434
      refine ⟨v99, rfl, v168, rfl, (by show 2 ≤ sizeLine; decide), fun p445 np446 => ?_⟩
      have ne447 := ow439.ne np446
      have ne448 := ow440.ne np446
      have ne449 := ow441.ne np446
      have ne450 := ow442.ne np446
      have ne451 := ow443.ne np446
      have ne452 := ow444.ne np446
      have sm453 := same_new (o := (.tup [v99, v168])) (g438.noneF np446)
      have g454 := g438.frz (o := (.tup [v99, v168])) np446
      have ow455 := ow439.frz (o := (.tup [v99, v168])) np446
      have ow456 := ow440.frz (o := (.tup [v99, v168])) np446
      have ow457 := ow441.frz (o := (.tup [v99, v168])) np446
      have ow458 := ow442.frz (o := (.tup [v99, v168])) np446
      have ow459 := ow443.frz (o := (.tup [v99, v168])) np446
      have ow460 := ow444.frz (o := (.tup [v99, v168])) np446
      have hE461 : (upd F432 p445 (.tup [v99, v168])) p445 = some (.tup [v99, v168]) := upd_same
      refine ⟨(by show 2 ≤ sizeLine; decide), fun p462 np463 => ?_⟩
      have ne464 := ow455.ne np463
      have ne465 := ow456.ne np463
      have ne466 := ow457.ne np463
      have ne467 := ow458.ne np463
      have ne468 := ow459.ne np463
      have ne469 := ow460.ne np463
      have sm470 := same_new (o := (.tup [v435, (V.ref p445)])) (g454.noneF np463)
      have g471 := g454.frz (o := (.tup [v435, (V.ref p445)])) np463
      have ow472 := ow455.frz (o := (.tup [v435, (V.ref p445)])) np463
      have ow473 := ow456.frz (o := (.tup [v435, (V.ref p445)])) np463
      have ow474 := ow457.frz (o := (.tup [v435, (V.ref p445)])) np463
      have ow475 := ow458.frz (o := (.tup [v435, (V.ref p445)])) np463
      have ow476 := ow459.frz (o := (.tup [v435, (V.ref p445)])) np463
      have ow477 := ow460.frz (o := (.tup [v435, (V.ref p445)])) np463
      have r478 : RTr (upd (upd F432 p445 (.tup [v99, v168])) p462 (.tup [v435, (V.ref p445)])) (.ref p462) (TrD.node (if (!((putsN (m_wanted_c3 rec_ r163 (r94).ks))).isEmpty) then (putsN (m_wanted_c3 rec_ r163 (r94).ks)) else (putsN (m_wanted_c4 rec_  ((r94).ks ++ (r163).ks)))) r94 r163) := RTr.node upd_same (hp436.up (Same.trans sm453 sm470)) (sm470 _ _ hE461) (r100.up (Same.trans sm156 (Same.trans g167.ff (Same.trans sm247 (Same.trans sm258 (Same.trans sm380 (Same.trans sm394 (Same.trans g434.ff (Same.trans sm453 sm470))))))))) (r169.up (Same.trans sm247 (Same.trans sm258 (Same.trans sm380 (Same.trans sm394 (Same.trans g434.ff (Same.trans sm453 sm470)))))))
      obtain rfl := sjoin hm
      exact (hQ _ _ _ g471 r478)
theorem okA_wanted {P : Program} {w : World} {K : PySem.W.Frag} {mg : Str → Option Value} {base : Heap} (T : Txt K mg) : ∀ n_ : Nat, FnOk P w K mg base CX0 (0 + n_) T.a_wanted T.d_wanted ["first", "behind", "parts"] (spR_wanted (m_wanted n_) K)
  | 0 => ⟨fun vs H Q E h => by
      obtain ⟨_, _, _, _, _, _, _, rfl, _⟩ := h
      rfl, fun A outer s H args us vs Q E hr he hb hv h => by
      obtain ⟨_, _, _, _, _, _, _, _, _, _, _, _, _, hm, _⟩ := h
      cases hm⟩
  | n_ + 1 => okS_wanted T (0 + n_) (Nat.le_add_right _ _) (m_wanted n_) (okA_wanted T n_)
theorem ok_wanted {P : Program} {w : World} {K : PySem.W.Frag} {mg : Str → Option Value} {base : Heap} (T : Txt K mg) : FnOk P w K mg base CX0 40 T.a_wanted T.d_wanted ["first", "behind", "parts"] (sp_wanted K) := okA_wanted T 40
end K33
set_option synthInstance.maxSize 1000
set_option synthInstance.maxHeartbeats 400000
namespace K33
open PySem PySem.Spec PyProof.Rows L2 TL G
theorem ok_chosen {P : Program} {w : World} {K : PySem.W.Frag} {mg : Str → Option Value} {base : Heap} (T : Txt K mg) : FnOk P w K mg base CX0 1 T.a_chosen T.d_chosen ["values"] (sp_chosen K) := by
  refine fd_ok T.F_chosen sc_chosen (fun vs H Q E h => ?_) (fun cdv A outer s H0 vs Q E hr h => ?_)
  · obtain ⟨_, _, _, _, rfl, _⟩ := h
    rfl
  · obtain ⟨F0, v_x_values, x_values, r, rfl, hS0, r_x_values, hm, hQ⟩ := h
    refine ⟨_, (pss_cons (ps_setLc (i := 1) (own := [("value", 2)]) rfl sc_chosen.nd rfl rfl (sw_true rfl rfl rfl (by decide +kernel)) (pi_keysN (pv 0)) (blkOk_by (own := [("value", 2)]) (N := N_chosen) (sc := defScope s_chosen) (by decide +kernel)) (fun _ _ _ _ _ => (pg_name (i := 2) sc_chosen.nd rfl (Or.inl rfl) (.inr rfl))) (fun _ _ _ _ _ => (pts_one (pt_cmpR op_notO (pv 2) pe_non (nomark _)))) (fun _ _ _ _ _ => (pv 2))) (pss_one (ps_ret (pe_ifExp (pt_cmpR (op_neDK (K := K) hr.units) (pv 1) (pe_lst pa_nil) (nomark _)) (pe_callB (cr_minK' (K := K) rfl) (by rfl) T.n_min (by decide +kernel) (pa_cons (pv 1) pa_nil)) pe_non)))), ?_⟩
    have g0 : Gr M0 F0 H0 F0 H0 := Gr.refl hS0
    unfold m_chosen at hm
    refine p_seq ?_
    refine p_asg ?_
    obtain ⟨d1, o2, ev3, hd4, hl5⟩ := RDN.op r_x_values
    refine ⟨v_x_values, rfl, d1, o2, x_values, ev3, (g0.fh _ _ hd4), fun D6 nD7 => ?_⟩
    have g8 := g0.own (o := (.lst [])) nD7
    have ow9 : Ow H0 F0 (upd H0 D6 (.lst [])) D6 [] := Ow.new g0 nD7
    obtain ⟨l10, hb11, hm⟩ := bnd hm
    refine lc_keysN (d := d1) (o := o2) (ks := x_values) (fun i H' => ∃ (F' : Hp) (acc : List V) (ds : List Int) (rest : List Int), Gr M0 F0 H0 F' H' ∧ Same F0 F' ∧ Ow H0 F' H' D6 acc ∧ RL K F' acc ds ∧ acc.length ≤ i ∧ m_chosen_c1  (x_values.drop i) = some rest ∧ ds ++ rest = l10) ?_ ?_ ?_ ?_
    · exact ⟨F0, [], [], l10, g8, Same.refl _, ow9, RpA.nil, Nat.le_refl _, hb11, rfl⟩
    · intro i H' _ hP
      obtain ⟨F12, acc13, ds14, rest15, g016, sm17, owD18, hA19, hi20, hm21, hr22⟩ := hP
      exact (g016.fh _ _ (sm17 _ _ hd4))
    · intro i24 k27 H26 hx25 hP
      obtain ⟨F28, acc29, ds30, rest31, g032, sm33, owD34, hA35, hi36, hm37, hr38⟩ := hP
      have r40 : R K F28 (vN k27) k27 := R_ofN k27
      rw [drop_at hx25, m_chosen_c1.eq_2] at hm37
      refine ⟨rfl, (vN k27), rfl, _, rfl, (isN_eq r40), _, rfl, (iteB (fun hc => ?_) (fun hc => ?_))⟩
      · have hc : (!(k27).isNone) = true := hc
        have hm37 := ifT hc hm37
        obtain ⟨t41, hb42, hm37⟩ := bnd hm37
        have eq43 : (vN k27) = V.int t41 := R.int_v (getO_ok (x := t41) hb42 r40)
        have hA44 : RL K F28 (acc29 ++ [(vN k27)]) (ds30 ++ [(t41 : Int)]) := RL.snoc hA35 (by rw [eq43]; exact Rp.int t41)
        obtain ⟨rest45, h46, h47⟩ := bnd hm37
        obtain rfl := sjoin h47
        refine ⟨(vN k27), rfl, acc29, owD34.h, (lt_line hi36 (List.getElem?_eq_some_iff.mp hx25).1 hl5), ?_⟩
        have g48 := g032.put (o := (.lst (acc29 ++ [(vN k27)]))) owD34
        have ow49 := owD34.put (us := (acc29 ++ [(vN k27)]))
        exact ⟨F28, (acc29 ++ [(vN k27)]), (ds30 ++ [t41]), rest45, g48, sm33, ow49, hA44, (by rw [List.length_append]; exact Nat.succ_le_succ hi36), h46, (snoc_rest hr38)⟩
      · have hc : (!(k27).isNone) = false := hc
        have hm37 := ifF hc hm37
        exact ⟨F28, acc29, ds30, rest31, g032, sm33, owD34, hA35, (Nat.le_succ_of_le hi36), hm37, hr38⟩
    intro H50 hP
    obtain ⟨F51, acc52, ds53, _rest, g055, sm56, owD57, hA58, hi59, hm60, hr61⟩ := hP
    rw [drop_end rfl] at hm60
    rw [m_chosen_c1.eq_1] at hm60
    obtain rfl := sjoin hm60
    rw [List.append_nil] at hr61
    obtain rfl := hr61
    have hl62 : acc52.length ≤ sizeLine := Nat.le_trans hi59 hl5
    refine p_name ?_
    refine p_nx ?_
    refine p_ret ?_
    refine ⟨(V.ref D6), rfl, (by show 0 ≤ sizeLine; decide), fun p63 np64 => ?_⟩
    have ne65 := owD57.ne np64
    have g66 := g055.own (o := (.lst [])) np64
    have ow67 := owD57.own (o := (.lst [])) np64
    have ow68 : Ow H0 F51 (upd H50 p63 (.lst [])) p63 [] := Ow.new g055 np64
    have rH70 : R K (upd H50 p63 (.lst [])) (V.ref D6) ds53 := (R.mkl ow67.sq hl62 (RpA.up hA58 g66.fh))
    have rH71 : R K (upd H50 p63 (.lst [])) (V.ref p63) ([] : (List Int)) := (R.mkl ow68.sq (by show 0 ≤ sizeLine; decide) (RpA.up RpA.nil g66.fh))
    refine ⟨_, _, (Rp.dp _ _ rH70), (Rp.dp _ _ rH71), (R.shaped rH70), (R.shaped rH71), _, rfl, ?_⟩
    obtain ⟨c72, hc74, hm⟩ := bnd hm
    refine ifJ (M := M0) (F := F51) (P := fun v' F' H' => R K F' v' (c72 : (Option Int))) (fun ha => ?_) (fun ha => ?_) ?_
    · intro Q75 q76
      have ha : (!eqD ds53 ([] : (List Int))) = true := ha
      have hc74 := ifT ha hc74
      obtain ⟨t77, hb78, hc74⟩ := bnd hc74
      refine ⟨(V.ref D6), rfl, D6, ds53, rfl, (by rw [← RL.ints hA58]; exact ow67.sq), (minO_ok hb78).1, fun m79 hm80 hl81 => ?_⟩
      obtain rfl := min_uniq hb78 hm80 hl81
      obtain rfl := sjoin hc74
      exact (q76 _ _ _ (Gr.refl (M := M0) g66.fh) (Rp.int m79))
    · intro Q82 q83
      have ha : (!eqD ds53 ([] : (List Int))) = false := ha
      have hc74 := ifF ha hc74
      obtain rfl := sjoin hc74
      exact (q83 _ _ _ (Gr.refl (M := M0) g66.fh) Rp.non)
    intro v87 F84 H85 g86 hp88
    have g90 := Gr.trans g66 g86
    have ow91 := ow67.gr0 g86
    have ow92 := ow68.gr0 g86
    obtain rfl := sjoin hm
    exact (hQ _ _ _ g90 hp88)
end K33
set_option synthInstance.maxSize 1000
set_option synthInstance.maxHeartbeats 400000
namespace K33
open PySem PySem.Spec PyProof.Rows L2 TL G
theorem okS_rows_below {P : Program} {w : World} {K : PySem.W.Frag} {mg : Str → Option Value} {base : Heap} (T : Txt K mg) (k_ : Nat) (hk_ : 1 ≤ k_) (rec_ : (TrD → Str → (Option Int) → Int → Option (List (Str × (Option Int))))) (ih_ : FnOk P w K mg base CX0 k_ T.a_rows_below T.d_rows_below ["tree", "beginning", "above", "width"] (spR_rows_below rec_ K)) : FnOk P w K mg base CX0 (k_ + 1) T.a_rows_below T.d_rows_below ["tree", "beginning", "above", "width"] (spR_rows_below (mS_rows_below rec_) K) := by
  have G_chosen : FnOk P w K mg base CX0 1 T.a_chosen T.d_chosen ["values"] (sp_chosen K) := ok_chosen T
  have b_chosen := T.F_chosen.bindsN (ps := ["values"]) fun _ _ _ _ _ _ us hl => match us, hl with | [_], _ => rfl
  have b_rows_below := T.F_rows_below.bindsN (ps := ["tree", "beginning", "above", "width"]) fun _ _ _ _ _ _ us hl => match us, hl with | [_, _, _, _], _ => rfl
  refine fd_ok T.F_rows_below sc_rows_below (fun vs H Q E h => ?_) (fun cdv A outer s H0 vs Q E hr h => ?_)
  · obtain ⟨_, _, _, _, _, _, _, _, rfl, _⟩ := h
    rfl
  · obtain ⟨F0, v_x_tree, x_tree, x_beginning, v_x_above, x_above, x_width, r, rfl, hS0, r_x_tree, gs_x_beginning, r_x_above, hm, hQ⟩ := h
    refine ⟨_, (pss_cons (ps_asg (pv 0) (pg_tupK (K := K) 2 rfl (pgs_cons (pg_name (i := 4) sc_rows_below.nd rfl (Or.inl rfl)) (pgs_cons (pg_name (i := 5) sc_rows_below.nd rfl (Or.inl rfl)) pgs_nil)))) (pss_cons (ps_set (i := 6) sc_rows_below.nd rfl (.inl rfl) (pe_lst pa_nil)) (pss_cut (ps_if (pt_cmpR op_notInN (pv 2) (pv 4) rfl) (pss_cons (ps_set (i := 2) sc_rows_below.nd rfl (.inl rfl) (pe_call G_chosen (hr.mono (Nat.le_trans (by decide) hk_)) (by rfl) T.g_chosen T.F_chosen.kp b_chosen .nil pass0 (pa_cons (pv 4) pa_nil))) (pss_one (ps_expr (pe_bmK (K := K) PySem.F.plainAttrs_list PySem.F.slot_list_append PySem.F.type_list_append mt_append (pv 6) (pa_cons (pe_tup (pa_cons (pe_op op_add_str (pv 1) (pe_op op_mulS (pe_glob (v := (V.str ("*" : Str))) rfl T.k_STAR ⟨_, rfl⟩) (pe_callTy call_toI (by rfl) T.n_int (by decide +kernel) (pa_cons (pe_cmpR op_lt (pe_callB call_len_str (by rfl) T.n_len (by decide +kernel) (pa_cons (pv 1) pa_nil)) (pv 3) (nomark _)) pa_nil)))) (pa_cons (pv 2) pa_nil))) pa_nil))))) pss_nil) (pss_cons (ps_for PassesOwn.never rfl (pi_zipS (by rfl) T.n_zip (pa_cons pe_str (pa_cons (pv 5) pa_nil))) (pg_tupK (K := K) 2 rfl (pgs_cons (pg_name (i := 7) sc_rows_below.nd rfl (Or.inl rfl)) (pgs_cons (pg_name (i := 8) sc_rows_below.nd rfl (Or.inl rfl)) pgs_nil))) (pss_one (ps_expr (pe_bmK (K := K) PySem.F.plainAttrs_list PySem.F.slot_list_extend PySem.F.type_list_extend mt_extend (pv 6) (pa_cons (pe_call ih_ hr (by rfl) T.g_rows_below T.F_rows_below.kp b_rows_below .nil pass0 (pa_cons (pv 8) (pa_cons (pe_op op_add_str (pv 1) (pv 7)) (pa_cons (pv 2) (pa_cons (pv 3) pa_nil))))) pa_nil))))) (pss_one (ps_ret (pv 6))))))), ?_⟩
    have g0 : Gr M0 F0 H0 F0 H0 := Gr.refl hS0
    unfold mS_rows_below at hm
    refine p_seq ?_
    refine p_asg ?_
    refine ⟨v_x_tree, rfl, ?_⟩
    obtain ⟨p1, vd2, vh3, ev4, hp5, rd6, rh7⟩ := RTr.inv r_x_tree
    have hS8 : SqT K _ p1 [vd2, vh3] := sqT_of hp5
    refine ⟨p1, [vd2, vh3], ev4, (SqT_mono g0.fh hS8), rfl, vd2, [vh3], rfl, vh3, [], rfl, rfl, ?_⟩
    refine p_nx ?_
    refine p_seq ?_
    refine p_asg ?_
    refine ⟨(by show 0 ≤ sizeLine; decide), fun p9 np10 => ?_⟩
    have g11 := g0.own (o := (.lst [])) np10
    have ow12 : Ow H0 F0 (upd H0 p9 (.lst [])) p9 [] := Ow.new g0 np10
    have hA13 : RL K F0 [] ([] : List (Str × (Option Int))) := RpA.nil
    obtain ⟨x_rows14, hb15, hm⟩ := bnd hm
    have hx16 : ([] : List (Str × (Option Int))) = x_rows14 := sjoin hb15
    have hA17 : RL K F0 [] x_rows14 := RL.re hx16 hA13
    refine p_name ?_
    refine p_nx ?_
    obtain ⟨x_above18, x_rows19, hj20, hm⟩ := bnd2 hm
    refine ⟨fun σ' H' => ∃ (F' : Hp) (v_x_above18 : V) (ws_x_rows19 : List V), σ' = [(some v_x_tree), (some (V.str x_beginning)), (some v_x_above18), (some (V.int x_width)), (some vd2), (some vh3), (some (V.ref p9)), none, none] ∧ Gr M0 F0 H0 F' H' ∧ Same F0 F' ∧ R K F' v_x_above18 x_above18 ∧ Ow H0 F' H' p9 ws_x_rows19 ∧ ws_x_rows19.length ≤ sizeLine ∧ RL K F' ws_x_rows19 x_rows19, ?_, ?_⟩
    · refine p_if ?_
      obtain ⟨d21, o22, ev23, hd24, hl25⟩ := RDN.op rd6
      refine ⟨v_x_above, rfl, vd2, rfl, x_above, d21, o22, (x_tree).ks, (R_vN (K := K) (F := F0) r_x_above), ev23, (g11.fh _ _ hd24), _, rfl, (iteB (fun hc => ?_) (fun hc => ?_))⟩
      · have hj20 := ifT hc hj20
        refine p_seq ?_
        refine p_asg ?_
        obtain ⟨r26, hb27, hj20⟩ := bnd hj20
        refine ⟨vd2, rfl, F0, vd2, (x_tree).ks, r26, rfl, g11.fh, rd6, hb27, fun v31 F28 H29 g30 r32 => ?_⟩
        have g33 := Gr.trans g11 g30
        have ow34 := ow12.gr0 g30
        refine p_name ?_
        refine p_nx ?_
        refine p_drop ?_
        obtain ⟨t35, hb36, hj20⟩ := bnd hj20
        obtain ⟨hk37, rfl⟩ := mulS_ok hb36
        obtain ⟨t38, hb39, hj20⟩ := bnd hj20
        obtain ⟨hk40, rfl⟩ := catS_ok hb39
        refine ⟨(V.ref p9), rfl, (.inl ⟨rfl, _, ow34.sq⟩), (V.str x_beginning), rfl, (V.str x_beginning), rfl, _, rfl, (gs_x_beginning : GS x_beginning).len, (V.int x_width), rfl, _, _, rfl, rfl, _, rfl, _, _, rfl, rfl, hk37, _, _, rfl, rfl, hk40, v31, rfl, (by show 2 ≤ sizeLine; decide), fun p41 np42 => ?_⟩
        have ne43 := ow34.ne np42
        have sm44 := same_new (o := (.tup [(V.str (x_beginning ++ (Txt.mul ("*" : Str) (toI (decide (((x_beginning.length : Nat) : Int) < x_width)))))), v31])) (g33.noneF np42)
        have g45 := g33.frz (o := (.tup [(V.str (x_beginning ++ (Txt.mul ("*" : Str) (toI (decide (((x_beginning.length : Nat) : Int) < x_width)))))), v31])) np42
        have ow46 := ow34.frz (o := (.tup [(V.str (x_beginning ++ (Txt.mul ("*" : Str) (toI (decide (((x_beginning.length : Nat) : Int) < x_width)))))), v31])) np42
        have r47 : R K (upd F28 p41 (.tup [(V.str (x_beginning ++ (Txt.mul ("*" : Str) (toI (decide (((x_beginning.length : Nat) : Int) < x_width)))))), v31])) (.ref p41) (((x_beginning ++ (Txt.mul ("*" : Str) (toI (decide (((x_beginning.length : Nat) : Int) < x_width))))), r26) : (Str × (Option Int))) := R.mk2 fzT (Rp.str (x_beginning ++ (Txt.mul ("*" : Str) (toI (decide (((x_beginning.length : Nat) : Int) < x_width))))) (GS.cat gs_x_beginning (GS.mul ⟨by decide +kernel, by decide +kernel⟩ hb36) hb39)) (r32.up sm44)
        obtain ⟨t48, hb49, hj20⟩ := bnd hj20
        obtain ⟨hk50, rfl⟩ := appL_ok hb49
        refine ⟨p9, [], (V.ref p41), rfl, rfl, ow46.h, (by rw [RL.len (hA17.up (Same.trans g30.ff sm44))]; exact hk50), ?_⟩
        have hA51 : RL K (upd F28 p41 (.tup [(V.str (x_beginning ++ (Txt.mul ("*" : Str) (toI (decide (((x_beginning.length : Nat) : Int) < x_width)))))), v31])) ([] ++ [(V.ref p41)]) (x_rows14 ++ [(((x_beginning ++ (Txt.mul ("*" : Str) (toI (decide (((x_beginning.length : Nat) : Int) < x_width))))), r26) : (Str × (Option Int)))]) := RL.snoc (hA17.up (Same.trans g30.ff sm44)) r47
        have hl52 : ([] ++ [(V.ref p41)]).length ≤ sizeLine := by rw [List.length_append, RL.len (hA17.up (Same.trans g30.ff sm44))]; exact hk50
        have g53 := g45.put (o := (.lst ([] ++ [(V.ref p41)]))) ow46
        have ow54 := ow46.put (us := ([] ++ [(V.ref p41)]))
        obtain ⟨rfl, rfl⟩ := pjoin hj20
        exact ⟨(upd F28 p41 (.tup [(V.str (x_beginning ++ (Txt.mul ("*" : Str) (toI (decide (((x_beginning.length : Nat) : Int) < x_width)))))), v31])), v31, ([] ++ [(V.ref p41)]), rfl, g53, (Same.trans g30.ff sm44), (r32.up sm44), ow54, hl52, hA51⟩
      · have hj20 := ifF hc hj20
        refine p_next ?_
        obtain ⟨rfl, rfl⟩ := pjoin hj20
        exact ⟨F0, v_x_above, [], rfl, g11, (Same.refl _), r_x_above, ow12, (by show 0 ≤ sizeLine; decide), hA17⟩
    intro σ55 H56 hMid
    obtain ⟨F57, v_x_above1865, ws_x_rows1966, rfl, g58, sm59, r_x_above1860, ow_x_rows1961, hl_x_rows1962, hA_x_rows1963⟩ := hMid
    refine p_seq ?_
    refine p_for ?_
    obtain ⟨q67, vs68, ev69, hq70, hall71⟩ := RHv.op rh7
    refine ⟨vh3, rfl, ("01" : Str), q67, vs68, (by rw [ev69]), (sqT_of (g58.fh _ _ (sm59 _ _ hq70))), ?_⟩
    obtain ⟨x_rows72, ht73, hm⟩ := bnd hm
    refine for_zipS (K := K) (x := ("01" : Str)) (b := q67) (ys := vs68) (fun i σ' H' => ∃ (F' : Hp) (o_x_sign : Option V) (o_x_half : Option V) (x_rows : (List (Str × (Option Int)))) (ws_x_rows : List V), σ' = [(some v_x_tree), (some (V.str x_beginning)), (some v_x_above1865), (some (V.int x_width)), (some vd2), (some vh3), (some (V.ref p9)), o_x_sign, o_x_half] ∧ Gr M0 F0 H0 F' H' ∧ Same F57 F' ∧ Ow H0 F' H' p9 ws_x_rows ∧ ws_x_rows.length ≤ sizeLine ∧ RL K F' ws_x_rows x_rows ∧ m_rows_below_l1 rec_ x_beginning x_above18 x_width ((List.zip (("01" : Str)).cps.toList (x_tree).hs).drop i) x_rows = some x_rows72) ?_ ?_ ?_ ?_
    · exact ⟨F57, none, none, x_rows19, ws_x_rows1966, rfl, g58, (Same.refl _), ow_x_rows1961, hl_x_rows1962, hA_x_rows1963, ht73⟩
    · intro i σ' H' _ hP
      obtain ⟨F', o_x_sign, o_x_half, x_rows, ws_x_rows, rfl, g_, sm_, ow_x_rows, hl_x_rows, hA_x_rows, hm_⟩ := hP
      exact (sqT_of (g_.fh _ _ (sm_ _ _ (sm59 _ _ hq70))))
    · intro i74 c78 xw79 T80 σ' H76 hx75 hw81 nT82 hP
      obtain ⟨F83, o_x_sign84, o_x_half85, x_rows86, ws_x_rows87, rfl, g88, sm89, ow_x_rows90, hl_x_rows91, hA_x_rows92, hm93⟩ := hP
      obtain ⟨t95, ht96, r97⟩ := RAll.get (hall71.up (Same.trans sm59 sm89)) hw81
      have he98 := zipS_get hx75 ht96
      have gs99 : GS (sgn c78) := GS.sg (⟨by decide +kernel, by decide +kernel⟩ : GS ("01" : Str)) (Array.mem_toList_iff.mpr (Array.mem_of_getElem? hx75))
      have ne100 := ow_x_rows90.ne nT82
      have sm101 := same_new (o := (.tup [V.str (sgn c78), xw79])) (g88.noneF nT82)
      have g102 := g88.frz (o := (.tup [V.str (sgn c78), xw79])) nT82
      have ow103 := ow_x_rows90.frz (o := (.tup [V.str (sgn c78), xw79])) nT82
      have hS104 : SqT K (upd F83 T80 (.tup [V.str (sgn c78), xw79])) T80 [V.str (sgn c78), xw79] := sqT_of upd_same
      rw [drop_at he98, m_rows_below_l1.eq_2] at hm93
      refine ⟨T80, [(V.str (sgn c78)), xw79], rfl, (SqT_mono g102.fh hS104), rfl, (V.str (sgn c78)), [xw79], rfl, xw79, [], rfl, rfl, ?_⟩
      refine p_drop ?_
      obtain ⟨t105, hb106, hm93⟩ := bnd hm93
      obtain ⟨hk107, rfl⟩ := catS_ok hb106
      obtain ⟨r108, hb109, hm93⟩ := bnd hm93
      refine ⟨(V.ref p9), rfl, (.inl ⟨rfl, _, ow103.sq⟩), xw79, rfl, (V.str x_beginning), rfl, (V.str (sgn c78)), rfl, _, _, rfl, rfl, hk107, v_x_above1865, rfl, (V.int x_width), rfl, (upd F83 T80 (.tup [V.str (sgn c78), xw79])), xw79, t95, (x_beginning ++ (sgn c78)), v_x_above1865, x_above18, x_width, r108, rfl, g102.fh, (r97.up sm101), (GS.cat gs_x_beginning gs99 hb106), (r_x_above1860.up (Same.trans sm89 sm101)), hb109, fun p113 ws114 F110 H111 g112 np115 h116 nF117 hl118 hA119 => ?_⟩
      have ne120 := ow103.ne np115
      have n0121 := g102.none0 np115
      have g122 := Gr.trans g102 g112
      have ow123 := ow103.gr0 g112
      have ow124 : Ow H0 F110 H111 p113 ws114 := ⟨h116, nF117, n0121⟩
      obtain ⟨t125, hb126, hm93⟩ := bnd hm93
      obtain ⟨hk127, rfl⟩ := conL_ok hb126
      refine ⟨p9, p113, ws_x_rows87, ws114, rfl, rfl, ow123.h, ow124.h, (by rw [RL.len (hA_x_rows92.up (Same.trans sm101 g112.ff)), RL.len hA119]; exact hk127), ?_⟩
      have hA128 := RL.app (hA_x_rows92.up (Same.trans sm101 g112.ff)) hA119
      have hl129 : (ws_x_rows87 ++ ws114).length ≤ sizeLine := by rw [List.length_append, RL.len (hA_x_rows92.up (Same.trans sm101 g112.ff)), RL.len hA119]; exact hk127
      have g130 := g122.put (o := (.lst (ws_x_rows87 ++ ws114))) ow123
      have ow131 := ow124.other (o := (.lst (ws_x_rows87 ++ ws114))) (Ne.symm ne120)
      have ow132 := ow123.put (us := (ws_x_rows87 ++ ws114))
      exact ⟨F110, (some (V.str (sgn c78))), (some xw79), (x_rows86 ++ r108), (ws_x_rows87 ++ ws114), rfl, g130, (Same.trans sm89 (Same.trans sm101 g112.ff)), ow132, hl129, hA128, hm93⟩
    intro σ133 H134 hP
    obtain ⟨F135, o_x_sign136, o_x_half137, x_rows138, ws_x_rows139, rfl, g140, sm141, ow_x_rows142, hl_x_rows143, hA_x_rows144, hm145⟩ := hP
    rw [drop_end (zipS_len (hall71.up (Same.trans sm59 sm141))), m_rows_below_l1.eq_1] at hm145
    obtain rfl := sjoin hm145
    refine p_nx ?_
    refine p_ret ?_
    obtain rfl := sjoin hm
    refine ⟨(V.ref p9), rfl, (hQ _ _ _ _ g140 ow_x_rows142.n0 ow_x_rows142.h ow_x_rows142.nF hl_x_rows143 hA_x_rows144)⟩
theorem okA_rows_below {P : Program} {w : World} {K : PySem.W.Frag} {mg : Str → Option Value} {base : Heap} (T : Txt K mg) : ∀ n_ : Nat, FnOk P w K mg base CX0 (1 + n_) T.a_rows_below T.d_rows_below ["tree", "beginning", "above", "width"] (spR_rows_below (m_rows_below n_) K)
  | 0 => ⟨fun vs H Q E h => by
      obtain ⟨_, _, _, _, _, _, _, _, rfl, _⟩ := h
      rfl, fun A outer s H args us vs Q E hr he hb hv h => by
      obtain ⟨_, _, _, _, _, _, _, _, _, _, _, _, _, hm, _⟩ := h
      cases hm⟩
  | n_ + 1 => okS_rows_below T (1 + n_) (Nat.le_add_right _ _) (m_rows_below n_) (okA_rows_below T n_)
theorem ok_rows_below {P : Program} {w : World} {K : PySem.W.Frag} {mg : Str → Option Value} {base : Heap} (T : Txt K mg) : FnOk P w K mg base CX0 41 T.a_rows_below T.d_rows_below ["tree", "beginning", "above", "width"] (sp_rows_below K) := okA_rows_below T 40
end K33
set_option synthInstance.maxSize 1000
set_option synthInstance.maxHeartbeats 400000
namespace K33
open PySem PySem.Spec PyProof.Rows L2 TL G
theorem ok_table_of {P : Program} {w : World} {K : PySem.W.Frag} {mg : Str → Option Value} {base : Heap} (T : Txt K mg) : FnOk P w K mg base CX0 42 T.a_table_of T.d_table_of ["parts", "width"] (sp_table_of K) := by
  have G_rows_below : FnOk P w K mg base CX0 41 T.a_rows_below T.d_rows_below ["tree", "beginning", "above", "width"] (sp_rows_below K) := ok_rows_below T
  have b_rows_below := T.F_rows_below.bindsN (ps := ["tree", "beginning", "above", "width"]) fun _ _ _ _ _ _ us hl => match us, hl with | [_, _, _, _], _ => rfl
  have G_wanted : FnOk P w K mg base CX0 40 T.a_wanted T.d_wanted ["first", "behind", "parts"] (sp_wanted K) := ok_wanted T
  have b_wanted := T.F_wanted.bindsN (ps := ["first", "behind", "parts"]) fun _ _ _ _ _ _ us hl => match us, hl with | [_, _, _], _ => rfl
  refine fd_ok T.F_table_of sc_table_of (fun vs H Q E h => ?_) (fun cdv A outer s H0 vs Q E hr h => ?_)
  · obtain ⟨_, _, _, _, _, _, rfl, _⟩ := h
    rfl
  · obtain ⟨F0, p_x_parts, ws_x_parts, x_parts, x_width, r, rfl, hS0, hS_x_parts, hl_x_parts, hA_x_parts, nm_x_parts, hm, hQ⟩ := h
    refine ⟨_, (pss_one (ps_ret (pe_call G_rows_below (hr.mono (by decide)) (by rfl) T.g_rows_below T.F_rows_below.kp b_rows_below .nil pass0 (pa_cons (pe_call G_wanted (hr.mono (by decide)) (by rfl) T.g_wanted T.F_wanted.kp b_wanted .nil pass0 (pa_cons pe_int (pa_cons (pe_op op_shl pe_int (pv 1)) (pa_cons (pv 0) pa_nil)))) (pa_cons pe_str (pa_cons pe_non (pa_cons (pv 1) pa_nil))))))), ?_⟩
    have g0 : Gr M0 F0 H0 F0 H0 := Gr.refl hS0
    unfold m_table_of at hm
    refine p_ret ?_
    obtain ⟨t1, hb2, hm⟩ := bnd hm
    obtain ⟨hk3, rfl⟩ := shlI_ok hb2
    obtain ⟨r4, hb5, hm⟩ := bnd hm
    refine ⟨(V.int x_width), rfl, _, _, rfl, rfl, hk3, (V.ref p_x_parts), rfl, F0, (0 : Int), ((1 : Int) * 2 ^ (x_width).toNat), p_x_parts, ws_x_parts, x_parts, r4, rfl, g0.fh, (g0.seq nm_x_parts hS_x_parts), hl_x_parts, hA_x_parts, id, hb5, fun v9 F6 H7 g8 r10 => ?_⟩
    have g11 := Gr.trans g0 g8
    obtain ⟨r12, hb13, hm⟩ := bnd hm
    refine ⟨(V.int x_width), rfl, F6, v9, r4, ("" : Str), V.non, (none : (Option Int)), x_width, r12, rfl, g11.fh, r10, ⟨by decide +kernel, by decide +kernel⟩, Rp.non, hb13, fun p17 ws18 F14 H15 g16 np19 h20 nF21 hl22 hA23 => ?_⟩
    have n024 := g11.none0 np19
    have g25 := Gr.trans g11 g16
    have ow26 : Ow H0 F14 H15 p17 ws18 := ⟨h20, nF21, n024⟩
    obtain rfl := sjoin hm
    exact (hQ _ _ _ _ g25 ow26.n0 ow26.h ow26.nF hl22 hA23)
end K33
set_option synthInstance.maxSize 1000
set_option synthInstance.maxHeartbeats 400000
namespace K33
open PySem PySem.Spec PyProof.Rows L2 TL G
theorem ok_l_bag {P : Program} {w : World} {K : PySem.W.Frag} {mg : Str → Option Value} {base : Heap} (T : Txt K mg) : FnOk P w K mg base CX0 1 T.a_l_bag T.d_l_bag ["_law_script"] (sp_l_bag K) := by
  refine fd_ok T.F_l_bag sc_l_bag (fun vs H Q E h => ?_) (fun cdv A outer s H0 vs Q E hr h => ?_)
  · obtain ⟨_, _, rfl, _⟩ := h
    rfl
  · obtain ⟨a, ns, rfl, hS, hl, hQ⟩ := h
    refine ⟨_, (pss_cons (ps_set (i := 1) sc_l_bag.nd rfl (.inl rfl) pe_int)
      (pss_cons (ps_for PassesOwn.never rfl (pi_list (pe_slice sl_list (pv 0) po_none (po_some pe_int))) (pg_name (i := 2) sc_l_bag.nd rfl (Or.inl rfl))
          (pss_one (ps_set (i := 1) sc_l_bag.nd rfl (.inl rfl) (pe_op op_mod (pe_op op_add (pe_op op_add (pe_op op_mul (pv 1) pe_int) (pe_op op_mod (pv 2) pe_int)) pe_int) pe_int))))
      (pss_one (ps_ret (pe_lst (pa_cons (pe_lc (own := [("_law_cell", 2)]) rfl sc_l_bag.nd (pi_list (pe_slice sl_list (pv 0) po_none (po_some pe_int)))
          (blkOk_by (own := [("_law_cell", 2)]) (N := N_l_bag) (sc := defScope s_l_bag) (by decide +kernel)) (fun _ _ _ _ _ => pg_name (i := 2) sc_l_bag.nd rfl (Or.inl rfl)) (fun _ _ _ _ _ => pts_nil)
          (fun _ _ _ _ _ => pe_op op_mod (pe_callB call_abs (by rfl) T.n_abs (by decide +kernel) (pa_cons (pv 2) pa_nil)) (pe_op op_powW (pe_op op_pow pe_int pe_int) pe_int)))
        (pa_cons pe_int (pa_cons pe_int (pa_cons (pv 1) (pa_cons pe_int pa_nil)))))))))), ?_⟩
    have g0 : Gr M0 (fun _ => none) H0 (fun _ => none) H0 := Gr.refl (fun _ _ h => nomatch h)
    have hcut : ∀ (lo hi : Option Int), cutV (ns.map V.int) lo hi = (cutL ns lo hi).map V.int := fun lo hi => by
      unfold cutV cutL
      rw [List.length_map, List.map_take, List.map_drop]
    have hcl : ∀ (lo hi : Option Int), (cutL ns lo hi).length ≤ 63 := fun lo hi => by
      unfold cutL
      rw [List.length_take, List.length_drop]
      omega
    refine p_seq ?_
    refine p_asg ?_
    refine p_name ?_
    refine p_nx ?_
    refine p_seq ?_
    refine p_for ?_
    refine ⟨.ref a, rfl, 63, rfl, a, ns.map V.int, rfl, hS, fun p np => ?_⟩
    rw [hcut]
    generalize hcs : cutL ns none (some 63) = cs
    have hc1 : cs.length ≤ 63 := by rw [← hcs]; exact hcl _ _
    have hc2 : (cs.map V.int).length = cs.length := List.length_map ..
    have g1 := g0.own (o := .lst (cs.map V.int)) np
    have ow1 : Ow H0 (fun _ => none) _ p (cs.map V.int) := Ow.new g0 np
    generalize hH1 : upd H0 p (.lst (cs.map V.int)) = H1 at g1 ow1 ⊢
    refine ⟨p, rfl, ⟨_, ow1.sq⟩, ?_⟩
    refine for_list (xs := cs.map V.int) (fun i σ' H' => ∃ (z : Int) (c : Option V), σ' = [some (.ref a), some (.int z), c] ∧ 0 ≤ z ∧ z < 2147483648 ∧ H' = H1) ⟨_, none, rfl, by decide, by decide, rfl⟩ (fun i σ' H' _ hP => ?_) (fun i x σ' H' hx hP => ?_) (fun σ' H' hP => ?_)
    · obtain ⟨z, c, _, _, _, rfl⟩ := hP
      exact ow1.sq
    · obtain ⟨z, c, rfl, h1, h2, rfl⟩ := hP
      obtain ⟨x, rfl⟩ : ∃ x', x = V.int x' := by
        rw [List.getElem?_map] at hx
        obtain ⟨y, _, e⟩ := Option.map_eq_some_iff.mp hx
        exact ⟨y, e.symm⟩
      refine p_asg ?_
      refine ⟨.int z, rfl, _, _, rfl, rfl, (.inr ⟨by decide, by decide⟩), .int x, rfl, _, _, rfl, rfl, (show (0 : Int) < 2147483629 by decide), _, _, rfl, rfl, _, _, rfl, rfl, _, _, rfl, rfl, (show (0 : Int) < 2147483647 by decide), ?_⟩
      refine ⟨_, _, rfl, Int.emod_nonneg _ (by decide), ?_, rfl⟩
      exact Int.lt_trans (Int.emod_lt_of_pos _ (by decide)) (by decide)
    · obtain ⟨z, c, rfl, h1, h2, rfl⟩ := hP
      refine p_nx ?_
      refine p_ret ?_
      have hS1 : SqL K H' a (ns.map V.int) := g1.seq id hS
      refine ⟨.ref a, rfl, 63, rfl, a, ns.map V.int, rfl, hS1, fun p2 np2 => ?_⟩
      rw [hcut, hcs]
      have g2 := g1.own (o := .lst (cs.map V.int)) np2
      have ow2 : Ow H0 (fun _ => none) _ p2 (cs.map V.int) := Ow.new g1 np2
      generalize hH2 : upd H' p2 (.lst (cs.map V.int)) = H2 at g2 ow2 ⊢
      refine ⟨p2, rfl, ⟨_, ow2.sq⟩, fun D nD => ?_⟩
      refine lc_list (xs := cs.map V.int) (fun i H' => ∃ ds : List Int, ds.length = i ∧ H' = upd H2 D (.lst (ds.map V.int))) ⟨[], rfl, rfl⟩ (fun i H' _ hP => ?_) (fun i x H' hx hP => ?_) (fun H' hP => ?_)
      · obtain ⟨ds, _, rfl⟩ := hP
        exact (ow2.own nD).sq
      · obtain ⟨ds, hds, rfl⟩ := hP
        have hi : i < cs.length := by rw [← hc2]; exact (List.getElem?_eq_some_iff.mp hx).1
        obtain ⟨x, rfl⟩ : ∃ x', x = V.int x' := by
          rw [List.getElem?_map] at hx
          obtain ⟨y, _, e⟩ := Option.map_eq_some_iff.mp hx
          exact ⟨y, e.symm⟩
        refine ⟨rfl, p_yes ?_⟩
        refine ⟨.int x, rfl, x, rfl, _, _, rfl, rfl, ⟨by decide, by decide, by decide⟩, _, _, rfl, rfl, ⟨by decide, by decide +kernel⟩, _, _, rfl, rfl, (show (0 : Int) < ((10 : Int) ^ (60 : Int).toNat) ^ (10 : Int).toNat by decide +kernel), ?_⟩
        refine ⟨_, upd_same, ?_, ds ++ [(if x < 0 then -x else x) % ((10 : Int) ^ (60 : Int).toNat) ^ (10 : Int).toNat], ?_, ?_⟩
        · rw [List.length_map, sizeLine_eq]; omega
        · rw [List.length_append, hds]; rfl
        · rw [upd_upd, List.map_append]; rfl
      · obtain ⟨ds, hds, rfl⟩ := hP
        rw [hc2] at hds
        refine ⟨.int z, rfl, (by show 5 ≤ sizeLine; decide), fun B nB => ?_⟩
        have hne : D ≠ B := fun e => by rw [← e, upd_same] at nB; cases nB
        exact hQ B D ⟨ds, 0, 0, z, 0⟩ (fun _ => none) _ (fun _ _ h => nomatch h) ⟨upd_same, by rw [upd_ne hne, upd_same], hne.symm, rfl, rfl⟩ ⟨h1, h2, by show ds.length ≤ 63; omega⟩ (((g2.own nD).own nB).seq id hS) (fun o ho z => by
          have m2 := g2.keep a o id ho
          rcases z with rfl | rfl
          · rw [upd_ne (fun e => by rw [e] at m2; rw [m2] at nD; cases nD)] at nB
            rw [m2] at nB
            cases nB
          · rw [m2] at nD
            cases nD)

end K33
set_option synthInstance.maxSize 1000
set_option synthInstance.maxHeartbeats 400000
namespace K33
open PySem PySem.Spec PyProof.Rows L2 TL G
theorem ok_l_stirred {P : Program} {w : World} {K : PySem.W.Frag} {mg : Str → Option Value} {base : Heap} (T : Txt K mg) : FnOk P w K mg base CX0 1 T.a_l_stirred T.d_l_stirred ["_law_bag_here", "_law_many"] (sp_l_stirred K) := by
  refine fd_ok T.F_l_stirred sc_l_stirred (fun vs H Q E h => ?_) (fun cdv A outer s H0 vs Q E hr h => ?_)
  · obtain ⟨_, _, _, _, _, _, _, rfl, _⟩ := h
    rfl
  · obtain ⟨F0, B, C, b, n, r, b', rfl, hS0, hB, hm, hQ⟩ := h
    refine ⟨_, (pss_cons (ps_set (i := 2) sc_l_stirred.nd rfl (.inl rfl) pe_int)
      (pss_cons (ps_for PassesOwn.never rfl (pi_range1 (by rfl) T.n_range (pa_cons (pe_op op_add pe_int (pe_op op_fdiv (pe_bits (pv 1)) pe_int)) pa_nil)) (pg_name (i := 3) sc_l_stirred.nd rfl (Or.inl rfl))
          (pss_cons (ps_asg (pe_op op_add (pe_ix ix_list (pv 0) pe_int (fun _ _ => rfl)) pe_int) (pg_sub (pv 0) pe_int set_list))
          (pss_cons (ps_asg (pe_op op_mod (pe_op op_add (pe_op op_add (pe_op op_add (pe_op op_pow (pe_ix ix_list (pv 0) pe_int (fun _ _ => rfl)) pe_int) (pe_op op_mul pe_int (pe_ix ix_list (pv 0) pe_int (fun _ _ => rfl)))) (pe_op op_mul pe_int (pe_ix ix_list (pv 0) pe_int (fun _ _ => rfl)))) pe_int) pe_int) (pg_sub (pv 0) pe_int set_list))
          (pss_one (ps_set (i := 2) sc_l_stirred.nd rfl (.inl rfl) (pe_op op_add (pe_op op_mul (pv 2) pe_int) (pe_op op_fdiv (pe_ix ix_list (pv 0) pe_int (fun _ _ => rfl)) pe_int)))))))
      (pss_one (ps_ret (pe_op op_mod (pv 2) (pv 1)))))), ?_⟩
    have g0 : Gr (Bc B C) F0 H0 F0 H0 := Gr.refl hS0
    unfold m_l_stirred at hm
    have hc : (0 < n ∧ Builtin.Int.intBits n < 9000) ∧ (0 ≤ b.stir ∧ b.stir < 2147483648) := by
      by_cases hc : (0 < n ∧ Builtin.Int.intBits n < 9000) ∧ (0 ≤ b.stir ∧ b.stir < 2147483648)
      · exact hc
      · rw [if_neg hc] at hm; cases hm
    rw [if_pos hc] at hm
    obtain ⟨⟨hn, hn2⟩, hs0, hs1⟩ := hc
    obtain ⟨cs, a0, lf, sd, ct⟩ := b
    simp only at hm hs0 hs1
    obtain ⟨rfl, rfl⟩ := pjoin hm
    have lB : ∀ {H : Hp} {a : Nat} {l z c : Int}, BagAt F0 H B C ⟨cs, a, l, z, c⟩ → SqL K H B [V.ref C, .int (a : Nat), .int l, .int z, .int c] := fun h => .inl (.inl h.hB)
    refine p_seq ?_
    refine p_asg ?_
    refine p_name ?_
    refine p_nx ?_
    refine p_seq ?_
    refine p_for ?_
    generalize hbn : Builtin.Int.intBits n = bn at hn2 ⊢
    have htn : ((1 : Int) + ((bn : Nat) : Int) / 27).toNat = 1 + bn / 27 := by omega
    refine ⟨.int n, rfl, n, rfl, _, _, rfl, rfl, ⟨by decide, by decide⟩, _, _, rfl, rfl, (1 : Int) + ((bn : Nat) : Int) / 27, by rw [← hbn], by omega, by omega, ?_⟩
    rw [htn]
    refine for_range (lo := 0) (n := 1 + bn / 27) (fun i σ' H' => ∃ (o : Option V), σ' = [some (.ref B), some (.int n), some (.int (stirN sd ct i).2.2), o] ∧ Gr (Bc B C) F0 H0 F0 H' ∧ BagAt F0 H' B C ⟨cs, a0, lf, (stirN sd ct i).1, (stirN sd ct i).2.1⟩ ∧ 0 ≤ (stirN sd ct i).1 ∧ (stirN sd ct i).1 < 2147483648) ⟨none, rfl, g0, hB, hs0, hs1⟩ (fun i σ' H' hi hP => ?_) (fun σ' H' hP => ?_)
    · obtain ⟨o, rfl, g, hB, h0, h1⟩ := hP
      generalize hS : stirN sd ct i = S at hB h0 h1 ⊢
      obtain ⟨z, c, f⟩ := S
      have hS' : stirN sd ct (i + 1) = (nxt z (c + 1), c + 1, f * 134217728 + nxt z (c + 1) / 16) := by
        show (nxt (stirN sd ct i).1 ((stirN sd ct i).2.1 + 1), (stirN sd ct i).2.1 + 1, (stirN sd ct i).2.2 * 134217728 + nxt (stirN sd ct i).1 ((stirN sd ct i).2.1 + 1) / 16) = _
        rw [hS]
      simp only at hB h0 h1 ⊢
      have hpow : CPow z 3 := ⟨by decide, by decide, by omega⟩
      refine p_seq ?_
      refine p_asg ?_
      refine ⟨_, rfl, _, _, 4, .int c, rfl, rfl, lB hB, rfl, _, _, rfl, rfl, _, rfl, B, _, 4, 4, rfl, rfl, hB.hB, rfl, ?_⟩
      have hB2 := G.BagAt2.put (b' := ⟨cs, a0, lf, z, c + 1⟩) hB rfl
      have g2 := g.mut (o := .lst [.ref C, .int (a0 : Nat), .int lf, .int z, .int (c + 1)]) hB.fB (.inr (.inl rfl))
      refine p_nx ?_
      refine p_seq ?_
      refine p_asg ?_
      refine ⟨_, rfl, _, _, 3, .int z, rfl, rfl, lB hB2, rfl, _, _, rfl, rfl, hpow, _, rfl, _, _, 3, .int z, rfl, rfl, lB hB2, rfl, _, _, rfl, rfl, (.inl ⟨by decide, by decide⟩), _, _, rfl, rfl, _, rfl, _, _, 4, .int (c + 1), rfl, rfl, lB hB2, rfl, _, _, rfl, rfl, (.inl ⟨by decide, by decide⟩), _, _, rfl, rfl, _, _, rfl, rfl, _, _, rfl, rfl, (show (0 : Int) < 2147483647 by decide), _, rfl, B, _, 3, 3, rfl, rfl, hB2.hB, rfl, ?_⟩
      have hB3 := G.BagAt2.put (b' := ⟨cs, a0, lf, nxt z (c + 1), c + 1⟩) hB2 rfl
      have g3 := g2.mut (o := .lst [.ref C, .int (a0 : Nat), .int lf, .int (nxt z (c + 1)), .int (c + 1)]) hB2.fB (.inr (.inl rfl))
      refine p_nx ?_
      refine p_asg ?_
      refine ⟨.int f, rfl, _, _, rfl, rfl, (.inr ⟨by decide, by decide⟩), _, rfl, _, _, 3, .int (nxt z (c + 1)), rfl, rfl, lB hB3, rfl, _, _, rfl, rfl, ⟨by decide, by decide⟩, _, _, rfl, rfl, ?_⟩
      refine p_name ?_
      refine ⟨_, by rw [hS'] <;> rfl, g3, by rw [hS']; exact hB3, ?_, ?_⟩
      · rw [hS']; exact Int.emod_nonneg _ (by decide)
      · rw [hS']
        have : nxt z (c + 1) < 2147483647 := Int.emod_lt_of_pos _ (by decide)
        show nxt z (c + 1) < 2147483648
        omega
    · obtain ⟨o, rfl, g, hB, h0, h1⟩ := hP
      refine p_nx ?_
      refine p_ret ?_
      refine ⟨_, rfl, .int n, rfl, _, _, rfl, rfl, hn, ?_⟩
      subst hbn
      exact hQ _ _ g hB
theorem ok_l_draw {P : Program} {w : World} {K : PySem.W.Frag} {mg : Str → Option Value} {base : Heap} (T : Txt K mg) : FnOk P w K mg base CX0 2 T.a_l_draw T.d_l_draw ["_law_bag_here", "_law_many"] (sp_l_draw K) := by
  have G_l_stirred : FnOk P w K mg base CX0 1 T.a_l_stirred T.d_l_stirred ["_law_bag_here", "_law_many"] (sp_l_stirred K) := ok_l_stirred T
  have b_l_stirred := T.F_l_stirred.bindsN (ps := ["_law_bag_here", "_law_many"]) fun _ _ _ _ _ _ us hl => match us, hl with | [_, _], _ => rfl
  refine fd_ok T.F_l_draw sc_l_draw (fun vs H Q E h => ?_) (fun cdv A outer s H0 vs Q E hr h => ?_)
  · obtain ⟨_, _, _, _, _, _, _, rfl, _⟩ := h
    rfl
  · obtain ⟨F0, B, C, b, n, r, b', rfl, hS0, hB, hm, hQ⟩ := h
    refine ⟨_, (pss_cons (ps_if (PW.pt (pw_and (pt_cmpR op_eq (pe_ix ix_list (pv 0) pe_int (fun _ _ => rfl)) pe_int (nomark _)) (pw_and1 (pt_cmpR op_lt (pe_ix ix_list (pv 0) pe_int (fun _ _ => rfl)) (pe_callB call_lenL (by rfl) T.n_len (by decide +kernel) (pa_cons (pe_ix ix_list (pv 0) pe_int (fun _ _ => rfl)) pa_nil)) (nomark _)))))
          (pss_cons (ps_asg (pe_ix ix_list (pe_ix ix_list (pv 0) pe_int (fun _ _ => rfl)) (pe_ix ix_list (pv 0) pe_int (fun _ _ => rfl)) (fun _ _ => rfl)) (pg_sub (pv 0) pe_int set_list))
          (pss_one (ps_asg (pe_op op_add (pe_ix ix_list (pv 0) pe_int (fun _ _ => rfl)) pe_int) (pg_sub (pv 0) pe_int set_list))))
          (pss_one (ps_if (pt_cmpR op_eq (pe_ix ix_list (pv 0) pe_int (fun _ _ => rfl)) pe_int (nomark _)) (pss_one (ps_ret (pe_call G_l_stirred (hr.mono (by decide)) (by rfl) T.g_l_stirred T.F_l_stirred.kp b_l_stirred .nil pass0 (pa_cons (pv 0) (pa_cons (pv 1) pa_nil))))) pss_nil)))
      (pss_cons (ps_set (i := 2) sc_l_draw.nd rfl (.inl rfl) (pe_op op_mod (pe_ix ix_list (pv 0) pe_int (fun _ _ => rfl)) (pv 1)))
      (pss_cons (ps_asg (pe_op op_fdivW (pe_ix ix_list (pv 0) pe_int (fun _ _ => rfl)) (pv 1)) (pg_sub (pv 0) pe_int set_list))
      (pss_one (ps_ret (pv 2)))))), ?_⟩
    have g0 : Gr (Bc B C) F0 H0 F0 H0 := Gr.refl hS0
    unfold m_l_draw at hm
    have hc : (0 < n ∧ n.natAbs.log2 < 9000) ∧ b.cells.length ≤ sizeLine := by
      by_cases hc : (0 < n ∧ n.natAbs.log2 < 9000) ∧ b.cells.length ≤ sizeLine
      · exact hc
      · rw [if_neg hc] at hm; cases hm
    rw [if_pos hc] at hm
    obtain ⟨⟨hn, hn2⟩, hsz⟩ := hc
    obtain ⟨cs, a, lf, sd, ct⟩ := b
    simp only at hm hsz
    have lB : ∀ {H : Hp} {a : Nat} {l z c : Int}, BagAt F0 H B C ⟨cs, a, l, z, c⟩ → SqL K H B [V.ref C, .int (a : Nat), .int l, .int z, .int c] := fun h => .inl (.inl h.hB)
    have lC : ∀ {H : Hp} {b1 : Bag}, BagAt F0 H B C b1 → SqL K H C (b1.cells.map V.int) := fun h => .inl (.inl h.hC)
    have hz : (cs.map V.int).length = cs.length := List.length_map ..
    refine p_seq ?_
    refine p_if ?_
    refine ⟨_, rfl, _, _, 2, .int lf, rfl, rfl, lB hB, rfl, rfl, _, rfl, ?_⟩
    by_cases h0 : lf = 0
    · subst h0
      rw [if_pos rfl] at hm
      refine ifTr (decide_eq_true rfl) ?_
      refine ⟨_, rfl, _, _, 1, .int (a : Nat), rfl, rfl, lB hB, rfl, _, rfl, _, _, 0, .ref C, rfl, rfl, lB hB, rfl, C, _, _, rfl, .inl (lC hB), hz, _, _, rfl, rfl, _, rfl, ?_⟩
      by_cases hl : a < cs.length
      · obtain ⟨x, hx⟩ : ∃ x, cs[a]? = some x := ⟨_, List.getElem?_eq_getElem hl⟩
        rw [hx] at hm
        obtain ⟨rfl, rfl⟩ := pjoin hm
        refine ifTr (decide_eq_true (Int.ofNat_lt.mpr hl)) ?_
        refine p_seq ?_
        refine p_asg ?_
        refine ⟨_, rfl, _, _, 0, .ref C, rfl, rfl, lB hB, rfl, _, rfl, _, _, 1, .int (a : Nat), rfl, rfl, lB hB, rfl, _, _, (a : Nat), .int x, rfl, rfl, lC hB, atI_map hx, _, rfl, B, _, 2, 2, rfl, rfl, hB.hB, rfl, ?_⟩
        have hB2 := G.BagAt2.put (b' := ⟨cs, a, x, sd, ct⟩) hB rfl
        have g2 := g0.mut (o := .lst [.ref C, .int (a : Nat), .int x, .int sd, .int ct]) hB.fB (.inr (.inl rfl))
        refine p_nx ?_
        refine p_asg ?_
        refine ⟨_, rfl, _, _, 1, .int (a : Nat), rfl, rfl, lB hB2, rfl, _, _, rfl, rfl, _, rfl, B, _, 1, 1, rfl, rfl, hB2.hB, rfl, ?_⟩
        have hB3 := G.BagAt2.put (b' := ⟨cs, a + 1, x, sd, ct⟩) hB2 rfl
        have g3 := g2.mut (o := .lst [.ref C, .int ((a + 1 : Nat) : Int), .int x, .int sd, .int ct]) hB2.fB (.inr (.inl rfl))
        refine p_nx ?_
        refine p_seq ?_
        refine p_asg ?_
        refine ⟨_, rfl, _, _, 2, .int x, rfl, rfl, lB hB3, rfl, .int n, rfl, _, _, rfl, rfl, hn, ?_⟩
        refine p_name ?_
        refine p_nx ?_
        refine p_seq ?_
        refine p_asg ?_
        refine ⟨_, rfl, _, _, 2, .int x, rfl, rfl, lB hB3, rfl, .int n, rfl, x, n, rfl, rfl, ⟨hn, hn2⟩, _, rfl, B, _, 2, 2, rfl, rfl, hB3.hB, rfl, ?_⟩
        refine p_nx ?_
        refine p_ret ?_
        refine ⟨_, rfl, ?_⟩
        exact hQ _ _ (g3.mut hB3.fB (.inr (.inl rfl))) (G.BagAt2.put (b' := ⟨cs, a + 1, x / n, sd, ct⟩) hB3 rfl)
      · rw [List.getElem?_eq_none (by omega)] at hm
        refine ifFr (decide_eq_false fun e => hl (Int.ofNat_lt.mp e)) ?_
        refine p_if ?_
        refine ⟨_, rfl, _, _, 2, .int 0, rfl, rfl, lB hB, rfl, rfl, _, rfl, ?_⟩
        refine ifTr (decide_eq_true rfl) ?_
        refine p_ret ?_
        refine ⟨.ref B, rfl, .int n, rfl, F0, B, C, _, n, r, b', rfl, g0.fh, hB, hm, fun F' H' g hB' => ?_⟩
        exact hQ _ _ (g0.trans g) hB'
    · rw [if_neg h0] at hm
      obtain ⟨rfl, rfl⟩ := pjoin hm
      refine ifFr (decide_eq_false fun e => h0 (V.int.inj e)) ?_
      refine ifFr rfl ?_
      refine p_if ?_
      refine ⟨_, rfl, _, _, 2, .int lf, rfl, rfl, lB hB, rfl, rfl, _, rfl, ?_⟩
      refine ifFr (decide_eq_false fun e => h0 (V.int.inj e)) ?_
      refine p_next ?_
      refine p_nx ?_
      refine p_seq ?_
      refine p_asg ?_
      refine ⟨_, rfl, _, _, 2, .int lf, rfl, rfl, lB hB, rfl, .int n, rfl, _, _, rfl, rfl, hn, ?_⟩
      refine p_name ?_
      refine p_nx ?_
      refine p_seq ?_
      refine p_asg ?_
      refine ⟨_, rfl, _, _, 2, .int lf, rfl, rfl, lB hB, rfl, .int n, rfl, lf, n, rfl, rfl, ⟨hn, hn2⟩, _, rfl, B, _, 2, 2, rfl, rfl, hB.hB, rfl, ?_⟩
      refine p_nx ?_
      refine p_ret ?_
      refine ⟨_, rfl, ?_⟩
      exact hQ _ _ (g0.mut hB.fB (.inr (.inl rfl))) (G.BagAt2.put (b' := ⟨cs, a, lf / n, sd, ct⟩) hB rfl)

end K33
set_option synthInstance.maxSize 1000
set_option synthInstance.maxHeartbeats 400000
namespace K33
open PySem PySem.Spec PyProof.Rows L2 TL G
theorem ok_l_choices {P : Program} {w : World} {K : PySem.W.Frag} {mg : Str → Option Value} {base : Heap} (T : Txt K mg) : FnOk P w K mg base CX0 1 T.a_l_choices T.d_l_choices ["_law_many", "_law_size"] (sp_l_choices K) := by
  refine fd_ok T.F_l_choices sc_l_choices (fun vs H Q E h => ?_) (fun cdv A outer s H0 vs Q E hr h => ?_)
  · obtain ⟨_, _, _, _, rfl, _⟩ := h
    rfl
  · obtain ⟨F0, y_many, y_size, r, rfl, hS0, hm, hQ⟩ := h
    refine ⟨_, (pss_cons (ps_set (i := 2) sc_l_choices.nd rfl (.inl rfl) (pe_lst (pa_cons (pe_tup pa_nil) pa_nil))) (pss_cons (ps_for PassesOwn.never rfl (pi_range1 (by rfl) T.n_range (pa_cons (pv 1) pa_nil)) (pg_name (i := 3) sc_l_choices.nd rfl (Or.inl rfl)) (pss_cons (ps_set (i := 4) sc_l_choices.nd rfl (.inl rfl) (pe_lst pa_nil)) (pss_cons (ps_for PassesOwn.never rfl (pi_listK (K := K) (pv 2)) (pg_name (i := 5) sc_l_choices.nd rfl (Or.inr rfl)) (pss_cons (ps_set (i := 6) sc_l_choices.nd rfl (.inl rfl) (pe_ifExp (pt_cmpR (op_eqDK (K := K) hr.units) (pv 5) (pe_tup pa_nil) (nomark _)) pe_int (pe_op op_add (pe_ix (ix_tupK (K := K)) (pv 5) (pe_op op_sub (pe_callB (call_lenLK (K := K)) (by rfl) T.n_len (by decide +kernel) (pa_cons (pv 5) pa_nil)) pe_int) (fun _ _ => rfl)) pe_int))) (pss_one (ps_expr (pe_bmK (K := K) PySem.F.plainAttrs_list PySem.F.slot_list_extend PySem.F.type_list_extend mt_extend (pv 4) (pa_cons (pe_lc (own := [("_law_one", 7)]) rfl sc_l_choices.nd (pi_range2 (by rfl) T.n_range (pa_cons (pv 6) (pa_cons (pv 0) pa_nil))) (blkOk_by (own := [("_law_one", 7)]) (N := N_l_choices) (sc := defScope s_l_choices) (by decide +kernel)) (fun _ _ _ _ _ => (pg_name (i := 7) sc_l_choices.nd rfl (Or.inl rfl) (.inr rfl))) (fun _ _ _ _ _ => pts_nil) (fun _ _ _ _ _ => (pe_op op_catF (pv 5) (pe_tup (pa_cons (pv 7) pa_nil))))) pa_nil)))))) (pss_one (ps_set (i := 2) sc_l_choices.nd rfl (.inl rfl) (pv 4)))))) (pss_one (ps_ret (pv 2))))), ?_⟩
    have g0 : Gr M0 F0 H0 F0 H0 := Gr.refl hS0
    unfold m_l_choices at hm
    refine p_seq ?_
    refine p_asg ?_
    refine ⟨(by show 0 ≤ sizeLine; decide), fun p1 np2 => ?_⟩
    have sm3 := same_new (o := (.tup [])) (g0.noneF np2)
    have g4 := g0.frz (o := (.tup [])) np2
    have r5 : R K (upd F0 p1 (.tup [])) (V.ref p1) (VT.mk [] : (VT Int)) := (R.mkvt (xs := []) fzT (Nat.zero_le _) RpA.nil)
    refine ⟨(by show 1 ≤ sizeLine; decide), fun p6 np7 => ?_⟩
    have g8 := g4.own (o := (.lst [(V.ref p1)])) np7
    have ow9 : Ow H0 (upd F0 p1 (.tup [])) (upd (upd H0 p1 (.tup [])) p6 (.lst [(V.ref p1)])) p6 [(V.ref p1)] := Ow.new g4 np7
    have hA10 : RL K (upd F0 p1 (.tup [])) [(V.ref p1)] ([(VT.mk [] : (VT Int))] : List (VT Int)) := (RpA.cons r5 RpA.nil)
    obtain ⟨y_found11, hb12, hm⟩ := bnd hm
    have hx13 : ([(VT.mk [] : (VT Int))] : List (VT Int)) = y_found11 := sjoin hb12
    have hA14 : RL K (upd F0 p1 (.tup [])) [(V.ref p1)] y_found11 := RL.re hx13 hA10
    refine p_name ?_
    refine p_nx ?_
    refine p_seq ?_
    refine p_for ?_
    obtain ⟨l15, hb17, hm⟩ := bnd hm
    obtain ⟨hk16, rfl⟩ := rangeO1_ok hb17
    refine ⟨(V.int y_size), rfl, _, rfl, hk16.1.1, hk16.1.2, ?_⟩
    have sm18 := ow9.sf
    have g19 := g8.fz ow9
    have r20 : R K (upd (upd F0 p1 (.tup [])) p6 (.lst [(V.ref p1)])) (.ref p6) y_found11 := R.mkl fzS (by show 1 ≤ sizeLine; decide) (RpA.up hA14 sm18)
    obtain ⟨y_found21, ht22, hm⟩ := bnd hm
    refine for_range (lo := (0 : Int)) (n := (y_size).toNat) (fun i σ' H' => ∃ (F' : Hp) (y_found : (List (VT Int))) (v_y_found : V) (o_y_k : Option V) (o_y_longer : Option V) (o_y_row : Option V) (o_y_least : Option V), σ' = [(some (V.int y_many)), (some (V.int y_size)), (some v_y_found), o_y_k, o_y_longer, o_y_row, o_y_least, none] ∧ Gr M0 F0 H0 F' H' ∧ Same (upd (upd F0 p1 (.tup [])) p6 (.lst [(V.ref p1)])) F' ∧ R K F' v_y_found y_found ∧ m_l_choices_l1 y_many ((rangeL (0 : Int) (y_size).toNat).drop i) y_found = some y_found21) ?_ ?_ ?_
    · exact ⟨(upd (upd F0 p1 (.tup [])) p6 (.lst [(V.ref p1)])), y_found11, (V.ref p6), none, none, none, none, rfl, g19, (Same.refl _), r20, ht22⟩
    · intro i23 σ' H25 hx24 hP
      obtain ⟨F27, y_found28, v_y_found29, o_y_k30, o_y_longer31, o_y_row32, o_y_least33, rfl, g34, sm35, r_y_found36, hm37⟩ := hP
      have he39 := rangeL_at (lo := (0 : Int)) hx24
      rw [drop_at he39, m_l_choices_l1.eq_2] at hm37
      refine p_name ?_
      refine p_seq ?_
      refine p_asg ?_
      refine ⟨(by show 0 ≤ sizeLine; decide), fun p40 np41 => ?_⟩
      have g42 := g34.own (o := (.lst [])) np41
      have ow43 : Ow H0 F27 (upd H25 p40 (.lst [])) p40 [] := Ow.new g34 np41
      have hA44 : RL K F27 [] ([] : List (VT Int)) := RpA.nil
      obtain ⟨y_longer45, hb46, hm37⟩ := bnd hm37
      have hx47 : ([] : List (VT Int)) = y_longer45 := sjoin hb46
      have hA48 : RL K F27 [] y_longer45 := RL.re hx47 hA44
      refine p_name ?_
      refine p_nx ?_
      refine p_seq ?_
      refine p_for ?_
      obtain ⟨p49, ws50, ev51, hS52, hl53, hA54⟩ := R.lst_v r_y_found36
      refine ⟨v_y_found29, rfl, p49, ev51, ⟨_, (Same.seq g42.fh hS52)⟩, ?_⟩
      obtain ⟨y_longer55, ht56, hm37⟩ := bnd hm37
      refine for_list (K := K) (a := p49) (xs := ws50) (fun i σ' H' => ∃ (F' : Hp) (o_y_row : Option V) (o_y_least : Option V) (y_longer : (List (VT Int))) (ws_y_longer : List V), σ' = [(some (V.int y_many)), (some (V.int y_size)), (some v_y_found29), (some (V.int ((0 : Int) + ((i23 : Nat) : Int)))), (some (V.ref p40)), o_y_row, o_y_least, none] ∧ Gr M0 F0 H0 F' H' ∧ Same F27 F' ∧ Ow H0 F' H' p40 ws_y_longer ∧ ws_y_longer.length ≤ sizeLine ∧ RL K F' ws_y_longer y_longer ∧ m_l_choices_l2 y_many (y_found28.drop i) y_longer = some y_longer55) ?_ ?_ ?_ ?_
      · exact ⟨F27, o_y_row32, o_y_least33, y_longer45, [], rfl, g42, (Same.refl _), ow43, (by show 0 ≤ sizeLine; decide), hA48, ht56⟩
      · intro i σ' H' _ hP
        obtain ⟨F', o_y_row, o_y_least, y_longer, ws_y_longer, rfl, g_, sm_, ow_y_longer, hl_y_longer, hA_y_longer, hm_⟩ := hP
        exact (Same.seq g_.fh (Same.seq sm_ hS52))
      · intro i57 xv60 σ' H59 hx58 hP
        obtain ⟨F61, o_y_row62, o_y_least63, y_longer64, ws_y_longer65, rfl, g66, sm67, ow_y_longer68, hl_y_longer69, hA_y_longer70, hm71⟩ := hP
        obtain ⟨e72, he73, r74⟩ := RL.get (hA54.up sm67) hx58
        rw [drop_at he73, m_l_choices_l2.eq_2] at hm71
        refine p_name ?_
        refine p_seq ?_
        refine p_asg ?_
        refine ⟨xv60, rfl, (by show 0 ≤ sizeLine; decide), fun p75 np76 => ?_⟩
        have ne77 := ow_y_longer68.ne np76
        have sm78 := same_new (o := (.tup [])) (g66.noneF np76)
        have g79 := g66.frz (o := (.tup [])) np76
        have ow80 := ow_y_longer68.frz (o := (.tup [])) np76
        have r81 : R K (upd F61 p75 (.tup [])) (V.ref p75) (VT.mk [] : (VT Int)) := (R.mkvt (xs := []) fzT (Nat.zero_le _) RpA.nil)
        have rH82 : R K (upd H59 p75 (.tup [])) xv60 e72 := (Rp.up (r74.up sm78) g79.fh)
        have rH83 : R K (upd H59 p75 (.tup [])) (V.ref p75) (VT.mk [] : (VT Int)) := (Rp.up r81 g79.fh)
        refine ⟨_, _, (Rp.dp _ _ rH82), (Rp.dp _ _ rH83), (R.shaped rH82), (R.shaped rH83), _, rfl, ?_⟩
        obtain ⟨c84, hc86, hm71⟩ := bnd hm71
        refine ifJ (M := M0) (F := (upd F61 p75 (.tup []))) (P := fun v' F' H' => v' = V.int (c84 : Int)) (fun ha => ?_) (fun ha => ?_) ?_
        · intro Q87 q88
          have ha : (eqD e72 (VT.mk [] : (VT Int))) = true := ha
          have hc86 := ifT ha hc86
          obtain rfl := sjoin hc86
          exact (q88 _ _ _ (Gr.refl (M := M0) g79.fh) rfl)
        · intro Q89 q90
          have ha : (eqD e72 (VT.mk [] : (VT Int))) = false := ha
          have hc86 := ifF ha hc86
          obtain ⟨p91, ws92, ev93, hs97, hl95, hA96⟩ := R.vt_s r74
          have hS94 : SqT K _ p91 ws92 := .inl (.inl hs97)
          obtain ⟨t98, hb99, hc86⟩ := bnd hc86
          obtain ⟨v100, ha101, r102⟩ := RL.at (hA96.up sm78) hb99
          obtain rfl := R.int_v r102
          obtain rfl := sjoin hc86
          refine ⟨xv60, rfl, xv60, rfl, p91, ws92, _, (by rw [ev93]), (.inr (SqT_mono g79.fh (SqT_mono sm78 hS94))), (RL.len (hA96.up sm78)), _, _, rfl, rfl, p91, ws92, _, (V.int t98), ev93, rfl, (SqT_mono g79.fh (SqT_mono sm78 hS94)), ha101, _, _, rfl, rfl, (q90 _ _ _ (Gr.refl (M := M0) g79.fh) rfl)⟩
        intro v106 F103 H104 g105 hp107
        have g109 := Gr.trans g79 g105
        have ow110 := ow80.gr0 g105
        obtain rfl := hp107
        refine p_name ?_
        refine p_nx ?_
        refine p_drop ?_
        obtain ⟨l111, hb113, hm71⟩ := bnd hm71
        obtain ⟨hk112, rfl⟩ := rangeO_ok hb113
        refine ⟨(V.ref p40), rfl, (.inl ⟨rfl, _, ow110.sq⟩), (V.int c84), rfl, (V.int y_many), rfl, _, _, rfl, hk112.1, fun D114 nD115 => ?_⟩
        have ne116 := ow110.ne nD115
        have g117 := g109.own (o := (.lst [])) nD115
        have ow118 := ow110.own (o := (.lst [])) nD115
        have ow119 : Ow H0 F103 (upd H104 D114 (.lst [])) D114 [] := Ow.new g109 nD115
        obtain ⟨l120, hb121, hm71⟩ := bnd hm71
        refine lc_range (lo := c84) (n := (y_many - c84).toNat) (fun i H' => ∃ (F' : Hp) (acc : List V) (ds : List (VT Int)) (rest : List (VT Int)), Gr M0 F0 H0 F' H' ∧ Same F103 F' ∧ Ow H0 F' H' D114 acc ∧ RL K F' acc ds ∧ acc.length ≤ i ∧ Ow H0 F' H' p40 ws_y_longer65 ∧ m_l_choices_c3 e72 ((rangeL c84 (y_many - c84).toNat).drop i) = some rest ∧ ds ++ rest = l120) ?_ ?_ ?_
        · exact ⟨F103, [], [], l120, g117, Same.refl _, ow119, RpA.nil, Nat.le_refl _, ow118, hb121, rfl⟩
        · intro i123 H125 hx124 hP
          obtain ⟨F126, acc127, ds128, rest129, g0130, sm131, owD132, hA133, hi134, ow0135, hm136, hr137⟩ := hP
          have he139 := rangeL_at (lo := c84) hx124
          rw [drop_at he139, m_l_choices_c3.eq_2] at hm136
          refine ⟨rfl, (p_yes ?_)⟩
          refine ⟨xv60, rfl, (V.int (c84 + ((i123 : Nat) : Int))), rfl, (by show 1 ≤ sizeLine; decide), fun p140 np141 => ?_⟩
          have ne142 := ow0135.ne np141
          have ne143 := owD132.ne np141
          have sm144 := same_new (o := (.tup [(V.int (c84 + ((i123 : Nat) : Int)))])) (g0130.noneF np141)
          have g145 := g0130.frz (o := (.tup [(V.int (c84 + ((i123 : Nat) : Int)))])) np141
          have ow146 := ow0135.frz (o := (.tup [(V.int (c84 + ((i123 : Nat) : Int)))])) np141
          have ow147 := owD132.frz (o := (.tup [(V.int (c84 + ((i123 : Nat) : Int)))])) np141
          have r148 : R K (upd F126 p140 (.tup [(V.int (c84 + ((i123 : Nat) : Int)))])) (.ref p140) ((T1.mk (c84 + ((i123 : Nat) : Int))) : (T1 Int)) := R.mk1 fzT (Rp.int (c84 + ((i123 : Nat) : Int)))
          obtain ⟨p149, v152, ev150, hS151, r153⟩ := R.p1_v r148
          obtain rfl := R.int_v r153
          have r154 : R K (upd F126 p140 (.tup [(V.int (c84 + ((i123 : Nat) : Int)))])) (V.ref p140) (VT.mk [(T1.mk (c84 + ((i123 : Nat) : Int))).a] : (VT Int)) := r148
          obtain ⟨t155, hb156, hm136⟩ := bnd hm136
          obtain ⟨hk157, rfl⟩ := conV_ok hb156
          obtain ⟨p158, ws159, ev160, hs164, hl162, hA163⟩ := R.vt_s r74
          have hS161 : SqT K _ p158 ws159 := .inl (.inl hs164)
          obtain ⟨p165, ws166, ev167, hs171, hl169, hA170⟩ := R.vt_s r154
          have hS168 : SqT K _ p165 ws166 := .inl (.inl hs171)
          refine ⟨(upd F126 p140 (.tup [(V.int (c84 + ((i123 : Nat) : Int)))])), p158, p165, ws159, ws166, ev160, ev167, (sm144 _ _ (sm131 _ _ (g105.ff _ _ (sm78 _ _ hs164)))), hs171, g145.fh, (by rw [(RL.len (hA163.up (Same.trans sm78 (Same.trans g105.ff (Same.trans sm131 sm144))))), (RL.len hA170)]; exact hk157), fun q172 F173 H174 g175 hs176 => ?_⟩
          have hA177 := RL.app (hA163.up (Same.trans sm78 (Same.trans g105.ff (Same.trans sm131 sm144)))) hA170
          have hl178 : (ws159 ++ ws166).length ≤ sizeLine := by rw [List.length_append, (RL.len (hA163.up (Same.trans sm78 (Same.trans g105.ff (Same.trans sm131 sm144))))), (RL.len hA170)]; exact hk157
          have g179 := Gr.trans g145 g175
          have ow180 := ow146.gr0 g175
          have ow181 := ow147.gr0 g175
          have r182 : R K F173 (.ref q172) (VT.mk ((e72).l ++ ((VT.mk [(T1.mk (c84 + ((i123 : Nat) : Int))).a] : (VT Int))).l) : (VT Int)) := R.mkvt hs176 hl178 (RpA.up hA177 g175.ff)
          have hA183 : RL K F173 (acc127 ++ [(V.ref q172)]) (ds128 ++ [((VT.mk ((e72).l ++ ((VT.mk [(T1.mk (c84 + ((i123 : Nat) : Int))).a] : (VT Int))).l) : (VT Int)) : (VT Int))]) := RL.snoc (hA133.up (Same.trans sm144 g175.ff)) r182
          obtain ⟨rest184, h185, h186⟩ := bnd hm136
          obtain rfl := sjoin h186
          refine ⟨acc127, ow181.h, (lt_line hi134 hx124 hk112.2), ?_⟩
          have g187 := g179.put (o := (.lst (acc127 ++ [(V.ref q172)]))) ow181
          have ow188 := ow180.other (o := (.lst (acc127 ++ [(V.ref q172)]))) ne116
          have ow189 := ow181.put (us := (acc127 ++ [(V.ref q172)]))
          exact ⟨F173, (acc127 ++ [(V.ref q172)]), (ds128 ++ [(VT.mk ((e72).l ++ ((VT.mk [(T1.mk (c84 + ((i123 : Nat) : Int))).a] : (VT Int))).l) : (VT Int))]), rest184, g187, (Same.trans sm131 (Same.trans sm144 g175.ff)), ow189, hA183, (by rw [List.length_append]; exact Nat.succ_le_succ hi134), ow188, h185, (snoc_rest hr137)⟩
        intro H190 hP
        obtain ⟨F191, acc192, ds193, _rest, g0195, sm196, owD197, hA198, hi199, ow0200, hm201, hr202⟩ := hP
        rw [drop_end (rangeL_len _ _).symm] at hm201
        rw [m_l_choices_c3.eq_1] at hm201
        obtain rfl := sjoin hm201
        rw [List.append_nil] at hr202
        obtain rfl := hr202
        have hl203 : acc192.length ≤ sizeLine := Nat.le_trans hi199 hk112.2
        obtain ⟨t204, hb205, hm71⟩ := bnd hm71
        obtain ⟨hk206, rfl⟩ := conL_ok hb205
        refine ⟨p40, D114, ws_y_longer65, acc192, rfl, rfl, ow0200.h, owD197.h, (by rw [RL.len (hA_y_longer70.up (Same.trans sm78 (Same.trans g105.ff sm196))), RL.len hA198]; exact hk206), ?_⟩
        have hA207 := RL.app (hA_y_longer70.up (Same.trans sm78 (Same.trans g105.ff sm196))) hA198
        have hl208 : (ws_y_longer65 ++ acc192).length ≤ sizeLine := by rw [List.length_append, RL.len (hA_y_longer70.up (Same.trans sm78 (Same.trans g105.ff sm196))), RL.len hA198]; exact hk206
        have g209 := g0195.put (o := (.lst (ws_y_longer65 ++ acc192))) ow0200
        have ow210 := owD197.other (o := (.lst (ws_y_longer65 ++ acc192))) (Ne.symm ne116)
        have ow211 := ow0200.put (us := (ws_y_longer65 ++ acc192))
        exact ⟨F191, (some xv60), (some (V.int c84)), (y_longer64 ++ ds193), (ws_y_longer65 ++ acc192), rfl, g209, (Same.trans sm67 (Same.trans sm78 (Same.trans g105.ff sm196))), ow211, hl208, hA207, hm71⟩
      intro σ212 H213 hP
      obtain ⟨F214, o_y_row215, o_y_least216, y_longer217, ws_y_longer218, rfl, g219, sm220, ow_y_longer221, hl_y_longer222, hA_y_longer223, hm224⟩ := hP
      rw [drop_end (RL.len (hA54.up sm220)), m_l_choices_l2.eq_1] at hm224
      obtain rfl := sjoin hm224
      refine p_nx ?_
      refine p_asg ?_
      refine ⟨(V.ref p40), rfl, ?_⟩
      refine p_name ?_
      have sm225 := ow_y_longer221.sf
      have g226 := g219.fz ow_y_longer221
      have r227 : R K (upd F214 p40 (.lst ws_y_longer218)) (.ref p40) y_longer217 := R.mkl fzS hl_y_longer222 (RpA.up hA_y_longer223 sm225)
      exact ⟨(upd F214 p40 (.lst ws_y_longer218)), y_longer217, (V.ref p40), (some (V.int ((0 : Int) + ((i23 : Nat) : Int)))), (some (V.ref p40)), o_y_row215, o_y_least216, rfl, g226, (Same.trans sm35 (Same.trans sm220 sm225)), r227, hm37⟩
    intro σ228 H229 hP
    obtain ⟨F230, y_found231, v_y_found232, o_y_k233, o_y_longer234, o_y_row235, o_y_least236, rfl, g237, sm238, r_y_found239, hm240⟩ := hP
    rw [drop_end (rangeL_len _ _).symm, m_l_choices_l1.eq_1] at hm240
    obtain rfl := sjoin hm240
    refine p_nx ?_
    refine p_ret ?_
    obtain rfl := sjoin hm
    refine ⟨v_y_found232, rfl, (hQ _ _ _ g237 r_y_found239)⟩
end K33
set_option synthInstance.maxSize 1000
set_option synthInstance.maxHeartbeats 400000
namespace K33
open PySem PySem.Spec PyProof.Rows L2 TL G
theorem ok_l_beginnings {P : Program} {w : World} {K : PySem.W.Frag} {mg : Str → Option Value} {base : Heap} (T : Txt K mg) : FnOk P w K mg base CX0 1 T.a_l_beginnings T.d_l_beginnings ["_law_wide"] (sp_l_beginnings K) := by
  refine fd_ok T.F_l_beginnings sc_l_beginnings (fun vs H Q E h => ?_) (fun cdv A outer s H0 vs Q E hr h => ?_)
  · obtain ⟨_, _, _, rfl, _⟩ := h
    rfl
  · obtain ⟨F0, y_wide, r, rfl, hS0, hm, hQ⟩ := h
    refine ⟨_, (pss_cons (ps_set (i := 1) sc_l_beginnings.nd rfl (.inl rfl) (pe_lst pa_nil)) (pss_cons (ps_for PassesOwn.never rfl (pi_range1 (by rfl) T.n_range (pa_cons (pe_op op_add (pv 0) pe_int) pa_nil)) (pg_name (i := 2) sc_l_beginnings.nd rfl (Or.inr rfl)) (pss_one (ps_expr (pe_bmK (K := K) PySem.F.plainAttrs_list PySem.F.slot_list_extend PySem.F.type_list_extend mt_extend (pv 1) (pa_cons (pe_lc (own := [("_law_number", 3)]) rfl sc_l_beginnings.nd (pi_range1 (by rfl) T.n_range (pa_cons (pe_op op_shl pe_int (pv 2)) pa_nil)) (blkOk_by (own := [("_law_number", 3)]) (N := N_l_beginnings) (sc := defScope s_l_beginnings) (by decide +kernel)) (fun _ _ _ _ _ => (pg_name (i := 3) sc_l_beginnings.nd rfl (Or.inl rfl) (.inr rfl))) (fun _ _ _ _ _ => pts_nil) (fun _ _ _ _ _ => (pe_tup (pa_cons (pv 2) (pa_cons (pv 3) pa_nil))))) pa_nil))))) (pss_one (ps_ret (pv 1))))), ?_⟩
    have g0 : Gr M0 F0 H0 F0 H0 := Gr.refl hS0
    unfold m_l_beginnings at hm
    refine p_seq ?_
    refine p_asg ?_
    refine ⟨(by show 0 ≤ sizeLine; decide), fun p1 np2 => ?_⟩
    have g3 := g0.own (o := (.lst [])) np2
    have ow4 : Ow H0 F0 (upd H0 p1 (.lst [])) p1 [] := Ow.new g0 np2
    have hA5 : RL K F0 [] ([] : List (Int × Int)) := RpA.nil
    obtain ⟨y_found6, hb7, hm⟩ := bnd hm
    have hx8 : ([] : List (Int × Int)) = y_found6 := sjoin hb7
    have hA9 : RL K F0 [] y_found6 := RL.re hx8 hA5
    refine p_name ?_
    refine p_nx ?_
    refine p_seq ?_
    refine p_for ?_
    obtain ⟨l10, hb12, hm⟩ := bnd hm
    obtain ⟨hk11, rfl⟩ := rangeO1_ok hb12
    refine ⟨(V.int y_wide), rfl, _, _, rfl, rfl, _, rfl, hk11.1.1, hk11.1.2, ?_⟩
    obtain ⟨y_found13, ht14, hm⟩ := bnd hm
    refine for_range (lo := (0 : Int)) (n := ((y_wide + (1 : Int))).toNat) (fun i σ' H' => ∃ (F' : Hp) (o_y_size : Option V) (y_found : (List (Int × Int))) (ws_y_found : List V), σ' = [(some (V.int y_wide)), (some (V.ref p1)), o_y_size, none] ∧ Gr M0 F0 H0 F' H' ∧ Same F0 F' ∧ Ow H0 F' H' p1 ws_y_found ∧ ws_y_found.length ≤ sizeLine ∧ RL K F' ws_y_found y_found ∧ m_l_beginnings_l1  ((rangeL (0 : Int) ((y_wide + (1 : Int))).toNat).drop i) y_found = some y_found13) ?_ ?_ ?_
    · exact ⟨F0, none, y_found6, [], rfl, g3, (Same.refl _), ow4, (by show 0 ≤ sizeLine; decide), hA9, ht14⟩
    · intro i15 σ' H17 hx16 hP
      obtain ⟨F19, o_y_size20, y_found21, ws_y_found22, rfl, g23, sm24, ow_y_found25, hl_y_found26, hA_y_found27, hm28⟩ := hP
      have he30 := rangeL_at (lo := (0 : Int)) hx16
      rw [drop_at he30, m_l_beginnings_l1.eq_2] at hm28
      refine p_name ?_
      refine p_drop ?_
      obtain ⟨t31, hb32, hm28⟩ := bnd hm28
      obtain ⟨hk33, rfl⟩ := shlI_ok hb32
      obtain ⟨l34, hb36, hm28⟩ := bnd hm28
      obtain ⟨hk35, rfl⟩ := rangeO1_ok hb36
      refine ⟨(V.ref p1), rfl, (.inl ⟨rfl, _, ow_y_found25.sq⟩), (V.int ((0 : Int) + ((i15 : Nat) : Int))), rfl, _, _, rfl, rfl, hk33, _, rfl, hk35.1.1, hk35.1.2, fun D37 nD38 => ?_⟩
      have ne39 := ow_y_found25.ne nD38
      have g40 := g23.own (o := (.lst [])) nD38
      have ow41 := ow_y_found25.own (o := (.lst [])) nD38
      have ow42 : Ow H0 F19 (upd H17 D37 (.lst [])) D37 [] := Ow.new g23 nD38
      refine lc_range (lo := (0 : Int)) (n := (((1 : Int) * 2 ^ (((0 : Int) + ((i15 : Nat) : Int))).toNat)).toNat) (fun i H' => ∃ (F' : Hp) (acc : List V) (ds : List (Int × Int)), Gr M0 F0 H0 F' H' ∧ Same F19 F' ∧ Ow H0 F' H' D37 acc ∧ RL K F' acc ds ∧ acc.length ≤ i ∧ Ow H0 F' H' p1 ws_y_found22 ∧ ds ++ m_l_beginnings_c2 ((0 : Int) + ((i15 : Nat) : Int)) ((rangeL (0 : Int) (((1 : Int) * 2 ^ (((0 : Int) + ((i15 : Nat) : Int))).toNat)).toNat).drop i) = (m_l_beginnings_c2 ((0 : Int) + ((i15 : Nat) : Int)) (rangeL (0 : Int) (((1 : Int) * 2 ^ (((0 : Int) + ((i15 : Nat) : Int))).toNat)).toNat))) ?_ ?_ ?_
      · exact ⟨F19, [], [], g40, Same.refl _, ow42, RpA.nil, Nat.le_refl _, ow41, rfl⟩
      · intro i45 H47 hx46 hP
        obtain ⟨F48, acc49, ds50, g051, sm52, owD53, hA54, hi55, ow056, hr57⟩ := hP
        have he59 := rangeL_at (lo := (0 : Int)) hx46
        rw [drop_at he59, m_l_beginnings_c2.eq_2] at hr57
        refine ⟨rfl, (p_yes ?_)⟩
        refine ⟨(V.int ((0 : Int) + ((i15 : Nat) : Int))), rfl, (V.int ((0 : Int) + ((i45 : Nat) : Int))), rfl, (by show 2 ≤ sizeLine; decide), fun p60 np61 => ?_⟩
        have ne62 := ow056.ne np61
        have ne63 := owD53.ne np61
        have sm64 := same_new (o := (.tup [(V.int ((0 : Int) + ((i15 : Nat) : Int))), (V.int ((0 : Int) + ((i45 : Nat) : Int)))])) (g051.noneF np61)
        have g65 := g051.frz (o := (.tup [(V.int ((0 : Int) + ((i15 : Nat) : Int))), (V.int ((0 : Int) + ((i45 : Nat) : Int)))])) np61
        have ow66 := ow056.frz (o := (.tup [(V.int ((0 : Int) + ((i15 : Nat) : Int))), (V.int ((0 : Int) + ((i45 : Nat) : Int)))])) np61
        have ow67 := owD53.frz (o := (.tup [(V.int ((0 : Int) + ((i15 : Nat) : Int))), (V.int ((0 : Int) + ((i45 : Nat) : Int)))])) np61
        have r68 : R K (upd F48 p60 (.tup [(V.int ((0 : Int) + ((i15 : Nat) : Int))), (V.int ((0 : Int) + ((i45 : Nat) : Int)))])) (.ref p60) ((((0 : Int) + ((i15 : Nat) : Int)), ((0 : Int) + ((i45 : Nat) : Int))) : (Int × Int)) := R.mk2 fzT (Rp.int ((0 : Int) + ((i15 : Nat) : Int))) (Rp.int ((0 : Int) + ((i45 : Nat) : Int)))
        have hA69 : RL K (upd F48 p60 (.tup [(V.int ((0 : Int) + ((i15 : Nat) : Int))), (V.int ((0 : Int) + ((i45 : Nat) : Int)))])) (acc49 ++ [(V.ref p60)]) (ds50 ++ [((((0 : Int) + ((i15 : Nat) : Int)), ((0 : Int) + ((i45 : Nat) : Int))) : (Int × Int))]) := RL.snoc (hA54.up sm64) r68
        refine ⟨acc49, ow67.h, (lt_line hi55 hx46 hk35.2), ?_⟩
        have g70 := g65.put (o := (.lst (acc49 ++ [(V.ref p60)]))) ow67
        have ow71 := ow66.other (o := (.lst (acc49 ++ [(V.ref p60)]))) ne39
        have ow72 := ow67.put (us := (acc49 ++ [(V.ref p60)]))
        exact ⟨(upd F48 p60 (.tup [(V.int ((0 : Int) + ((i15 : Nat) : Int))), (V.int ((0 : Int) + ((i45 : Nat) : Int)))])), (acc49 ++ [(V.ref p60)]), (ds50 ++ [(((0 : Int) + ((i15 : Nat) : Int)), ((0 : Int) + ((i45 : Nat) : Int)))]), g70, (Same.trans sm52 sm64), ow72, hA69, (by rw [List.length_append]; exact Nat.succ_le_succ hi55), ow71, (snoc_rest hr57)⟩
      intro H73 hP
      obtain ⟨F74, acc75, ds76, g078, sm79, owD80, hA81, hi82, ow083, hr84⟩ := hP
      rw [drop_end (rangeL_len _ _).symm] at hr84
      rw [m_l_beginnings_c2.eq_1, List.append_nil] at hr84
      obtain rfl := hr84
      have hl85 : acc75.length ≤ sizeLine := Nat.le_trans hi82 hk35.2
      obtain ⟨t86, hb87, hm28⟩ := bnd hm28
      obtain ⟨hk88, rfl⟩ := conL_ok hb87
      refine ⟨p1, D37, ws_y_found22, acc75, rfl, rfl, ow083.h, owD80.h, (by rw [RL.len (hA_y_found27.up sm79), RL.len hA81]; exact hk88), ?_⟩
      have hA89 := RL.app (hA_y_found27.up sm79) hA81
      have hl90 : (ws_y_found22 ++ acc75).length ≤ sizeLine := by rw [List.length_append, RL.len (hA_y_found27.up sm79), RL.len hA81]; exact hk88
      have g91 := g078.put (o := (.lst (ws_y_found22 ++ acc75))) ow083
      have ow92 := owD80.other (o := (.lst (ws_y_found22 ++ acc75))) (Ne.symm ne39)
      have ow93 := ow083.put (us := (ws_y_found22 ++ acc75))
      exact ⟨F74, (some (V.int ((0 : Int) + ((i15 : Nat) : Int)))), (y_found21 ++ (m_l_beginnings_c2 ((0 : Int) + ((i15 : Nat) : Int)) (rangeL (0 : Int) (((1 : Int) * 2 ^ (((0 : Int) + ((i15 : Nat) : Int))).toNat)).toNat))), (ws_y_found22 ++ acc75), rfl, g91, (Same.trans sm24 sm79), ow93, hl90, hA89, hm28⟩
    intro σ94 H95 hP
    obtain ⟨F96, o_y_size97, y_found98, ws_y_found99, rfl, g100, sm101, ow_y_found102, hl_y_found103, hA_y_found104, hm105⟩ := hP
    rw [drop_end (rangeL_len _ _).symm, m_l_beginnings_l1.eq_1] at hm105
    obtain rfl := sjoin hm105
    refine p_nx ?_
    refine p_ret ?_
    obtain rfl := sjoin hm
    refine ⟨(V.ref p1), rfl, (hQ _ _ _ _ g100 ow_y_found102.n0 ow_y_found102.h ow_y_found102.nF hl_y_found103 hA_y_found104)⟩
end K33
set_option synthInstance.maxSize 1000
set_option synthInstance.maxHeartbeats 400000
namespace K33
open PySem PySem.Spec PyProof.Rows L2 TL G
theorem ok_l_places {P : Program} {w : World} {K : PySem.W.Frag} {mg : Str → Option Value} {base : Heap} (T : Txt K mg) : FnOk P w K mg base CX0 2 T.a_l_places T.d_l_places ["_law_wide"] (sp_l_places K) := by
  have G_l_beginnings : FnOk P w K mg base CX0 1 T.a_l_beginnings T.d_l_beginnings ["_law_wide"] (sp_l_beginnings K) := ok_l_beginnings T
  have b_l_beginnings := T.F_l_beginnings.bindsN (ps := ["_law_wide"]) fun _ _ _ _ _ _ us hl => match us, hl with | [_], _ => rfl
  refine fd_ok T.F_l_places sc_l_places (fun vs H Q E h => ?_) (fun cdv A outer s H0 vs Q E hr h => ?_)
  · obtain ⟨_, _, _, rfl, _⟩ := h
    rfl
  · obtain ⟨F0, y_wide, r, rfl, hS0, hm, hQ⟩ := h
    refine ⟨_, (pss_cons (ps_set (i := 1) sc_l_places.nd rfl (.inr rfl) (pe_call G_l_beginnings (hr.mono (by decide)) (by rfl) T.g_l_beginnings T.F_l_beginnings.kp b_l_beginnings .nil pass0 (pa_cons (pv 0) pa_nil))) (pss_cons (ps_set (i := 2) sc_l_places.nd rfl (.inl rfl) (pe_lst pa_nil)) (pss_cons (ps_for PassesOwn.never rfl (pi_range1 (by rfl) T.n_range (pa_cons (pe_op op_shl pe_int (pv 0)) pa_nil)) (pg_name (i := 3) sc_l_places.nd rfl (Or.inr rfl)) (pss_cons (ps_setLc (i := 4) (own := [("_law_k", 5)]) rfl sc_l_places.nd rfl rfl (sw_true rfl rfl rfl (by decide +kernel)) (pi_range1 (by rfl) T.n_range (pa_cons (pe_callB (call_lenLK (K := K)) (by rfl) T.n_len (by decide +kernel) (pa_cons (pv 1) pa_nil)) pa_nil)) (blkOk_by (own := [("_law_k", 5)]) (N := N_l_places) (sc := defScope s_l_places) (by decide +kernel)) (fun _ _ _ _ _ => (pg_name (i := 5) sc_l_places.nd rfl (Or.inl rfl) (.inr rfl))) (fun _ _ _ _ _ => (pts_one (pt_cmpR op_eq (pe_op op_shr (pv 3) (pe_op op_sub (pv 0) (pe_ix (ix_tupK (K := K)) (pe_ix (ix_listK (K := K)) (pv 1) (pv 5) (fun _ _ => rfl)) pe_int (fun _ _ => rfl)))) (pe_ix (ix_tupK (K := K)) (pe_ix (ix_listK (K := K)) (pv 1) (pv 5) (fun _ _ => rfl)) pe_int (fun _ _ => rfl)) (nomark _)))) (fun _ _ _ _ _ => (pv 5))) (pss_one (ps_expr (pe_bmK (K := K) PySem.F.plainAttrs_list PySem.F.slot_list_append PySem.F.type_list_append mt_append (pv 2) (pa_cons (pe_revLK (K := K) (pv 4)) pa_nil)))))) (pss_one (ps_ret (pv 2)))))), ?_⟩
    have g0 : Gr M0 F0 H0 F0 H0 := Gr.refl hS0
    unfold m_l_places at hm
    refine p_seq ?_
    refine p_asg ?_
    obtain ⟨r1, hb2, hm⟩ := bnd hm
    refine ⟨(V.int y_wide), rfl, F0, y_wide, r1, rfl, g0.fh, hb2, fun p6 ws7 F3 H4 g5 np8 h9 nF10 hl11 hA12 => ?_⟩
    have n013 := g0.none0 np8
    have g14 := Gr.trans g0 g5
    have ow15 : Ow H0 F3 H4 p6 ws7 := ⟨h9, nF10, n013⟩
    refine p_name ?_
    refine p_nx ?_
    refine p_seq ?_
    refine p_asg ?_
    refine ⟨(by show 0 ≤ sizeLine; decide), fun p16 np17 => ?_⟩
    have ne18 := ow15.ne np17
    have g19 := g14.own (o := (.lst [])) np17
    have ow20 := ow15.own (o := (.lst [])) np17
    have ow21 : Ow H0 F3 (upd H4 p16 (.lst [])) p16 [] := Ow.new g14 np17
    have hA22 : RL K F3 [] ([] : List (List Int)) := RpA.nil
    obtain ⟨y_found23, hb24, hm⟩ := bnd hm
    have hx25 : ([] : List (List Int)) = y_found23 := sjoin hb24
    have hA26 : RL K F3 [] y_found23 := RL.re hx25 hA22
    refine p_name ?_
    refine p_nx ?_
    refine p_seq ?_
    refine p_for ?_
    obtain ⟨t27, hb28, hm⟩ := bnd hm
    obtain ⟨hk29, rfl⟩ := shlI_ok hb28
    obtain ⟨l30, hb32, hm⟩ := bnd hm
    obtain ⟨hk31, rfl⟩ := rangeO1_ok hb32
    refine ⟨(V.int y_wide), rfl, _, _, rfl, rfl, hk29, _, rfl, hk31.1.1, hk31.1.2, ?_⟩
    obtain ⟨y_found33, ht34, hm⟩ := bnd hm
    refine for_range (lo := (0 : Int)) (n := (((1 : Int) * 2 ^ (y_wide).toNat)).toNat) (fun i σ' H' => ∃ (F' : Hp) (o_y_spot : Option V) (o_y_row : Option V) (y_found : (List (List Int))) (ws_y_found : List V), σ' = [(some (V.int y_wide)), (some (V.ref p6)), (some (V.ref p16)), o_y_spot, o_y_row, none] ∧ Gr M0 F0 H0 F' H' ∧ Same F3 F' ∧ Ow H0 F' H' p16 ws_y_found ∧ ws_y_found.length ≤ sizeLine ∧ RL K F' ws_y_found y_found ∧ Ow H0 F' H' p6 ws7 ∧ m_l_places_l1 y_wide r1 ((rangeL (0 : Int) (((1 : Int) * 2 ^ (y_wide).toNat)).toNat).drop i) y_found = some y_found33) ?_ ?_ ?_
    · exact ⟨F3, none, none, y_found23, [], rfl, g19, (Same.refl _), ow21, (by show 0 ≤ sizeLine; decide), hA26, ow20, ht34⟩
    · intro i35 σ' H37 hx36 hP
      obtain ⟨F39, o_y_spot40, o_y_row41, y_found42, ws_y_found43, rfl, g44, sm45, ow_y_found46, hl_y_found47, hA_y_found48, owk049, hm50⟩ := hP
      have he52 := rangeL_at (lo := (0 : Int)) hx36
      rw [drop_at he52, m_l_places_l1.eq_2] at hm50
      refine p_name ?_
      refine p_seq ?_
      refine p_asg ?_
      obtain ⟨l53, hb55, hm50⟩ := bnd hm50
      obtain ⟨hk54, rfl⟩ := rangeO1_ok hb55
      refine ⟨(V.ref p6), rfl, p6, ws7, _, rfl, (.inl owk049.sq), (RL.len (hA12.up sm45)), _, rfl, hk54.1.1, hk54.1.2, fun D56 nD57 => ?_⟩
      have ne58 := owk049.ne nD57
      have ne59 := ow_y_found46.ne nD57
      have g60 := g44.own (o := (.lst [])) nD57
      have ow61 := owk049.own (o := (.lst [])) nD57
      have ow62 := ow_y_found46.own (o := (.lst [])) nD57
      have ow63 : Ow H0 F39 (upd H37 D56 (.lst [])) D56 [] := Ow.new g44 nD57
      obtain ⟨l64, hb65, hm50⟩ := bnd hm50
      refine lc_range (lo := (0 : Int)) (n := ((((r1).length : Nat) : Int)).toNat) (fun i H' => ∃ (F' : Hp) (acc : List V) (ds : List Int) (rest : List Int), Gr M0 F0 H0 F' H' ∧ Same F39 F' ∧ Ow H0 F' H' D56 acc ∧ RL K F' acc ds ∧ acc.length ≤ i ∧ Ow H0 F' H' p6 ws7 ∧ Ow H0 F' H' p16 ws_y_found43 ∧ m_l_places_c2 y_wide r1 ((0 : Int) + ((i35 : Nat) : Int)) ((rangeL (0 : Int) ((((r1).length : Nat) : Int)).toNat).drop i) = some rest ∧ ds ++ rest = l64) ?_ ?_ ?_
      · exact ⟨F39, [], [], l64, g60, Same.refl _, ow63, RpA.nil, Nat.le_refl _, ow61, ow62, hb65, rfl⟩
      · intro i67 H69 hx68 hP
        obtain ⟨F70, acc71, ds72, rest73, g074, sm75, owD76, hA77, hi78, ow079, ow180, hm81, hr82⟩ := hP
        have he84 := rangeL_at (lo := (0 : Int)) hx68
        rw [drop_at he84, m_l_places_c2.eq_2] at hm81
        obtain ⟨t85, hb86, hm81⟩ := bnd hm81
        obtain ⟨v87, ha88, r89⟩ := RL.at (hA12.up (Same.trans sm45 sm75)) hb86
        obtain ⟨p90, v93, v94, ev91, hS92, r95, r96⟩ := R.p2_v r89
        obtain rfl := R.int_v r95
        obtain rfl := R.int_v r96
        obtain ⟨t97, hb98, hm81⟩ := bnd hm81
        obtain ⟨hk99, rfl⟩ := shrI_ok hb98
        obtain ⟨t100, hb101, hm81⟩ := bnd hm81
        obtain ⟨v102, ha103, r104⟩ := RL.at (hA12.up (Same.trans sm45 sm75)) hb101
        obtain ⟨p105, v108, v109, ev106, hS107, r110, r111⟩ := R.p2_v r104
        obtain rfl := R.int_v r110
        obtain rfl := R.int_v r111
        refine ⟨rfl, (V.int ((0 : Int) + ((i35 : Nat) : Int))), rfl, (V.int y_wide), rfl, (V.ref p6), rfl, (V.int ((0 : Int) + ((i67 : Nat) : Int))), rfl, p6, ws7, _, v87, rfl, rfl, ow079.sq, ha88, p90, _, _, (V.int t85.1), ev91, rfl, (SqT_mono g074.fh hS92), rfl, _, _, rfl, rfl, _, _, rfl, rfl, hk99, (V.ref p6), rfl, (V.int ((0 : Int) + ((i67 : Nat) : Int))), rfl, p6, ws7, _, v102, rfl, rfl, ow079.sq, ha103, p105, _, _, (V.int t100.2), ev106, rfl, (SqT_mono g074.fh hS107), rfl, rfl, _, rfl, (iteB (fun hc => ?_) (fun hc => ?_))⟩
        · have hc : (eqI (((0 : Int) + ((i35 : Nat) : Int)) / 2 ^ ((y_wide - t85.1)).toNat) t100.2) = true := hc
          have hm81 := ifT hc hm81
          have hA112 : RL K F70 (acc71 ++ [(V.int ((0 : Int) + ((i67 : Nat) : Int)))]) (ds72 ++ [(((0 : Int) + ((i67 : Nat) : Int)) : Int)]) := RL.snoc hA77 (Rp.int ((0 : Int) + ((i67 : Nat) : Int)))
          obtain ⟨rest113, h114, h115⟩ := bnd hm81
          obtain rfl := sjoin h115
          refine ⟨(V.int ((0 : Int) + ((i67 : Nat) : Int))), rfl, acc71, owD76.h, (lt_line hi78 hx68 hk54.2), ?_⟩
          have g116 := g074.put (o := (.lst (acc71 ++ [(V.int ((0 : Int) + ((i67 : Nat) : Int)))]))) owD76
          have ow117 := ow079.other (o := (.lst (acc71 ++ [(V.int ((0 : Int) + ((i67 : Nat) : Int)))]))) ne58
          have ow118 := ow180.other (o := (.lst (acc71 ++ [(V.int ((0 : Int) + ((i67 : Nat) : Int)))]))) ne59
          have ow119 := owD76.put (us := (acc71 ++ [(V.int ((0 : Int) + ((i67 : Nat) : Int)))]))
          exact ⟨F70, (acc71 ++ [(V.int ((0 : Int) + ((i67 : Nat) : Int)))]), (ds72 ++ [((0 : Int) + ((i67 : Nat) : Int))]), rest113, g116, sm75, ow119, hA112, (by rw [List.length_append]; exact Nat.succ_le_succ hi78), ow117, ow118, h114, (snoc_rest hr82)⟩
        · have hc : (eqI (((0 : Int) + ((i35 : Nat) : Int)) / 2 ^ ((y_wide - t85.1)).toNat) t100.2) = false := hc
          have hm81 := ifF hc hm81
          exact ⟨F70, acc71, ds72, rest73, g074, sm75, owD76, hA77, (Nat.le_succ_of_le hi78), ow079, ow180, hm81, hr82⟩
      intro H120 hP
      obtain ⟨F121, acc122, ds123, _rest, g0125, sm126, owD127, hA128, hi129, ow0130, ow1131, hm132, hr133⟩ := hP
      rw [drop_end (rangeL_len _ _).symm] at hm132
      rw [m_l_places_c2.eq_1] at hm132
      obtain rfl := sjoin hm132
      rw [List.append_nil] at hr133
      obtain rfl := hr133
      have hl134 : acc122.length ≤ sizeLine := Nat.le_trans hi129 hk54.2
      refine p_name ?_
      refine p_nx ?_
      refine p_drop ?_
      refine ⟨(V.ref p16), rfl, (.inl ⟨rfl, _, ow1131.sq⟩), (V.ref D56), rfl, D56, acc122, rfl, owD127.sq, fun p135 np136 => ?_⟩
      have hA137 := RL.rev hA128
      have ne138 := ow0130.ne np136
      have ne139 := ow1131.ne np136
      have ne140 := owD127.ne np136
      have g141 := g0125.own (o := (.lst (acc122.reverse))) np136
      have ow142 := ow0130.own (o := (.lst (acc122.reverse))) np136
      have ow143 := ow1131.own (o := (.lst (acc122.reverse))) np136
      have ow144 := owD127.own (o := (.lst (acc122.reverse))) np136
      have ow145 : Ow H0 F121 (upd H120 p135 (.lst (acc122.reverse))) p135 (acc122.reverse) := Ow.new g0125 np136
      have sm146 := ow145.sf
      have g147 := g141.fz ow145
      have ow148 : Ow H0 (upd F121 p135 (.lst (acc122.reverse))) (upd H120 p135 (.lst (acc122.reverse))) p6 ws7 := ow142.fz ne138
      have ow149 : Ow H0 (upd F121 p135 (.lst (acc122.reverse))) (upd H120 p135 (.lst (acc122.reverse))) p16 ws_y_found43 := ow143.fz ne139
      have ow150 : Ow H0 (upd F121 p135 (.lst (acc122.reverse))) (upd H120 p135 (.lst (acc122.reverse))) D56 acc122 := ow144.fz ne140
      have r151 : R K (upd F121 p135 (.lst (acc122.reverse))) (.ref p135) (ds123.reverse) := R.mkl fzS (by rw [List.length_reverse]; exact hl134) (RpA.up hA137 sm146)
      obtain ⟨t152, hb153, hm50⟩ := bnd hm50
      obtain ⟨hk154, rfl⟩ := appL_ok hb153
      refine ⟨p16, ws_y_found43, (V.ref p135), rfl, rfl, ow149.h, (by rw [RL.len (hA_y_found48.up (Same.trans sm126 sm146))]; exact hk154), ?_⟩
      have hA155 : RL K (upd F121 p135 (.lst (acc122.reverse))) (ws_y_found43 ++ [(V.ref p135)]) (y_found42 ++ [((ds123.reverse) : (List Int))]) := RL.snoc (hA_y_found48.up (Same.trans sm126 sm146)) r151
      have hl156 : (ws_y_found43 ++ [(V.ref p135)]).length ≤ sizeLine := by rw [List.length_append, RL.len (hA_y_found48.up (Same.trans sm126 sm146))]; exact hk154
      have g157 := g147.put (o := (.lst (ws_y_found43 ++ [(V.ref p135)]))) ow149
      have ow158 := ow148.other (o := (.lst (ws_y_found43 ++ [(V.ref p135)]))) ne18
      have ow159 := ow150.other (o := (.lst (ws_y_found43 ++ [(V.ref p135)]))) (Ne.symm ne59)
      have ow160 := ow149.put (us := (ws_y_found43 ++ [(V.ref p135)]))
      exact ⟨(upd F121 p135 (.lst (acc122.reverse))), (some (V.int ((0 : Int) + ((i35 : Nat) : Int)))), (some (V.ref D56)), (y_found42 ++ [(ds123.reverse)]), (ws_y_found43 ++ [(V.ref p135)]), rfl, g157, (Same.trans sm45 (Same.trans sm126 sm146)), ow160, hl156, hA155, ow158, hm50⟩
    intro σ161 H162 hP
    obtain ⟨F163, o_y_spot164, o_y_row165, y_found166, ws_y_found167, rfl, g168, sm169, ow_y_found170, hl_y_found171, hA_y_found172, owk0173, hm174⟩ := hP
    rw [drop_end (rangeL_len _ _).symm, m_l_places_l1.eq_1] at hm174
    obtain rfl := sjoin hm174
    refine p_nx ?_
    refine p_ret ?_
    obtain rfl := sjoin hm
    refine ⟨(V.ref p16), rfl, (hQ _ _ _ _ g168 ow_y_found170.n0 ow_y_found170.h ow_y_found170.nF hl_y_found171 hA_y_found172)⟩
end K33
set_option synthInstance.maxSize 1000
set_option synthInstance.maxHeartbeats 400000
namespace K33
open PySem PySem.Spec PyProof.Rows L2 TL G
theorem ok_l_can_tell {P : Program} {w : World} {K : PySem.W.Frag} {mg : Str → Option Value} {base : Heap} (T : Txt K mg) : FnOk P w K mg base CX0 1 T.a_l_can_tell T.d_l_can_tell ["_law_choice", "_law_places_here", "_law_values"] (sp_l_can_tell K) := by
  refine fd_ok T.F_l_can_tell sc_l_can_tell (fun vs H Q E h => ?_) (fun cdv A outer s H0 vs Q E hr h => ?_)
  · obtain ⟨_, _, _, _, _, _, _, _, _, rfl, _⟩ := h
    rfl
  · obtain ⟨v_y_choice, y_choice, p_y_places_here, ws_y_places_here, y_places_here, p_y_values, ws_y_values, y_values, r, rfl, r_y_choice, hS_y_places_here, hl_y_places_here, hA_y_places_here, nm_y_places_here, hS_y_values, hl_y_values, hA_y_values, nm_y_values, hm, hQ⟩ := h
    refine ⟨_, (pss_cons (ps_set (i := 3) sc_l_can_tell.nd rfl (.inl rfl) (pe_dnewK)) (pss_cons (ps_for PassesOwn.never rfl (pi_range1 (by rfl) T.n_range (pa_cons (pe_callB (call_lenLK (K := K)) (by rfl) T.n_len (by decide +kernel) (pa_cons (pv 1) pa_nil)) pa_nil)) (pg_name (i := 4) sc_l_can_tell.nd rfl (Or.inl rfl)) (pss_cons (ps_set (i := 5) sc_l_can_tell.nd rfl (.inl rfl) (pe_slice (sl_listK (K := K)) (pe_lc (own := [("_law_k", 6)]) rfl sc_l_can_tell.nd (pi_listK (K := K) (pe_ix (ix_listK (K := K)) (pv 1) (pv 4) (fun _ _ => rfl))) (blkOk_by (own := [("_law_k", 6)]) (N := N_l_can_tell) (sc := defScope s_l_can_tell) (by decide +kernel)) (fun _ _ _ _ _ => (pg_name (i := 6) sc_l_can_tell.nd rfl (Or.inl rfl) (.inr rfl))) (fun _ _ _ _ _ => (pts_one (pt_cmpR (op_inI (K := K)) (pv 6) (pv 0) rfl))) (fun _ _ _ _ _ => (pv 6))) po_none (po_some pe_int))) (pss_cons (ps_if (PW.pt (pw_and (pt_cmpR (op_eqDK (K := K) hr.units) (pv 5) (pe_lst pa_nil) (nomark _)) (pw_and1 (pt_cmpR op_notO (pe_ix (ix_listK (K := K)) (pv 2) (pv 4) (fun _ _ => rfl)) pe_non (nomark _))))) (pss_one (ps_ret pe_bl)) pss_nil) (pss_one (ps_if (PW.pt (pw_and (pt_cmpR (op_neDK (K := K) hr.units) (pv 5) (pe_lst pa_nil) (nomark _)) (pw_and1 (pt_cmpR (op_neDK (K := K) hr.units) (pe_dsetd1 (pv 3) (pe_ix (ix_listK (K := K)) (pv 5) pe_int (fun _ _ => rfl)) (pe_ix (ix_listK (K := K)) (pv 2) (pv 4) (fun _ _ => rfl)) ⟨by rfl, by rfl, by rfl, by rfl⟩) (pe_ix (ix_listK (K := K)) (pv 2) (pv 4) (fun _ _ => rfl)) (nomark _))))) (pss_one (ps_ret pe_bl)) pss_nil))))) (pss_one (ps_ret pe_bl)))), ?_⟩
    have g0 : Gr M0 H0 H0 H0 H0 := Gr.refl (Same.refl _)
    unfold m_l_can_tell at hm
    refine p_seq ?_
    refine p_asg ?_
    refine fun p1 np2 => ?_
    have g3 := g0.own (o := (.dK [])) np2
    have ow4 : Od H0 H0 (upd H0 p1 (.dK [])) p1 (.dK []) := Od.new g0 np2 (fun _ z => nomatch z)
    have hA5 : RD (α := Int) (β := (Option Int)) K H0 [] [] := RD.nil
    obtain ⟨y_due6, hb7, hm⟩ := bnd hm
    have hx8 : ([] : (List (Int × (Option Int)))) = y_due6 := sjoin hb7
    have hA9 : RD (α := Int) (β := (Option Int)) K H0 [] y_due6 := RD.re hx8 hA5
    refine p_name ?_
    refine p_nx ?_
    refine p_seq ?_
    refine p_for ?_
    obtain ⟨l10, hb12, hm⟩ := bnd hm
    obtain ⟨hk11, rfl⟩ := rangeO1_ok hb12
    refine ⟨(V.ref p_y_places_here), rfl, p_y_places_here, ws_y_places_here, _, rfl, (.inl (g3.seq nm_y_places_here hS_y_places_here)), (RL.len hA_y_places_here), _, rfl, hk11.1.1, hk11.1.2, ?_⟩
    obtain ⟨l14, ht15, hm⟩ := bndL1 hm
    refine for_range (lo := (0 : Int)) (n := ((((y_places_here).length : Nat) : Int)).toNat) (fun i σ' H' => ∃ (F' : Hp) (o_y_spot : Option V) (o_y_longest : Option V) (y_due : (List (Int × (Option Int)))) (ws_y_due : (List (Key × V))), σ' = [(some v_y_choice), (some (V.ref p_y_places_here)), (some (V.ref p_y_values)), (some (V.ref p1)), o_y_spot, o_y_longest, none] ∧ Gr M0 H0 H0 F' H' ∧ Same H0 F' ∧ Od H0 F' H' p1 (.dK ws_y_due) ∧ ws_y_due.length ≤ sizeLine ∧ RD (α := Int) (β := (Option Int)) K F' ws_y_due y_due ∧ m_l_can_tell_l1 y_choice y_places_here y_values ((rangeL (0 : Int) ((((y_places_here).length : Nat) : Int)).toNat).drop i) y_due = some l14) ?_ ?_ ?_
    · exact ⟨H0, none, none, y_due6, [], rfl, g3, (Same.refl _), ow4, (Nat.zero_le _), hA9, ht15⟩
    · intro i16 σ' H18 hx17 hP
      obtain ⟨F20, o_y_spot21, o_y_longest22, y_due23, ws_y_due24, rfl, g25, sm26, ow_y_due27, hl_y_due28, hA_y_due29, hm30⟩ := hP
      have he32 := rangeL_at (lo := (0 : Int)) hx17
      rw [drop_at he32, m_l_can_tell_l1.eq_2] at hm30
      refine p_name ?_
      refine p_seq ?_
      refine p_asg ?_
      obtain ⟨t33, hb34, hm30⟩ := bnd hm30
      obtain ⟨v35, ha36, r37⟩ := RL.at (hA_y_places_here.up sm26) hb34
      obtain ⟨p38, ws39, ev40, hS41, hl42, hA43⟩ := R.lst_v r37
      refine ⟨(V.ref p_y_places_here), rfl, (V.int ((0 : Int) + ((i16 : Nat) : Int))), rfl, p_y_places_here, ws_y_places_here, _, v35, rfl, rfl, (g25.seq nm_y_places_here hS_y_places_here), ha36, p38, ev40, ⟨_, (Same.seq g25.fh hS41)⟩, fun D44 nD45 => ?_⟩
      have ne46 := ow_y_due27.ne nD45
      have g47 := g25.own (o := (.lst [])) nD45
      have ow48 := ow_y_due27.own (o := (.lst [])) nD45
      have ow49 : Ow H0 F20 (upd H18 D44 (.lst [])) D44 [] := Ow.new g25 nD45
      refine lc_list (K := K) (a := p38) (xs := ws39) (fun i H' => ∃ (F' : Hp) (acc : List V) (ds : List Int), Gr M0 H0 H0 F' H' ∧ Same F20 F' ∧ Ow H0 F' H' D44 acc ∧ RL K F' acc ds ∧ acc.length ≤ i ∧ Od H0 F' H' p1 (.dK ws_y_due24) ∧ ds ++ m_l_can_tell_c2 y_choice (t33.drop i) = (m_l_can_tell_c2 y_choice t33)) ?_ ?_ ?_ ?_
      · exact ⟨F20, [], [], g47, Same.refl _, ow49, RpA.nil, Nat.le_refl _, ow48, rfl⟩
      · intro i H' _ hP
        obtain ⟨F51, acc52, ds53, g054, sm55, owD56, hA57, hi58, ow059, hr60⟩ := hP
        exact (Same.seq g054.fh (Same.seq sm55 hS41))
      · intro i62 xv61 H64 hx63 hP
        obtain ⟨F65, acc66, ds67, g068, sm69, owD70, hA71, hi72, ow073, hr74⟩ := hP
        obtain ⟨e75, he76, r77⟩ := RL.get (hA43.up sm69) hx63
        obtain rfl := R.int_v r77
        rw [drop_at he76, m_l_can_tell_c2.eq_2] at hr74
        obtain ⟨p78, ws79, ev80, hs84, hl82, hA83⟩ := R.vt_s r_y_choice
        have hS81 : SqT K _ p78 ws79 := .inl (.inl hs84)
        refine ⟨rfl, (V.int e75), rfl, v_y_choice, rfl, _, p78, _, rfl, (by rw [ev80]), (.inr (by rw [← RL.ints (hA83.up (Same.trans sm26 sm69))]; exact (SqT_mono g068.fh (SqT_mono (Same.trans sm26 sm69) hS81)))), _, rfl, (iteB (fun hc => ?_) (fun hc => ?_))⟩
        · have hc : (decide (e75 ∈ (y_choice).l)) = true := hc
          rw [if_pos hc] at hr74
          have hA85 : RL K F65 (acc66 ++ [(V.int e75)]) (ds67 ++ [(e75 : Int)]) := RL.snoc hA71 (Rp.int e75)
          refine ⟨(V.int e75), rfl, acc66, owD70.h, (lt_line hi72 (List.getElem?_eq_some_iff.mp hx63).1 hl42), ?_⟩
          have g86 := g068.put (o := (.lst (acc66 ++ [(V.int e75)]))) owD70
          have ow87 := ow073.other (o := (.lst (acc66 ++ [(V.int e75)]))) ne46
          have ow88 := owD70.put (us := (acc66 ++ [(V.int e75)]))
          exact ⟨F65, (acc66 ++ [(V.int e75)]), (ds67 ++ [e75]), g86, sm69, ow88, hA85, (by rw [List.length_append]; exact Nat.succ_le_succ hi72), ow87, (snoc_rest hr74)⟩
        · have hc : (decide (e75 ∈ (y_choice).l)) = false := hc
          rw [if_neg (ne_true_of_eq_false hc)] at hr74
          exact ⟨F65, acc66, ds67, g068, sm69, owD70, hA71, (Nat.le_succ_of_le hi72), ow073, hr74⟩
      intro H89 hP
      obtain ⟨F90, acc91, ds92, g094, sm95, owD96, hA97, hi98, ow099, hr100⟩ := hP
      rw [drop_end (RL.len hA43)] at hr100
      rw [m_l_can_tell_c2.eq_1, List.append_nil] at hr100
      obtain rfl := hr100
      have hl101 : acc91.length ≤ sizeLine := Nat.le_trans hi98 hl42
      refine ⟨_, rfl, D44, acc91, rfl, owD96.sq, fun p102 np103 => ?_⟩
      have hA104 : RL K F90 (cutV acc91 none (some (1 : Int))) (cutL (m_l_can_tell_c2 y_choice t33) none (some (1 : Int))) := RL.cut none (some (1 : Int)) hA97
      have ne105 := ow099.ne np103
      have ne106 := owD96.ne np103
      have g107 := g094.own (o := (.lst (cutV acc91 none (some (1 : Int))))) np103
      have ow108 := ow099.own (o := (.lst (cutV acc91 none (some (1 : Int))))) np103
      have ow109 := owD96.own (o := (.lst (cutV acc91 none (some (1 : Int))))) np103
      have ow110 : Ow H0 F90 (upd H89 p102 (.lst (cutV acc91 none (some (1 : Int))))) p102 (cutV acc91 none (some (1 : Int))) := Ow.new g094 np103
      obtain ⟨y_longest111, hb112, hm30⟩ := bnd hm30
      have hx113 : (cutL (m_l_can_tell_c2 y_choice t33) none (some (1 : Int))) = y_longest111 := sjoin hb112
      have hA114 : RL K F90 (cutV acc91 none (some (1 : Int))) y_longest111 := RL.re hx113 hA104
      refine p_name ?_
      refine p_nx ?_
      refine p_seq ?_
      refine p_if ?_
      refine ⟨(V.ref p102), rfl, (by show 0 ≤ sizeLine; decide), fun p115 np116 => ?_⟩
      have ne117 := ow108.ne np116
      have ne118 := ow109.ne np116
      have ne119 := ow110.ne np116
      have g120 := g107.own (o := (.lst [])) np116
      have ow121 := ow108.own (o := (.lst [])) np116
      have ow122 := ow109.own (o := (.lst [])) np116
      have ow123 := ow110.own (o := (.lst [])) np116
      have ow124 : Ow H0 F90 (upd (upd H89 p102 (.lst (cutV acc91 none (some (1 : Int))))) p115 (.lst [])) p115 [] := Ow.new g107 np116
      have rH126 : R K (upd (upd H89 p102 (.lst (cutV acc91 none (some (1 : Int))))) p115 (.lst [])) (V.ref p102) y_longest111 := (R.mkl ow123.sq (Nat.le_trans (cutV_length _ _ _) hl101) (RpA.up hA114 g120.fh))
      have rH127 : R K (upd (upd H89 p102 (.lst (cutV acc91 none (some (1 : Int))))) p115 (.lst [])) (V.ref p115) ([] : (List Int)) := (R.mkl ow124.sq (by show 0 ≤ sizeLine; decide) (RpA.up RpA.nil g120.fh))
      refine ⟨_, _, (Rp.dp _ _ rH126), (Rp.dp _ _ rH127), (R.shaped rH126), (R.shaped rH127), _, rfl, ?_⟩
      obtain ⟨c128, hc129, hm30⟩ := bnd hm30
      refine andJT (M := M0) (F := F90) (c := c128) (P := fun _ _ => True) (fun ha => ?_) (fun ha => ⟨(sjoin (ifF ha hc129)).symm, trivial⟩) g120.fh ?_
      · intro Q131 q132
        have hc129 := ifT ha hc129
        obtain ⟨t133, hb134, hc129⟩ := bnd hc129
        obtain ⟨v135, ha136, r137⟩ := RL.at (hA_y_values.up (Same.trans sm26 sm95)) hb134
        obtain rfl := sjoin hc129
        refine ⟨(V.ref p_y_values), rfl, (V.int ((0 : Int) + ((i16 : Nat) : Int))), rfl, p_y_values, ws_y_values, _, v135, rfl, rfl, (g120.seq nm_y_values hS_y_values), ha136, _, rfl, (isN_eq r137), _, rfl, (q132 _ _ (Gr.refl (M := M0) g120.fh) trivial)⟩
      intro F138 H139 g140 hB141
      have g142 := Gr.trans g120 g140
      have ow143 := ow121.gr0 g140
      have ow144 := ow122.gr0 g140
      have ow145 := ow123.gr0 g140
      have ow146 := ow124.gr0 g140
      refine (iteB (fun hc => ?_) (fun hc => ?_))
      · have hm30 := ifT hc hm30
        refine p_ret ?_
        obtain rfl := sjoin hm30
        have hm := bret hm
        obtain rfl := sjoin hm
        exact (hQ _ _ g142)
      · have hm30 := ifF hc hm30
        refine p_next ?_
        refine p_nx ?_
        refine p_if ?_
        refine ⟨(V.ref p102), rfl, (by show 0 ≤ sizeLine; decide), fun p147 np148 => ?_⟩
        have ne149 := ow143.ne np148
        have ne150 := ow144.ne np148
        have ne151 := ow145.ne np148
        have ne152 := ow146.ne np148
        have g153 := g142.own (o := (.lst [])) np148
        have ow154 := ow143.own (o := (.lst [])) np148
        have ow155 := ow144.own (o := (.lst [])) np148
        have ow156 := ow145.own (o := (.lst [])) np148
        have ow157 := ow146.own (o := (.lst [])) np148
        have ow158 : Ow H0 F138 (upd H139 p147 (.lst [])) p147 [] := Ow.new g142 np148
        have rH160 : R K (upd H139 p147 (.lst [])) (V.ref p102) y_longest111 := (R.mkl ow156.sq (Nat.le_trans (cutV_length _ _ _) hl101) (RpA.up (hA114.up g140.ff) g153.fh))
        have rH161 : R K (upd H139 p147 (.lst [])) (V.ref p147) ([] : (List Int)) := (R.mkl ow158.sq (by show 0 ≤ sizeLine; decide) (RpA.up RpA.nil g153.fh))
        refine ⟨_, _, (Rp.dp _ _ rH160), (Rp.dp _ _ rH161), (R.shaped rH160), (R.shaped rH161), _, rfl, (iteB (fun hc => ?_) (fun hc => ?_))⟩
        · have hm30 := ifT hc hm30
          obtain ⟨t162, hb163, hm30⟩ := bnd hm30
          obtain ⟨v164, ha165, r166⟩ := RL.at (hA114.up g140.ff) hb163
          obtain rfl := R.int_v r166
          obtain ⟨t167, hb168, hm30⟩ := bnd hm30
          obtain ⟨v169, ha170, r171⟩ := RL.at (hA_y_values.up (Same.trans sm26 (Same.trans sm95 g140.ff))) hb168
          obtain ⟨y_due172, hb174, hm30⟩ := bnd hm30
          obtain ⟨hl173, rfl⟩ := dsdO_ok hb174
          have hl175 := dsd_le (x := t162) (v := v169) (hA_y_due29.up (Same.trans sm95 g140.ff)) hl_y_due28 hl173
          have r176 : R K F138 _ (((dval y_due23 t162).getD t167) : (Option Int)) := RD.getD (hA_y_due29.up (Same.trans sm95 g140.ff)) t162 r171
          obtain ⟨v177, hv178⟩ : ∃ z_, (valV ws_y_due24 (Sum.inl t162)).getD v169 = z_ := ⟨_, rfl⟩
          rw [show (valV ws_y_due24 (DK.k (t162 : Int))).getD v169 = v177 from hv178] at r176
          refine ⟨(V.ref p1), rfl, p1, rfl, (DK.isD (α := Int) (.inl ow154.h)), (V.ref p102), rfl, p102, (cutV acc91 none (some (1 : Int))), _, (V.int t162), rfl, rfl, ow156.sq, ha165, (V.ref p_y_values), rfl, (V.int ((0 : Int) + ((i16 : Nat) : Int))), rfl, p_y_values, ws_y_values, _, v169, rfl, rfl, (g153.seq nm_y_values hS_y_values), ha170, ws_y_due24, (Sum.inl t162), ow154.h, rfl, (by rw [RD.len (hA_y_due29.up (Same.trans sm95 g140.ff))]; exact hl173), ?_⟩
          rw [hv178]
          have hA179 : RD (α := Int) (β := (Option Int)) K F138 (sdK ws_y_due24 (Sum.inl t162) v169) (dsd y_due23 t162 t167) := RD.sd (hA_y_due29.up (Same.trans sm95 g140.ff)) t162 r171
          have g180 := Gr.mut (o := (.dK (sdK ws_y_due24 (Sum.inl t162) v169))) g153 ow154.nF (.inl ow154.n0)
          have ow181 := ow155.other (o := (.dK (sdK ws_y_due24 (Sum.inl t162) v169))) (Ne.symm ne46)
          have ow182 := ow156.other (o := (.dK (sdK ws_y_due24 (Sum.inl t162) v169))) (Ne.symm ne105)
          have ow183 := ow157.other (o := (.dK (sdK ws_y_due24 (Sum.inl t162) v169))) (Ne.symm ne117)
          have ow184 := ow158.other (o := (.dK (sdK ws_y_due24 (Sum.inl t162) v169))) (Ne.symm ne149)
          have ow185 := ow154.put (o := (.dK (sdK ws_y_due24 (Sum.inl t162) v169))) (fun _ z => nomatch z)
          obtain ⟨t186, hb187, hm30⟩ := bnd hm30
          obtain ⟨v188, ha189, r190⟩ := RL.at (hA_y_values.up (Same.trans sm26 (Same.trans sm95 g140.ff))) hb187
          have rH191 : R K (upd (upd H139 p147 (.lst [])) p1 (.dK (sdK ws_y_due24 (Sum.inl t162) v169))) v177 ((dval y_due23 t162).getD t167) := (Rp.up r176 g180.fh)
          have rH192 : R K (upd (upd H139 p147 (.lst [])) p1 (.dK (sdK ws_y_due24 (Sum.inl t162) v169))) v188 t186 := (Rp.up r190 g180.fh)
          refine ⟨(V.ref p_y_values), rfl, (V.int ((0 : Int) + ((i16 : Nat) : Int))), rfl, p_y_values, ws_y_values, _, v188, rfl, rfl, (g180.seq nm_y_values hS_y_values), ha189, _, _, (Rp.dp _ _ rH191), (Rp.dp _ _ rH192), (R.shaped rH191), (R.shaped rH192), _, rfl, (iteB (fun hc2 => ?_) (fun hc2 => ?_))⟩
          · have hm30 := ifT hc2 hm30
            refine p_ret ?_
            obtain rfl := sjoin hm30
            have hm := bret hm
            obtain rfl := sjoin hm
            exact (hQ _ _ g180)
          · have hm30 := ifF hc2 hm30
            refine p_next ?_
            exact ⟨F138, (some (V.int ((0 : Int) + ((i16 : Nat) : Int)))), (some (V.ref p102)), (dsd y_due23 t162 t167), (sdK ws_y_due24 (Sum.inl t162) v169), rfl, g180, (Same.trans sm26 (Same.trans sm95 g140.ff)), ow185, hl175, hA179, hm30⟩
        · have hm30 := ifF hc hm30
          refine qFalse ?_
          refine p_next ?_
          exact ⟨F138, (some (V.int ((0 : Int) + ((i16 : Nat) : Int)))), (some (V.ref p102)), y_due23, ws_y_due24, rfl, g153, (Same.trans sm26 (Same.trans sm95 g140.ff)), ow154, hl_y_due28, (hA_y_due29.up (Same.trans sm95 g140.ff)), hm30⟩
    intro σ193 H194 hP
    obtain ⟨F195, o_y_spot196, o_y_longest197, y_due198, ws_y_due199, rfl, g200, sm201, ow_y_due202, hl_y_due203, hA_y_due204, hm205⟩ := hP
    rw [drop_end (rangeL_len _ _).symm, m_l_can_tell_l1.eq_1] at hm205
    obtain rfl := sjoin hm205
    have hm := bgo1 hm
    refine p_nx ?_
    refine p_ret ?_
    obtain rfl := sjoin hm
    exact (hQ _ _ g200)
end K33
set_option synthInstance.maxSize 1000
set_option synthInstance.maxHeartbeats 400000
namespace K33
open PySem PySem.Spec PyProof.Rows L2 TL G
theorem ok_l_told {P : Program} {w : World} {K : PySem.W.Frag} {mg : Str → Option Value} {base : Heap} (T : Txt K mg) : FnOk P w K mg base CX0 1 T.a_l_told T.d_l_told ["_law_chart", "_law_wide"] (sp_l_told K) := by
  refine fd_okTC T.F_l_told sc_l_told (fun vs H Q E h => ?_) (by decide) (fun cdv A outer s H0 vs Q E hr h => ?_)
  · obtain ⟨_, _, _, _, _, _, rfl, _⟩ := h
    rfl
  · obtain ⟨F0, p_y_chart, ws_y_chart, y_chart, y_wide, r, rfl, hS0, hS_y_chart, hl_y_chart, hA_y_chart, nm_y_chart, hm, hQ⟩ := h
    refine ⟨_, (psst_cons (PST.of (ps_setLc (i := 2) (own := [("_law_spot", 7)]) rfl sc_l_told.nd rfl rfl (sw_true rfl rfl rfl (by decide +kernel)) (pi_range1 (by rfl) T.n_range (pa_cons (pe_op op_shl pe_int (pv 1)) pa_nil)) (blkOk_by (own := [("_law_spot", 7)]) (N := N_l_told) (sc := defScope s_l_told) (by decide +kernel)) (fun _ _ _ _ _ => (pg_name (i := 7) sc_l_told.nd rfl (Or.inl rfl) (.inr rfl))) (fun _ _ _ _ _ => pts_nil) (fun _ _ _ _ _ => pe_non))) (psst_cons (pst_forT PassesOwn.never rfl (pi_range1 (by rfl) T.n_range (pa_cons (pe_op op_add (pv 1) pe_int) pa_nil)) (pg_name (i := 3) sc_l_told.nd rfl (Or.inl rfl)) (CwR.psst_one (pst_forT PassesOwn.never rfl (pi_listK (K := K) (pv 0)) (pg_tupK (K := K) 2 rfl (pgs_cons (pg_name (i := 4) sc_l_told.nd rfl (Or.inl rfl)) (pgs_cons (pg_name (i := 5) sc_l_told.nd rfl (Or.inl rfl)) pgs_nil))) (psst_cons (pst_set (i := 6) sc_l_told.nd rfl (.inl rfl) (CwR.pet_replC (pv 4))) (PSsT.of (pss_one (ps_if (pt_cmpR op_eq (pe_callB call_len_str (by rfl) T.n_len (by decide +kernel) (pa_cons (pv 6) pa_nil)) (pv 3) (nomark _)) (pss_one (ps_for PassesOwn.never rfl (pi_range1 (by rfl) T.n_range (pa_cons (pe_op op_shl pe_int (pv 1)) pa_nil)) (pg_name (i := 7) sc_l_told.nd rfl (Or.inr rfl)) (pss_cons (ps_set (i := 8) sc_l_told.nd rfl (.inl rfl) (pe_joinK (K := K) pe_str (pe_lc (own := [("_law_k", 9)]) rfl sc_l_told.nd (pi_range1 (by rfl) T.n_range (pa_cons (pv 3) pa_nil)) (blkOk_by (own := [("_law_k", 9)]) (N := N_l_told) (sc := defScope s_l_told) (by decide +kernel)) (fun _ _ _ _ _ => (pg_name (i := 9) sc_l_told.nd rfl (Or.inl rfl) (.inr rfl))) (fun _ _ _ _ _ => pts_nil) (fun _ _ _ _ _ => (pe_callTy call_strB (by rfl) T.n_str (by decide +kernel) (pa_cons (pe_op op_and (pe_op op_shr (pv 7) (pe_op op_sub (pe_op op_sub (pv 1) pe_int) (pv 9))) pe_int) pa_nil)))))) (pss_one (ps_if (pt_cmpR op_eq (pv 8) (pv 6) (nomark _)) (pss_one (ps_asg (pv 5) (pg_sub (pv 2) (pv 7) set_list))) pss_nil))))) pss_nil))))))) (PSsT.of (pss_one (ps_ret (pv 2)))))), ?_⟩
    have g0 : Gr M0 F0 H0 F0 H0 := Gr.refl hS0
    unfold m_l_told at hm
    refine p_seq ?_
    refine p_asg ?_
    obtain ⟨t1, hb2, hm⟩ := bnd hm
    obtain ⟨hk3, rfl⟩ := shlI_ok hb2
    obtain ⟨l4, hb6, hm⟩ := bnd hm
    obtain ⟨hk5, rfl⟩ := rangeO1_ok hb6
    refine ⟨(V.int y_wide), rfl, _, _, rfl, rfl, hk3, _, rfl, hk5.1.1, hk5.1.2, fun D7 nD8 => ?_⟩
    have g9 := g0.own (o := (.lst [])) nD8
    have ow10 : Ow H0 F0 (upd H0 D7 (.lst [])) D7 [] := Ow.new g0 nD8
    refine lc_range (lo := (0 : Int)) (n := (((1 : Int) * 2 ^ (y_wide).toNat)).toNat) (fun i H' => ∃ (F' : Hp) (acc : List V) (ds : List (Option Int)), Gr M0 F0 H0 F' H' ∧ Same F0 F' ∧ Ow H0 F' H' D7 acc ∧ RL K F' acc ds ∧ acc.length ≤ i ∧ ds ++ m_l_told_c1  ((rangeL (0 : Int) (((1 : Int) * 2 ^ (y_wide).toNat)).toNat).drop i) = (m_l_told_c1  (rangeL (0 : Int) (((1 : Int) * 2 ^ (y_wide).toNat)).toNat))) ?_ ?_ ?_
    · exact ⟨F0, [], [], g9, Same.refl _, ow10, RpA.nil, Nat.le_refl _, rfl⟩
    · intro i13 H15 hx14 hP
      obtain ⟨F16, acc17, ds18, g019, sm20, owD21, hA22, hi23, hr24⟩ := hP
      have he26 := rangeL_at (lo := (0 : Int)) hx14
      rw [drop_at he26, m_l_told_c1.eq_2] at hr24
      refine ⟨rfl, (p_yes ?_)⟩
      have hA27 : RL K F16 (acc17 ++ [V.non]) (ds18 ++ [((none : (Option Int)) : (Option Int))]) := RL.snoc hA22 Rp.non
      refine ⟨acc17, owD21.h, (lt_line hi23 hx14 hk5.2), ?_⟩
      have g28 := g019.put (o := (.lst (acc17 ++ [V.non]))) owD21
      have ow29 := owD21.put (us := (acc17 ++ [V.non]))
      exact ⟨F16, (acc17 ++ [V.non]), (ds18 ++ [(none : (Option Int))]), g28, sm20, ow29, hA27, (by rw [List.length_append]; exact Nat.succ_le_succ hi23), (snoc_rest hr24)⟩
    intro H30 hP
    obtain ⟨F31, acc32, ds33, g035, sm36, owD37, hA38, hi39, hr40⟩ := hP
    rw [drop_end (rangeL_len _ _).symm] at hr40
    rw [m_l_told_c1.eq_1, List.append_nil] at hr40
    obtain rfl := hr40
    have hl41 : acc32.length ≤ sizeLine := Nat.le_trans hi39 hk5.2
    obtain ⟨y_found42, hb43, hm⟩ := bnd hm
    have hx44 : (m_l_told_c1  (rangeL (0 : Int) (((1 : Int) * 2 ^ (y_wide).toNat)).toNat)) = y_found42 := sjoin hb43
    have hA45 : RL K F31 acc32 y_found42 := RL.re hx44 hA38
    refine p_name ?_
    refine p_nx ?_
    refine p_seq ?_
    refine p_for ?_
    obtain ⟨l46, hb48, hm⟩ := bnd hm
    obtain ⟨hk47, rfl⟩ := rangeO1_ok hb48
    refine ⟨(V.int y_wide), rfl, _, _, rfl, rfl, _, rfl, hk47.1.1, hk47.1.2, ?_⟩
    obtain ⟨y_found49, ht50, hm⟩ := bnd hm
    refine for_range (lo := (0 : Int)) (n := ((y_wide + (1 : Int))).toNat) (fun i σ' H' => ∃ (F' : Hp) (o_y_size : Option V) (o_y_pattern : Option V) (o_y_value : Option V) (o_y_bits : Option V) (o_y_spot : Option V) (o_y_text : Option V) (y_found : (List (Option Int))) (ws_y_found : List V), σ' = [(some (V.ref p_y_chart)), (some (V.int y_wide)), (some (V.ref D7)), o_y_size, o_y_pattern, o_y_value, o_y_bits, o_y_spot, o_y_text, none] ∧ Gr M0 F0 H0 F' H' ∧ Same F31 F' ∧ Ow H0 F' H' D7 ws_y_found ∧ ws_y_found.length ≤ sizeLine ∧ RL K F' ws_y_found y_found ∧ m_l_told_l2 y_chart y_wide ((rangeL (0 : Int) ((y_wide + (1 : Int))).toNat).drop i) y_found = some y_found49) ?_ ?_ ?_
    · exact ⟨F31, none, none, none, none, none, none, y_found42, acc32, rfl, g035, (Same.refl _), owD37, hl41, hA45, ht50⟩
    · intro i51 σ' H53 hx52 hP
      obtain ⟨F55, o_y_size56, o_y_pattern57, o_y_value58, o_y_bits59, o_y_spot60, o_y_text61, y_found62, ws_y_found63, rfl, g64, sm65, ow_y_found66, hl_y_found67, hA_y_found68, hm69⟩ := hP
      have he71 := rangeL_at (lo := (0 : Int)) hx52
      rw [drop_at he71, m_l_told_l2.eq_2] at hm69
      refine p_name ?_
      refine p_for ?_
      refine ⟨(V.ref p_y_chart), rfl, p_y_chart, rfl, ⟨_, (g64.seq nm_y_chart hS_y_chart)⟩, ?_⟩
      obtain ⟨y_found72, ht73, hm69⟩ := bnd hm69
      refine for_list (K := K) (a := p_y_chart) (xs := ws_y_chart) (fun i σ' H' => ∃ (F' : Hp) (o_y_value : Option V) (o_y_pattern : Option V) (o_y_bits : Option V) (o_y_spot : Option V) (o_y_text : Option V) (y_found : (List (Option Int))) (ws_y_found : List V), σ' = [(some (V.ref p_y_chart)), (some (V.int y_wide)), (some (V.ref D7)), (some (V.int ((0 : Int) + ((i51 : Nat) : Int)))), o_y_pattern, o_y_value, o_y_bits, o_y_spot, o_y_text, none] ∧ Gr M0 F0 H0 F' H' ∧ Same F55 F' ∧ Ow H0 F' H' D7 ws_y_found ∧ ws_y_found.length ≤ sizeLine ∧ RL K F' ws_y_found y_found ∧ m_l_told_l3 y_wide ((0 : Int) + ((i51 : Nat) : Int)) (y_chart.drop i) y_found = some y_found72) ?_ ?_ ?_ ?_
      · exact ⟨F55, o_y_value58, o_y_pattern57, o_y_bits59, o_y_spot60, o_y_text61, y_found62, ws_y_found63, rfl, g64, (Same.refl _), ow_y_found66, hl_y_found67, hA_y_found68, ht73⟩
      · intro i σ' H' _ hP
        obtain ⟨F', o_y_value, o_y_pattern, o_y_bits, o_y_spot, o_y_text, y_found, ws_y_found, rfl, g_, sm_, ow_y_found, hl_y_found, hA_y_found, hm_⟩ := hP
        exact (g_.seq nm_y_chart hS_y_chart)
      · intro i74 xv77 σ' H76 hx75 hP
        obtain ⟨F78, o_y_value79, o_y_pattern80, o_y_bits81, o_y_spot82, o_y_text83, y_found84, ws_y_found85, rfl, g86, sm87, ow_y_found88, hl_y_found89, hA_y_found90, hm91⟩ := hP
        obtain ⟨e92, he93, r94⟩ := RL.get (hA_y_chart.up (Same.trans sm36 (Same.trans sm65 sm87))) hx75
        rw [drop_at he93, m_l_told_l3.eq_2] at hm91
        obtain ⟨p95, v98, v99, ev96, hS97, r100, r101⟩ := R.p2_v r94
        obtain ⟨rfl, gs102⟩ := R.str_v r100
        refine ⟨p95, [(V.str e92.1), v99], ev96, (SqT_mono g86.fh hS97), rfl, (V.str e92.1), [v99], rfl, v99, [], rfl, rfl, ?_⟩
        refine p_seq ?_
        refine p_asg ?_
        refine ⟨(V.str e92.1), rfl, _, rfl, (GS.strike_len (gs102 : GS e92.1) 42), ?_⟩
        obtain ⟨y_bits103, hb104, hm91⟩ := bnd hm91
        have hx105 : (strike e92.1 42) = y_bits103 := sjoin hb104
        have gs106 : GS y_bits103 := hx105 ▸ ((GS.strike (gs102 : GS e92.1) 42) : GS (strike e92.1 42))
        refine p_nm (v' := (V.str y_bits103)) (congrArg V.str hx105) ?_
        refine p_nx ?_
        refine p_if ?_
        refine ⟨(V.str y_bits103), rfl, _, rfl, (gs106 : GS y_bits103).len, (V.int ((0 : Int) + ((i51 : Nat) : Int))), rfl, rfl, _, rfl, (iteB (fun hc => ?_) (fun hc => ?_))⟩
        · have hm91 := ifT hc hm91
          refine p_for ?_
          obtain ⟨t107, hb108, hm91⟩ := bnd hm91
          obtain ⟨hk109, rfl⟩ := shlI_ok hb108
          obtain ⟨l110, hb112, hm91⟩ := bnd hm91
          obtain ⟨hk111, rfl⟩ := rangeO1_ok hb112
          refine ⟨(V.int y_wide), rfl, _, _, rfl, rfl, hk109, _, rfl, hk111.1.1, hk111.1.2, ?_⟩
          obtain ⟨y_found113, ht114, hm91⟩ := bnd hm91
          refine for_range (lo := (0 : Int)) (n := (((1 : Int) * 2 ^ (y_wide).toNat)).toNat) (fun i σ' H' => ∃ (F' : Hp) (o_y_spot : Option V) (o_y_text : Option V) (y_found : (List (Option Int))) (ws_y_found : List V), σ' = [(some (V.ref p_y_chart)), (some (V.int y_wide)), (some (V.ref D7)), (some (V.int ((0 : Int) + ((i51 : Nat) : Int)))), (some (V.str e92.1)), (some v99), (some (V.str y_bits103)), o_y_spot, o_y_text, none] ∧ Gr M0 F0 H0 F' H' ∧ Same F78 F' ∧ Ow H0 F' H' D7 ws_y_found ∧ ws_y_found.length ≤ sizeLine ∧ RL K F' ws_y_found y_found ∧ m_l_told_l4 y_wide ((0 : Int) + ((i51 : Nat) : Int)) e92.2 y_bits103 ((rangeL (0 : Int) (((1 : Int) * 2 ^ (y_wide).toNat)).toNat).drop i) y_found = some y_found113) ?_ ?_ ?_
          · exact ⟨F78, o_y_spot82, o_y_text83, y_found84, ws_y_found85, rfl, g86, (Same.refl _), ow_y_found88, hl_y_found89, hA_y_found90, ht114⟩
          · intro i115 σ' H117 hx116 hP
            obtain ⟨F119, o_y_spot120, o_y_text121, y_found122, ws_y_found123, rfl, g124, sm125, ow_y_found126, hl_y_found127, hA_y_found128, hm129⟩ := hP
            have he131 := rangeL_at (lo := (0 : Int)) hx116
            rw [drop_at he131, m_l_told_l4.eq_2] at hm129
            refine p_name ?_
            refine p_seq ?_
            refine p_asg ?_
            obtain ⟨l132, hb134, hm129⟩ := bnd hm129
            obtain ⟨hk133, rfl⟩ := rangeO1_ok hb134
            refine ⟨⟨_, rfl⟩, (V.int ((0 : Int) + ((i51 : Nat) : Int))), rfl, _, rfl, hk133.1.1, hk133.1.2, fun D135 nD136 => ?_⟩
            have ne137 := ow_y_found126.ne nD136
            have g138 := g124.own (o := (.lst [])) nD136
            have ow139 := ow_y_found126.own (o := (.lst [])) nD136
            have ow140 : Ow H0 F119 (upd H117 D135 (.lst [])) D135 [] := Ow.new g124 nD136
            obtain ⟨l141, hb142, hm129⟩ := bnd hm129
            refine lc_range (lo := (0 : Int)) (n := (((0 : Int) + ((i51 : Nat) : Int))).toNat) (fun i H' => ∃ (F' : Hp) (acc : List V) (ds : List Str) (rest : List Str), Gr M0 F0 H0 F' H' ∧ Same F119 F' ∧ Ow H0 F' H' D135 acc ∧ RL K F' acc ds ∧ acc.length ≤ i ∧ Ow H0 F' H' D7 ws_y_found123 ∧ m_l_told_c5 y_wide ((0 : Int) + ((i115 : Nat) : Int)) ((rangeL (0 : Int) (((0 : Int) + ((i51 : Nat) : Int))).toNat).drop i) = some rest ∧ ds ++ rest = l141) ?_ ?_ ?_
            · exact ⟨F119, [], [], l141, g138, Same.refl _, ow140, RpA.nil, Nat.le_refl _, ow139, hb142, rfl⟩
            · intro i144 H146 hx145 hP
              obtain ⟨F147, acc148, ds149, rest150, g0151, sm152, owD153, hA154, hi155, ow0156, hm157, hr158⟩ := hP
              have he160 := rangeL_at (lo := (0 : Int)) hx145
              rw [drop_at he160, m_l_told_c5.eq_2] at hm157
              refine ⟨rfl, (p_yes ?_)⟩
              obtain ⟨t161, hb162, hm157⟩ := bnd hm157
              obtain ⟨hk163, rfl⟩ := shrI_ok hb162
              obtain ⟨t164, hb165, hm157⟩ := bnd hm157
              have hA166 : RL K F147 (acc148 ++ [(V.str t164)]) (ds149 ++ [(t164 : Str)]) := RL.snoc hA154 (Rp.str t164 (strO_gs hb165))
              obtain ⟨rest167, h168, h169⟩ := bnd hm157
              obtain rfl := sjoin h169
              refine ⟨(V.int ((0 : Int) + ((i115 : Nat) : Int))), rfl, (V.int y_wide), rfl, _, _, rfl, rfl, (V.int ((0 : Int) + ((i144 : Nat) : Int))), rfl, _, _, rfl, rfl, _, _, rfl, rfl, hk163, _, _, rfl, rfl, (Builtin.bitAnd (((0 : Int) + ((i115 : Nat) : Int)) / 2 ^ (((y_wide - (1 : Int)) - ((0 : Int) + ((i144 : Nat) : Int)))).toNat) (1 : Int)), t164, rfl, hb165, acc148, owD153.h, (lt_line hi155 hx145 hk133.2), ?_⟩
              have g170 := g0151.put (o := (.lst (acc148 ++ [(V.str t164)]))) owD153
              have ow171 := ow0156.other (o := (.lst (acc148 ++ [(V.str t164)]))) ne137
              have ow172 := owD153.put (us := (acc148 ++ [(V.str t164)]))
              exact ⟨F147, (acc148 ++ [(V.str t164)]), (ds149 ++ [t164]), rest167, g170, sm152, ow172, hA166, (by rw [List.length_append]; exact Nat.succ_le_succ hi155), ow171, h168, (snoc_rest hr158)⟩
            intro H173 hP
            obtain ⟨F174, acc175, ds176, _rest, g0178, sm179, owD180, hA181, hi182, ow0183, hm184, hr185⟩ := hP
            rw [drop_end (rangeL_len _ _).symm] at hm184
            rw [m_l_told_c5.eq_1] at hm184
            obtain rfl := sjoin hm184
            rw [List.append_nil] at hr185
            obtain rfl := hr185
            have hl186 : acc175.length ≤ sizeLine := Nat.le_trans hi182 hk133.2
            obtain ⟨t187, hb188, hm129⟩ := bnd hm129
            obtain ⟨hk189, rfl⟩ := joinS_ok hb188
            refine ⟨_, D135, ds176, rfl, rfl, (.inl (by rw [← (RL.strs hA181).1]; exact owD180.sq)), hk189, ?_⟩
            obtain ⟨y_text190, hx191⟩ : ∃ z_, (Txt.join ("" : Str) ds176) = z_ := ⟨_, rfl⟩
            try rw [hx191] at hm129
            have gs192 : GS y_text190 := hx191 ▸ ((GS.join ⟨by decide +kernel, by decide +kernel⟩ (RL.strs hA181).2 hb188) : GS (Txt.join ("" : Str) ds176))
            refine p_nm (v' := (V.str y_text190)) (congrArg V.str hx191) ?_
            refine p_nx ?_
            refine p_if ?_
            refine ⟨(V.str y_text190), rfl, (V.str y_bits103), rfl, rfl, _, rfl, (iteB (fun hc => ?_) (fun hc => ?_))⟩
            · have hm129 := ifT hc hm129
              refine p_asg ?_
              obtain ⟨t193, hb194, hm129⟩ := bnd hm129
              obtain ⟨j195, hj196, rfl⟩ := setL_ok hb194
              refine ⟨v99, rfl, (V.ref D7), rfl, (V.int ((0 : Int) + ((i115 : Nat) : Int))), rfl, D7, _, _, j195, rfl, rfl, ow0183.h, (by rw [RL.len (hA_y_found128.up sm179)]; exact hj196), ?_⟩
              have hA198 := RL.set (x := (e92.2 : (Option Int))) j195 (r101.up (Same.trans sm125 sm179)) (hA_y_found128.up sm179)
              have g199 := g0178.put (o := (.lst (ws_y_found123.set j195 v99))) ow0183
              have ow200 := owD180.other (o := (.lst (ws_y_found123.set j195 v99))) (Ne.symm ne137)
              have ow201 := ow0183.put (us := (ws_y_found123.set j195 v99))
              exact ⟨F174, (some (V.int ((0 : Int) + ((i115 : Nat) : Int)))), (some (V.str y_text190)), (y_found122.set j195 e92.2), (ws_y_found123.set j195 v99), rfl, g199, (Same.trans sm125 sm179), ow201, (by rw [List.length_set]; exact hl_y_found127), hA198, hm129⟩
            · have hm129 := ifF hc hm129
              refine p_next ?_
              exact ⟨F174, (some (V.int ((0 : Int) + ((i115 : Nat) : Int)))), (some (V.str y_text190)), y_found122, ws_y_found123, rfl, g0178, (Same.trans sm125 sm179), ow0183, hl_y_found127, (hA_y_found128.up sm179), hm129⟩
          intro σ202 H203 hP
          obtain ⟨F204, o_y_spot205, o_y_text206, y_found207, ws_y_found208, rfl, g209, sm210, ow_y_found211, hl_y_found212, hA_y_found213, hm214⟩ := hP
          rw [drop_end (rangeL_len _ _).symm, m_l_told_l4.eq_1] at hm214
          obtain rfl := sjoin hm214
          exact ⟨F204, (some v99), (some (V.str e92.1)), (some (V.str y_bits103)), o_y_spot205, o_y_text206, y_found207, ws_y_found208, rfl, g209, (Same.trans sm87 sm210), ow_y_found211, hl_y_found212, hA_y_found213, hm91⟩
        · have hm91 := ifF hc hm91
          refine p_next ?_
          exact ⟨F78, (some v99), (some (V.str e92.1)), (some (V.str y_bits103)), o_y_spot82, o_y_text83, y_found84, ws_y_found85, rfl, g86, sm87, ow_y_found88, hl_y_found89, hA_y_found90, hm91⟩
      intro σ215 H216 hP
      obtain ⟨F217, o_y_value218, o_y_pattern219, o_y_bits220, o_y_spot221, o_y_text222, y_found223, ws_y_found224, rfl, g225, sm226, ow_y_found227, hl_y_found228, hA_y_found229, hm230⟩ := hP
      rw [drop_end (RL.len (hA_y_chart.up (Same.trans sm36 (Same.trans sm65 sm226)))), m_l_told_l3.eq_1] at hm230
      obtain rfl := sjoin hm230
      exact ⟨F217, (some (V.int ((0 : Int) + ((i51 : Nat) : Int)))), o_y_pattern219, o_y_value218, o_y_bits220, o_y_spot221, o_y_text222, y_found223, ws_y_found224, rfl, g225, (Same.trans sm65 sm226), ow_y_found227, hl_y_found228, hA_y_found229, hm69⟩
    intro σ231 H232 hP
    obtain ⟨F233, o_y_size234, o_y_pattern235, o_y_value236, o_y_bits237, o_y_spot238, o_y_text239, y_found240, ws_y_found241, rfl, g242, sm243, ow_y_found244, hl_y_found245, hA_y_found246, hm247⟩ := hP
    rw [drop_end (rangeL_len _ _).symm, m_l_told_l2.eq_1] at hm247
    obtain rfl := sjoin hm247
    refine p_nx ?_
    refine p_ret ?_
    obtain rfl := sjoin hm
    refine ⟨(V.ref D7), rfl, (hQ _ _ _ _ g242 ow_y_found244.n0 ow_y_found244.h ow_y_found244.nF hl_y_found245 hA_y_found246)⟩
end K33
set_option synthInstance.maxSize 1000
set_option synthInstance.maxHeartbeats 400000
namespace K33
open PySem PySem.Spec PyProof.Rows L2 TL G
theorem ok_l_right {P : Program} {w : World} {K : PySem.W.Frag} {mg : Str → Option Value} {base : Heap} (T : Txt K mg) : FnOk P w K mg base CX0 43 T.a_l_right T.d_l_right ["_law_wide", "_law_values"] (sp_l_right K) := by
  have G_table_of : FnOk P w K mg base CX0 42 T.a_table_of T.d_table_of ["parts", "width"] (sp_table_of K) := ok_table_of T
  have b_table_of := T.F_table_of.bindsN (ps := ["parts", "width"]) fun _ _ _ _ _ _ us hl => match us, hl with | [_, _], _ => rfl
  have G_l_told : FnOk P w K mg base CX0 1 T.a_l_told T.d_l_told ["_law_chart", "_law_wide"] (sp_l_told K) := ok_l_told T
  have b_l_told := T.F_l_told.bindsN (ps := ["_law_chart", "_law_wide"]) fun _ _ _ _ _ _ us hl => match us, hl with | [_, _], _ => rfl
  have G_l_places : FnOk P w K mg base CX0 2 T.a_l_places T.d_l_places ["_law_wide"] (sp_l_places K) := ok_l_places T
  have b_l_places := T.F_l_places.bindsN (ps := ["_law_wide"]) fun _ _ _ _ _ _ us hl => match us, hl with | [_], _ => rfl
  have G_l_choices : FnOk P w K mg base CX0 1 T.a_l_choices T.d_l_choices ["_law_many", "_law_size"] (sp_l_choices K) := ok_l_choices T
  have b_l_choices := T.F_l_choices.bindsN (ps := ["_law_many", "_law_size"]) fun _ _ _ _ _ _ us hl => match us, hl with | [_, _], _ => rfl
  have G_l_beginnings : FnOk P w K mg base CX0 1 T.a_l_beginnings T.d_l_beginnings ["_law_wide"] (sp_l_beginnings K) := ok_l_beginnings T
  have b_l_beginnings := T.F_l_beginnings.bindsN (ps := ["_law_wide"]) fun _ _ _ _ _ _ us hl => match us, hl with | [_], _ => rfl
  have G_l_can_tell : FnOk P w K mg base CX0 1 T.a_l_can_tell T.d_l_can_tell ["_law_choice", "_law_places_here", "_law_values"] (sp_l_can_tell K) := ok_l_can_tell T
  have b_l_can_tell := T.F_l_can_tell.bindsN (ps := ["_law_choice", "_law_places_here", "_law_values"]) fun _ _ _ _ _ _ us hl => match us, hl with | [_, _, _], _ => rfl
  refine fd_ok T.F_l_right sc_l_right (fun vs H Q E h => ?_) (fun cdv A outer s H0 vs Q E hr h => ?_)
  · obtain ⟨_, _, _, _, _, rfl, _⟩ := h
    rfl
  · obtain ⟨y_wide, p_y_values, ws_y_values, y_values, r, rfl, hS_y_values, hl_y_values, hA_y_values, nm_y_values, hm, hQ⟩ := h
    refine ⟨_, (pss_cons (ps_set (i := 2) sc_l_right.nd rfl (.inl rfl) (pe_call G_table_of (hr.mono (by decide)) (by rfl) T.g_table_of T.F_table_of.kp b_table_of .nil pass0 (pa_cons (pe_lc (own := [("_law_k", 5)]) rfl sc_l_right.nd (pi_range1 (by rfl) T.n_range (pa_cons (pe_callB (call_lenLK (K := K)) (by rfl) T.n_len (by decide +kernel) (pa_cons (pv 1) pa_nil)) pa_nil)) (blkOk_by (own := [("_law_k", 5)]) (N := N_l_right) (sc := defScope s_l_right) (by decide +kernel)) (fun _ _ _ _ _ => (pg_name (i := 5) sc_l_right.nd rfl (Or.inl rfl) (.inr rfl))) (fun _ _ _ _ _ => pts_nil) (fun _ _ _ _ _ => (pe_tup (pa_cons (pv 5) (pa_cons (pe_op op_add (pv 5) pe_int) (pa_cons (pe_ix (ix_listK (K := K)) (pv 1) (pv 5) (fun _ _ => rfl)) pa_nil)))))) (pa_cons (pv 0) pa_nil)))) (pss_cons (ps_if (pt_cmpR (op_neDK (K := K) hr.units) (pe_call G_l_told (hr.mono (by decide)) (by rfl) T.g_l_told T.F_l_told.kp b_l_told .nil pass0 (pa_cons (pv 2) (pa_cons (pv 0) pa_nil))) (pv 1) (nomark _)) (pss_one (ps_ret pe_bl)) pss_nil) (pss_cons (ps_set (i := 3) sc_l_right.nd rfl (.inl rfl) (pe_call G_l_places (hr.mono (by decide)) (by rfl) T.g_l_places T.F_l_places.kp b_l_places .nil pass0 (pa_cons (pv 0) pa_nil))) (pss_cons (ps_if (pt_cmpR op_eq (pe_callB (call_lenLK (K := K)) (by rfl) T.n_len (by decide +kernel) (pa_cons (pv 2) pa_nil)) pe_int (nomark _)) (pss_one (ps_ret pe_bl)) pss_nil) (pss_cons (ps_for PassesOwn.never rfl (pi_listK (K := K) (pe_call G_l_choices (hr.mono (by decide)) (by rfl) T.g_l_choices T.F_l_choices.kp b_l_choices .nil pass0 (pa_cons (pe_callB (call_lenLK (K := K)) (by rfl) T.n_len (by decide +kernel) (pa_cons (pe_call G_l_beginnings (hr.mono (by decide)) (by rfl) T.g_l_beginnings T.F_l_beginnings.kp b_l_beginnings .nil pass0 (pa_cons (pv 0) pa_nil)) pa_nil)) (pa_cons (pe_op op_sub (pe_callB (call_lenLK (K := K)) (by rfl) T.n_len (by decide +kernel) (pa_cons (pv 2) pa_nil)) pe_int) pa_nil)))) (pg_name (i := 4) sc_l_right.nd rfl (Or.inl rfl)) (pss_one (ps_if (pt_val (pe_call G_l_can_tell (hr.mono (by decide)) (by rfl) T.g_l_can_tell T.F_l_can_tell.kp b_l_can_tell .nil pass0 (pa_cons (pv 4) (pa_cons (pv 3) (pa_cons (pv 1) pa_nil))))) (pss_one (ps_ret pe_bl)) pss_nil))) (pss_one (ps_ret pe_bl))))))), ?_⟩
    have g0 : Gr M0 H0 H0 H0 H0 := Gr.refl (Same.refl _)
    unfold m_l_right at hm
    refine p_seq ?_
    refine p_asg ?_
    obtain ⟨l1, hb3, hm⟩ := bnd hm
    obtain ⟨hk2, rfl⟩ := rangeO1_ok hb3
    refine ⟨(V.ref p_y_values), rfl, p_y_values, ws_y_values, _, rfl, (.inl (g0.seq nm_y_values hS_y_values)), (RL.len hA_y_values), _, rfl, hk2.1.1, hk2.1.2, fun D4 nD5 => ?_⟩
    have g6 := g0.own (o := (.lst [])) nD5
    have ow7 : Ow H0 H0 (upd H0 D4 (.lst [])) D4 [] := Ow.new g0 nD5
    obtain ⟨l8, hb9, hm⟩ := bnd hm
    refine lc_range (lo := (0 : Int)) (n := ((((y_values).length : Nat) : Int)).toNat) (fun i H' => ∃ (F' : Hp) (acc : List V) (ds : List (T3 Int Int (Option Int))) (rest : List (T3 Int Int (Option Int))), Gr M0 H0 H0 F' H' ∧ Same H0 F' ∧ Ow H0 F' H' D4 acc ∧ RL K F' acc ds ∧ acc.length ≤ i ∧ m_l_right_c1 y_values ((rangeL (0 : Int) ((((y_values).length : Nat) : Int)).toNat).drop i) = some rest ∧ ds ++ rest = l8) ?_ ?_ ?_
    · exact ⟨H0, [], [], l8, g6, Same.refl _, ow7, RpA.nil, Nat.le_refl _, hb9, rfl⟩
    · intro i11 H13 hx12 hP
      obtain ⟨F14, acc15, ds16, rest17, g018, sm19, owD20, hA21, hi22, hm23, hr24⟩ := hP
      have he26 := rangeL_at (lo := (0 : Int)) hx12
      rw [drop_at he26, m_l_right_c1.eq_2] at hm23
      refine ⟨rfl, (p_yes ?_)⟩
      obtain ⟨t27, hb28, hm23⟩ := bnd hm23
      obtain ⟨v29, ha30, r31⟩ := RL.at (hA_y_values.up sm19) hb28
      refine ⟨(V.int ((0 : Int) + ((i11 : Nat) : Int))), rfl, (V.int ((0 : Int) + ((i11 : Nat) : Int))), rfl, _, _, rfl, rfl, (V.ref p_y_values), rfl, (V.int ((0 : Int) + ((i11 : Nat) : Int))), rfl, p_y_values, ws_y_values, _, v29, rfl, rfl, (g018.seq nm_y_values hS_y_values), ha30, (by show 3 ≤ sizeLine; decide), fun p32 np33 => ?_⟩
      have ne34 := owD20.ne np33
      have sm35 := same_new (o := (.tup [(V.int ((0 : Int) + ((i11 : Nat) : Int))), (V.int (((0 : Int) + ((i11 : Nat) : Int)) + (1 : Int))), v29])) (g018.noneF np33)
      have g36 := g018.frz (o := (.tup [(V.int ((0 : Int) + ((i11 : Nat) : Int))), (V.int (((0 : Int) + ((i11 : Nat) : Int)) + (1 : Int))), v29])) np33
      have ow37 := owD20.frz (o := (.tup [(V.int ((0 : Int) + ((i11 : Nat) : Int))), (V.int (((0 : Int) + ((i11 : Nat) : Int)) + (1 : Int))), v29])) np33
      have r38 : R K (upd F14 p32 (.tup [(V.int ((0 : Int) + ((i11 : Nat) : Int))), (V.int (((0 : Int) + ((i11 : Nat) : Int)) + (1 : Int))), v29])) (.ref p32) ((T3.mk ((0 : Int) + ((i11 : Nat) : Int)) (((0 : Int) + ((i11 : Nat) : Int)) + (1 : Int)) t27) : (T3 Int Int (Option Int))) := R.mk3 fzT (Rp.int ((0 : Int) + ((i11 : Nat) : Int))) (Rp.int (((0 : Int) + ((i11 : Nat) : Int)) + (1 : Int))) (r31.up sm35)
      have hA39 : RL K (upd F14 p32 (.tup [(V.int ((0 : Int) + ((i11 : Nat) : Int))), (V.int (((0 : Int) + ((i11 : Nat) : Int)) + (1 : Int))), v29])) (acc15 ++ [(V.ref p32)]) (ds16 ++ [((T3.mk ((0 : Int) + ((i11 : Nat) : Int)) (((0 : Int) + ((i11 : Nat) : Int)) + (1 : Int)) t27) : (T3 Int Int (Option Int)))]) := RL.snoc (hA21.up sm35) r38
      obtain ⟨rest40, h41, h42⟩ := bnd hm23
      obtain rfl := sjoin h42
      refine ⟨acc15, ow37.h, (lt_line hi22 hx12 hk2.2), ?_⟩
      have g43 := g36.put (o := (.lst (acc15 ++ [(V.ref p32)]))) ow37
      have ow44 := ow37.put (us := (acc15 ++ [(V.ref p32)]))
      exact ⟨(upd F14 p32 (.tup [(V.int ((0 : Int) + ((i11 : Nat) : Int))), (V.int (((0 : Int) + ((i11 : Nat) : Int)) + (1 : Int))), v29])), (acc15 ++ [(V.ref p32)]), (ds16 ++ [(T3.mk ((0 : Int) + ((i11 : Nat) : Int)) (((0 : Int) + ((i11 : Nat) : Int)) + (1 : Int)) t27)]), rest40, g43, (Same.trans sm19 sm35), ow44, hA39, (by rw [List.length_append]; exact Nat.succ_le_succ hi22), h41, (snoc_rest hr24)⟩
    intro H45 hP
    obtain ⟨F46, acc47, ds48, _rest, g050, sm51, owD52, hA53, hi54, hm55, hr56⟩ := hP
    rw [drop_end (rangeL_len _ _).symm] at hm55
    rw [m_l_right_c1.eq_1] at hm55
    obtain rfl := sjoin hm55
    rw [List.append_nil] at hr56
    obtain rfl := hr56
    have hl57 : acc47.length ≤ sizeLine := Nat.le_trans hi54 hk2.2
    obtain ⟨r58, hb59, hm⟩ := bnd hm
    refine ⟨(V.int y_wide), rfl, F46, D4, acc47, ds48, y_wide, r58, rfl, g050.fh, owD52.sq, hl57, hA53, id, hb59, fun p63 ws64 F60 H61 g62 np65 h66 nF67 hl68 hA69 => ?_⟩
    have ne70 := owD52.ne np65
    have n071 := g050.none0 np65
    have g72 := Gr.trans g050 g62
    have ow73 := owD52.gr0 g62
    have ow74 : Ow H0 F60 H61 p63 ws64 := ⟨h66, nF67, n071⟩
    refine p_name ?_
    refine p_nx ?_
    refine p_seq ?_
    refine p_if ?_
    obtain ⟨r75, hb76, hm⟩ := bnd hm
    refine ⟨(V.ref p63), rfl, (V.int y_wide), rfl, F60, p63, ws64, r58, y_wide, r75, rfl, g72.fh, ow74.sq, hl68, hA69, id, hb76, fun p80 ws81 F77 H78 g79 np82 h83 nF84 hl85 hA86 => ?_⟩
    have ne87 := ow73.ne np82
    have ne88 := ow74.ne np82
    have n089 := g72.none0 np82
    have g90 := Gr.trans g72 g79
    have ow91 := ow73.gr0 g79
    have ow92 := ow74.gr0 g79
    have ow93 : Ow H0 F77 H78 p80 ws81 := ⟨h83, nF84, n089⟩
    have rH94 : R K H78 (V.ref p80) r75 := (R.mkl ow93.sq hl85 (RpA.up hA86 g90.fh))
    have rH95 : R K H78 (V.ref p_y_values) y_values := (R.mkl (g90.seq nm_y_values hS_y_values) hl_y_values (RpA.up (hA_y_values.up (Same.trans sm51 (Same.trans g62.ff g79.ff))) g90.fh))
    refine ⟨(V.ref p_y_values), rfl, _, _, (Rp.dp _ _ rH94), (Rp.dp _ _ rH95), (R.shaped rH94), (R.shaped rH95), _, rfl, (iteB (fun hc => ?_) (fun hc => ?_))⟩
    · have hm := ifT hc hm
      refine p_ret ?_
      obtain rfl := sjoin hm
      exact (hQ _ _ g90)
    · have hm := ifF hc hm
      refine p_next ?_
      refine p_nx ?_
      refine p_seq ?_
      refine p_asg ?_
      obtain ⟨r96, hb97, hm⟩ := bnd hm
      refine ⟨(V.int y_wide), rfl, F77, y_wide, r96, rfl, g90.fh, hb97, fun p101 ws102 F98 H99 g100 np103 h104 nF105 hl106 hA107 => ?_⟩
      have ne108 := ow91.ne np103
      have ne109 := ow92.ne np103
      have ne110 := ow93.ne np103
      have n0111 := g90.none0 np103
      have g112 := Gr.trans g90 g100
      have ow113 := ow91.gr0 g100
      have ow114 := ow92.gr0 g100
      have ow115 := ow93.gr0 g100
      have ow116 : Ow H0 F98 H99 p101 ws102 := ⟨h104, nF105, n0111⟩
      refine p_name ?_
      refine p_nx ?_
      refine p_seq ?_
      refine p_if ?_
      refine ⟨(V.ref p63), rfl, p63, ws64, _, rfl, (.inl ow114.sq), (RL.len (hA69.up (Same.trans g79.ff g100.ff))), rfl, _, rfl, (iteB (fun hc => ?_) (fun hc => ?_))⟩
      · have hm := ifT hc hm
        refine p_ret ?_
        obtain rfl := sjoin hm
        exact (hQ _ _ g112)
      · have hm := ifF hc hm
        refine p_next ?_
        refine p_nx ?_
        refine p_seq ?_
        refine p_for ?_
        obtain ⟨r117, hb118, hm⟩ := bnd hm
        refine ⟨(V.int y_wide), rfl, F98, y_wide, r117, rfl, g112.fh, hb118, fun p122 ws123 F119 H120 g121 np124 h125 nF126 hl127 hA128 => ?_⟩
        have ne129 := ow113.ne np124
        have ne130 := ow114.ne np124
        have ne131 := ow115.ne np124
        have ne132 := ow116.ne np124
        have n0133 := g112.none0 np124
        have g134 := Gr.trans g112 g121
        have ow135 := ow113.gr0 g121
        have ow136 := ow114.gr0 g121
        have ow137 := ow115.gr0 g121
        have ow138 := ow116.gr0 g121
        have ow139 : Ow H0 F119 H120 p122 ws123 := ⟨h125, nF126, n0133⟩
        obtain ⟨r140, hb141, hm⟩ := bnd hm
        refine ⟨p122, ws123, _, rfl, (.inl ow139.sq), (RL.len hA128), (V.ref p63), rfl, p63, ws64, _, rfl, (.inl ow136.sq), (RL.len (hA69.up (Same.trans g79.ff (Same.trans g100.ff g121.ff)))), _, _, rfl, rfl, F119, (((r117).length : Nat) : Int), ((((r58).length : Nat) : Int) - (1 : Int)), r140, rfl, g134.fh, hb141, fun v145 F142 H143 g144 r146 => ?_⟩
        have g147 := Gr.trans g134 g144
        have ow148 := ow135.gr0 g144
        have ow149 := ow136.gr0 g144
        have ow150 := ow137.gr0 g144
        have ow151 := ow138.gr0 g144
        have ow152 := ow139.gr0 g144
        obtain ⟨p153, ws154, ev155, hS156, hl157, hA158⟩ := R.lst_v r146
        refine ⟨p153, ev155, ⟨_, (Same.seq g147.fh hS156)⟩, ?_⟩
        obtain ⟨l159, ht160, hm⟩ := bndL0 hm
        refine for_list (K := K) (a := p153) (xs := ws154) (fun i σ' H' => ∃ (F' : Hp) (o_y_choice : Option V), σ' = [(some (V.int y_wide)), (some (V.ref p_y_values)), (some (V.ref p63)), (some (V.ref p101)), o_y_choice, none] ∧ Gr M0 H0 H0 F' H' ∧ Same F142 F' ∧ Ow H0 F' H' p101 ws102 ∧ m_l_right_l2 y_values r96 (r140.drop i)  = some l159) ?_ ?_ ?_ ?_
        · exact ⟨F142, none, rfl, g147, (Same.refl _), ow151, ht160⟩
        · intro i σ' H' _ hP
          obtain ⟨F', o_y_choice, rfl, g_, sm_, owk0_, hm_⟩ := hP
          exact (Same.seq g_.fh (Same.seq sm_ hS156))
        · intro i161 xv164 σ' H163 hx162 hP
          obtain ⟨F165, o_y_choice166, rfl, g167, sm168, owk0169, hm170⟩ := hP
          obtain ⟨e171, he172, r173⟩ := RL.get (hA158.up sm168) hx162
          rw [drop_at he172, m_l_right_l2.eq_2] at hm170
          refine p_name ?_
          refine p_if ?_
          obtain ⟨r174, hb175, hm170⟩ := bnd hm170
          refine ⟨xv164, rfl, (V.ref p101), rfl, (V.ref p_y_values), rfl, xv164, e171, p101, ws102, r96, p_y_values, ws_y_values, y_values, r174, rfl, (Rp.up r173 g167.fh), owk0169.sq, hl106, (RpA.up (hA107.up (Same.trans g121.ff (Same.trans g144.ff sm168))) g167.fh), id, (g167.seq nm_y_values hS_y_values), hl_y_values, (RpA.up (hA_y_values.up (Same.trans sm51 (Same.trans g62.ff (Same.trans g79.ff (Same.trans g100.ff (Same.trans g121.ff (Same.trans g144.ff sm168))))))) g167.fh), id, hb175, fun F176 H177 g178 => ?_⟩
          have g180 := Gr.apart g167 g178
          have ow181 := owk0169.apart g178
          refine ⟨_, rfl, (iteB (fun hc => ?_) (fun hc => ?_))⟩
          · have hm170 := ifT hc hm170
            refine p_ret ?_
            obtain rfl := sjoin hm170
            have hm := bret hm
            obtain rfl := sjoin hm
            exact (hQ _ _ g180)
          · have hm170 := ifF hc hm170
            refine p_next ?_
            exact ⟨F165, (some xv164), rfl, g180, sm168, ow181, hm170⟩
        intro σ182 H183 hP
        obtain ⟨F184, o_y_choice185, rfl, g186, sm187, owk0188, hm189⟩ := hP
        rw [drop_end (RL.len (hA158.up sm187)), m_l_right_l2.eq_1] at hm189
        obtain rfl := sjoin hm189
        have hm := bgo0 hm
        refine p_nx ?_
        refine p_ret ?_
        obtain rfl := sjoin hm
        exact (hQ _ _ g186)
end K33
set_option synthInstance.maxSize 1000
set_option synthInstance.maxHeartbeats 400000
namespace K33
open PySem PySem.Spec PyProof.Rows L2 TL G
theorem ok_law {P : Program} {w : World} {K : PySem.W.Frag} {mg : Str → Option Value} {base : Heap} (T : Txt K mg) (hlaw : ∀ b : Bag, BOk b → ∀ n_ : Nat, n_ ≤ 63 → ∃ b', m_law b n_ = some (true, b')) : FnOk P w K mg base CX0 44 T.a_law T.d_law ["_law_script"] (sp_law K) := by
  have G_l_bag : FnOk P w K mg base CX0 1 T.a_l_bag T.d_l_bag ["_law_script"] (sp_l_bag K) := ok_l_bag T
  have b_l_bag := T.F_l_bag.bindsN (ps := ["_law_script"]) fun _ _ _ _ _ _ us hl => match us, hl with | [_], _ => rfl
  have G_l_draw : FnOk P w K mg base CX0 2 T.a_l_draw T.d_l_draw ["_law_bag_here", "_law_many"] (sp_l_draw K) := ok_l_draw T
  have b_l_draw := T.F_l_draw.bindsN (ps := ["_law_bag_here", "_law_many"]) fun _ _ _ _ _ _ us hl => match us, hl with | [_, _], _ => rfl
  have G_l_right : FnOk P w K mg base CX0 43 T.a_l_right T.d_l_right ["_law_wide", "_law_values"] (sp_l_right K) := ok_l_right T
  have b_l_right := T.F_l_right.bindsN (ps := ["_law_wide", "_law_values"]) fun _ _ _ _ _ _ us hl => match us, hl with | [_, _], _ => rfl
  refine fd_ok T.F_law sc_law (fun vs H Q E h => ?_) (fun cdv A outer s H0 vs Q E hr h => ?_)
  · obtain ⟨_, _, rfl, _⟩ := h
    rfl
  · obtain ⟨a_, ns_, rfl, hS_, hl_, hQ_⟩ := h
    refine ⟨_, (pss_cons (ps_set (i := 1) sc_law.nd rfl (.inr rfl) (pe_call G_l_bag (hr.mono (by decide)) (by rfl) T.g_l_bag T.F_l_bag.kp b_l_bag .nil pass0 (pa_cons (pv 0) pa_nil))) (pss_cons (ps_for PassesOwn.never rfl (pi_range1 (by rfl) T.n_range (pa_cons (pe_op op_add pe_int (pe_callB (call_min2 rfl) (by rfl) T.n_min (by decide +kernel) (pa_cons pe_int (pa_cons (pe_callB (call_lenLK (K := K)) (by rfl) T.n_len (by decide +kernel) (pa_cons (pv 0) pa_nil)) pa_nil)))) pa_nil)) (pg_name (i := 2) sc_law.nd rfl (Or.inl rfl)) (pss_cons (ps_set (i := 3) sc_law.nd rfl (.inl rfl) (pe_ix (ix_listK (K := K)) (pe_lst (pa_cons pe_int (pa_cons pe_int (pa_cons pe_int (pa_cons pe_int pa_nil))))) (pe_call G_l_draw (hr.mono (by decide)) (by rfl) T.g_l_draw T.F_l_draw.kp b_l_draw .nil pass0 (pa_cons (pv 1) (pa_cons pe_int pa_nil))) (fun _ _ => rfl))) (pss_cons (ps_setLc (i := 4) (own := [("_law_k", 6)]) rfl sc_law.nd rfl rfl (sw_true rfl rfl rfl (by decide +kernel)) (pi_range1 (by rfl) T.n_range (pa_cons (pe_op op_shl pe_int (pv 3)) pa_nil)) (blkOk_by (own := [("_law_k", 6)]) (N := N_law) (sc := defScope s_law) (by decide +kernel)) (fun _ _ _ _ _ => (pg_name (i := 6) sc_law.nd rfl (Or.inl rfl) (.inr rfl))) (fun _ _ _ _ _ => pts_nil) (fun _ _ _ _ _ => (pe_ix (ix_listK (K := K)) (pe_lst (pa_cons pe_non (pa_cons pe_int (pa_cons pe_int (pa_cons (pe_un un_neg pe_int) (pa_cons pe_int pa_nil)))))) (pe_call G_l_draw (hr.mono (by decide)) (by rfl) T.g_l_draw T.F_l_draw.kp b_l_draw .nil pass0 (pa_cons (pv 1) (pa_cons pe_int pa_nil))) (fun _ _ => rfl)))) (pss_one (ps_if (pt_not (pt_val (pe_call G_l_right (hr.mono (by decide)) (by rfl) T.g_l_right T.F_l_right.kp b_l_right .nil pass0 (pa_cons (pv 3) (pa_cons (pv 4) pa_nil))))) (pss_one (ps_ret pe_bl)) pss_nil))))) (pss_cons (ps_set (i := 5) sc_law.nd rfl (.inr rfl) (pe_ix (ix_listK (K := K)) (pe_lst (pa_cons (pe_lst (pa_cons pe_non (pa_cons pe_int (pa_cons pe_int pa_nil)))) (pa_cons (pe_lst (pa_cons pe_int (pa_cons pe_int (pa_cons pe_int pa_nil)))) (pa_cons (pe_lst (pa_cons pe_non (pa_cons pe_int pa_nil))) (pa_cons (pe_lst (pa_cons pe_int (pa_cons pe_int pa_nil))) (pa_cons (pe_lst (pa_cons pe_int (pa_cons pe_int (pa_cons pe_non pa_nil)))) pa_nil)))))) (pe_call G_l_draw (hr.mono (by decide)) (by rfl) T.g_l_draw T.F_l_draw.kp b_l_draw .nil pass0 (pa_cons (pv 1) (pa_cons pe_int pa_nil))) (fun _ _ => rfl))) (pss_one (ps_ret (pe_call G_l_right (hr.mono (by decide)) (by rfl) T.g_l_right T.F_l_right.kp b_l_right .nil pass0 (pa_cons pe_int (pa_cons (pe_lc (own := [("_law_k", 6)]) rfl sc_law.nd (pi_range1 (by rfl) T.n_range (pa_cons pe_int pa_nil)) (blkOk_by (own := [("_law_k", 6)]) (N := N_law) (sc := defScope s_law) (by decide +kernel)) (fun _ _ _ _ _ => (pg_name (i := 6) sc_law.nd rfl (Or.inl rfl) (.inr rfl))) (fun _ _ _ _ _ => pts_nil) (fun _ _ _ _ _ => (pe_ix (ix_listK (K := K)) (pv 5) (pe_call G_l_draw (hr.mono (by decide)) (by rfl) T.g_l_draw T.F_l_draw.kp b_l_draw .nil pass0 (pa_cons (pv 1) (pa_cons (pe_callB (call_lenLK (K := K)) (by rfl) T.n_len (by decide +kernel) (pa_cons (pv 5) pa_nil)) pa_nil))) (fun _ _ => rfl)))) pa_nil)))))))), ?_⟩
    refine p_seq ?_
    refine p_asg ?_
    refine ⟨_, rfl, a_, ns_, rfl, hS_, hl_, fun B C b F0 H0 hS0 hB hb_ hScr_ hNm_ => ?_⟩
    refine p_name ?_
    refine p_nx ?_
    obtain ⟨b_, hm⟩ := hlaw b hb_ ns_.length hl_
    have hQ : ∀ F' H', Gr (Bc B C) F0 H0 F' H' → BagAt F' H' B C b_ → Q (.bl true) H' := fun _ H' _ _ => hQ_ H'
    have g0 : Gr (Bc B C) F0 H0 F0 H0 := Gr.refl hS0
    unfold m_law at hm
    refine p_seq ?_
    refine p_for ?_
    obtain ⟨l1, hb3, hm⟩ := bnd hm
    obtain ⟨hk2, rfl⟩ := rangeO1_ok hb3
    refine ⟨(V.ref a_), rfl, a_, (ns_.map V.int), _, rfl, (.inl (scr_stays hS_ hNm_ hScr_ g0)), (by rw [List.length_map]), _, _, rfl, _, _, rfl, rfl, _, rfl, hk2.1.1, hk2.1.2, ?_⟩
    obtain ⟨l5, ht6, hm⟩ := bndL1 hm
    refine for_range (lo := (0 : Int)) (n := (((3 : Int) + (if ((ns_.length : Nat) : Int) < (6 : Int) then ((ns_.length : Nat) : Int) else (6 : Int)))).toNat) (fun i σ' H' => ∃ (F' : Hp) (o_y_turn : Option V) (o_y_wide : Option V) (o_y_values : Option V) (b : Bag), σ' = [(some (V.ref a_)), (some (V.ref B)), o_y_turn, o_y_wide, o_y_values, none, none] ∧ Gr (Bc B C) F0 H0 F' H' ∧ Same F0 F' ∧ BagAt F' H' B C b ∧ m_law_l1  ((rangeL (0 : Int) (((3 : Int) + (if ((ns_.length : Nat) : Int) < (6 : Int) then ((ns_.length : Nat) : Int) else (6 : Int)))).toNat).drop i) b = some l5) ?_ ?_ ?_
    · exact ⟨F0, none, none, none, b, rfl, g0, (Same.refl _), hB, ht6⟩
    · intro i7 σ' H9 hx8 hP
      obtain ⟨F11, o_y_turn12, o_y_wide13, o_y_values14, b15, rfl, g16, sm17, hB18, hm19⟩ := hP
      have he21 := rangeL_at (lo := (0 : Int)) hx8
      rw [drop_at he21, m_law_l1.eq_2] at hm19
      refine p_name ?_
      refine p_seq ?_
      refine p_asg ?_
      refine ⟨(by show 4 ≤ sizeLine; decide), fun p22 np23 => ?_⟩
      have nb24 := hB18.nb np23
      have g25 := g16.own (o := (.lst [(V.int (1 : Int)), (V.int (2 : Int)), (V.int (2 : Int)), (V.int (2 : Int))])) np23
      have hB26 := hB18.own (o := (.lst [(V.int (1 : Int)), (V.int (2 : Int)), (V.int (2 : Int)), (V.int (2 : Int))])) np23
      have ow27 : Ow H0 F11 (upd H9 p22 (.lst [(V.int (1 : Int)), (V.int (2 : Int)), (V.int (2 : Int)), (V.int (2 : Int))])) p22 [(V.int (1 : Int)), (V.int (2 : Int)), (V.int (2 : Int)), (V.int (2 : Int))] := Ow.new g16 np23
      have hA28 : RL K F11 [(V.int (1 : Int)), (V.int (2 : Int)), (V.int (2 : Int)), (V.int (2 : Int))] ([(1 : Int), (2 : Int), (2 : Int), (2 : Int)] : List Int) := (RpA.cons (Rp.int (1 : Int)) (RpA.cons (Rp.int (2 : Int)) (RpA.cons (Rp.int (2 : Int)) (RpA.cons (Rp.int (2 : Int)) RpA.nil))))
      obtain ⟨r29, b30, hb31, hm19⟩ := bnd2 hm19
      refine ⟨(V.ref B), rfl, F11, B, C, b15, (4 : Int), r29, b30, rfl, g25.fh, hB26, hb31, fun F32 H33 g34 hB35 => ?_⟩
      have g37 := Gr.trans g25 g34
      have ow38 := ow27.gr g34 nb24
      obtain ⟨t39, hb40, hm19⟩ := bnd hm19
      obtain ⟨v41, ha42, r43⟩ := RL.at (hA28.up g34.ff) hb40
      obtain rfl := R.int_v r43
      refine ⟨p22, [(V.int (1 : Int)), (V.int (2 : Int)), (V.int (2 : Int)), (V.int (2 : Int))], _, (V.int t39), rfl, rfl, ow38.sq, ha42, ?_⟩
      refine p_name ?_
      refine p_nx ?_
      refine p_seq ?_
      refine p_asg ?_
      obtain ⟨t44, hb45, hm19⟩ := bnd hm19
      obtain ⟨hk46, rfl⟩ := shlI_ok hb45
      obtain ⟨l47, hb49, hm19⟩ := bnd hm19
      obtain ⟨hk48, rfl⟩ := rangeO1_ok hb49
      refine ⟨(V.int t39), rfl, _, _, rfl, rfl, hk46, _, rfl, hk48.1.1, hk48.1.2, fun D50 nD51 => ?_⟩
      have ne52 := ow38.ne nD51
      have nb53 := hB35.nb nD51
      have g54 := g37.own (o := (.lst [])) nD51
      have ow55 := ow38.own (o := (.lst [])) nD51
      have hB56 := hB35.own (o := (.lst [])) nD51
      have ow57 : Ow H0 F32 (upd H33 D50 (.lst [])) D50 [] := Ow.new g37 nD51
      obtain ⟨l58, b59, hb60, hm19⟩ := bnd2 hm19
      refine lc_range (lo := (0 : Int)) (n := (((1 : Int) * 2 ^ (t39).toNat)).toNat) (fun i H' => ∃ (F' : Hp) (acc : List V) (ds : List (Option Int)) (rest : List (Option Int)) (b : Bag), Gr (Bc B C) F0 H0 F' H' ∧ Same F32 F' ∧ Ow H0 F' H' D50 acc ∧ RL K F' acc ds ∧ acc.length ≤ i ∧ Ow H0 F' H' p22 [(V.int (1 : Int)), (V.int (2 : Int)), (V.int (2 : Int)), (V.int (2 : Int))] ∧ BagAt F' H' B C b ∧ m_law_c2  ((rangeL (0 : Int) (((1 : Int) * 2 ^ (t39).toNat)).toNat).drop i) b = some (rest, b59) ∧ ds ++ rest = l58) ?_ ?_ ?_
      · exact ⟨F32, [], [], l58, b30, g54, Same.refl _, ow57, RpA.nil, Nat.le_refl _, ow55, hB56, hb60, rfl⟩
      · intro i62 H64 hx63 hP
        obtain ⟨F65, acc66, ds67, rest68, b69, g070, sm71, owD72, hA73, hi74, ow075, hB76, hm77, hr78⟩ := hP
        have he80 := rangeL_at (lo := (0 : Int)) hx63
        rw [drop_at he80, m_law_c2.eq_2] at hm77
        refine ⟨rfl, (p_yes ?_)⟩
        refine ⟨_, rfl, (by show 5 ≤ sizeLine; decide), fun p81 np82 => ?_⟩
        have ne83 := ow075.ne np82
        have ne84 := owD72.ne np82
        have nb85 := hB76.nb np82
        have g86 := g070.own (o := (.lst [V.non, (V.int (0 : Int)), (V.int (5 : Int)), (V.int (-(1 : Int))), (V.int (7 : Int))])) np82
        have ow87 := ow075.own (o := (.lst [V.non, (V.int (0 : Int)), (V.int (5 : Int)), (V.int (-(1 : Int))), (V.int (7 : Int))])) np82
        have ow88 := owD72.own (o := (.lst [V.non, (V.int (0 : Int)), (V.int (5 : Int)), (V.int (-(1 : Int))), (V.int (7 : Int))])) np82
        have hB89 := hB76.own (o := (.lst [V.non, (V.int (0 : Int)), (V.int (5 : Int)), (V.int (-(1 : Int))), (V.int (7 : Int))])) np82
        have ow90 : Ow H0 F65 (upd H64 p81 (.lst [V.non, (V.int (0 : Int)), (V.int (5 : Int)), (V.int (-(1 : Int))), (V.int (7 : Int))])) p81 [V.non, (V.int (0 : Int)), (V.int (5 : Int)), (V.int (-(1 : Int))), (V.int (7 : Int))] := Ow.new g070 np82
        have hA91 : RL K F65 [V.non, (V.int (0 : Int)), (V.int (5 : Int)), (V.int (-(1 : Int))), (V.int (7 : Int))] ([(none : (Option Int)), (some (0 : Int)), (some (5 : Int)), (some (-(1 : Int))), (some (7 : Int))] : List (Option Int)) := (RpA.cons Rp.non (RpA.cons (Rp.int (0 : Int)) (RpA.cons (Rp.int (5 : Int)) (RpA.cons (Rp.int (-(1 : Int))) (RpA.cons (Rp.int (7 : Int)) RpA.nil)))))
        obtain ⟨r92, b93, hb94, hm77⟩ := bnd2 hm77
        refine ⟨(V.ref B), rfl, F65, B, C, b69, (5 : Int), r92, b93, rfl, g86.fh, hB89, hb94, fun F95 H96 g97 hB98 => ?_⟩
        have g100 := Gr.trans g86 g97
        have ow101 := ow87.gr g97 nb24
        have ow102 := ow88.gr g97 nb53
        have ow103 := ow90.gr g97 nb85
        obtain ⟨t104, hb105, hm77⟩ := bnd hm77
        obtain ⟨v106, ha107, r108⟩ := RL.at (hA91.up g97.ff) hb105
        have hA109 : RL K F95 (acc66 ++ [v106]) (ds67 ++ [(t104 : (Option Int))]) := RL.snoc (hA73.up g97.ff) r108
        obtain ⟨rest110, b111, h112, h113⟩ := bnd2 hm77
        obtain ⟨rfl, rfl⟩ := pjoin h113
        refine ⟨p81, [V.non, (V.int (0 : Int)), (V.int (5 : Int)), (V.int (-(1 : Int))), (V.int (7 : Int))], _, v106, rfl, rfl, ow103.sq, ha107, acc66, ow102.h, (lt_line hi74 hx63 hk48.2), ?_⟩
        have g114 := g100.put (o := (.lst (acc66 ++ [v106]))) ow102
        have ow115 := ow101.other (o := (.lst (acc66 ++ [v106]))) ne52
        have ow116 := ow103.other (o := (.lst (acc66 ++ [v106]))) (Ne.symm ne84)
        have hB117 := hB98.other (o := (.lst (acc66 ++ [v106]))) nb53
        have ow118 := ow102.put (us := (acc66 ++ [v106]))
        exact ⟨F95, (acc66 ++ [v106]), (ds67 ++ [t104]), rest110, b93, g114, (Same.trans sm71 g97.ff), ow118, hA109, (by rw [List.length_append]; exact Nat.succ_le_succ hi74), ow115, hB117, h112, (snoc_rest hr78)⟩
      intro H119 hP
      obtain ⟨F120, acc121, ds122, _rest, b123, g0124, sm125, owD126, hA127, hi128, ow0129, hB130, hm131, hr132⟩ := hP
      rw [drop_end (rangeL_len _ _).symm] at hm131
      rw [m_law_c2.eq_1] at hm131
      obtain ⟨rfl, rfl⟩ := pjoin hm131
      rw [List.append_nil] at hr132
      obtain rfl := hr132
      have hl133 : acc121.length ≤ sizeLine := Nat.le_trans hi128 hk48.2
      refine p_name ?_
      refine p_nx ?_
      refine p_if ?_
      obtain ⟨r134, hb135, hm19⟩ := bnd hm19
      refine ⟨(V.int t39), rfl, (V.ref D50), rfl, t39, D50, acc121, ds122, r134, rfl, owD126.sq, hl133, (RpA.up hA127 g0124.fh), id, hb135, fun F136 H137 g138 => ?_⟩
      have g140 := Gr.apart g0124 g138
      have ow141 := ow0129.apart g138
      have ow142 := owD126.apart g138
      have hB143 := hB130.apart g138
      refine ⟨_, rfl, (iteB (fun hc => ?_) (fun hc => ?_))⟩
      · have hm19 := ifT hc hm19
        refine p_ret ?_
        obtain rfl := sjoin hm19
        have hm := bret hm
        obtain ⟨he144, rfl⟩ := pjoin hm
        exact absurd he144 (by decide)
      · have hm19 := ifF hc hm19
        refine p_next ?_
        exact ⟨F120, (some (V.int ((0 : Int) + ((i7 : Nat) : Int)))), (some (V.int t39)), (some (V.ref D50)), b123, rfl, g140, (Same.trans sm17 (Same.trans g34.ff sm125)), hB143, hm19⟩
    intro σ145 H146 hP
    obtain ⟨F147, o_y_turn148, o_y_wide149, o_y_values150, b151, rfl, g152, sm153, hB154, hm155⟩ := hP
    rw [drop_end (rangeL_len _ _).symm, m_law_l1.eq_1] at hm155
    obtain rfl := sjoin hm155
    have hm := bgo1 hm
    refine p_nx ?_
    refine p_seq ?_
    refine p_asg ?_
    refine ⟨(by show 3 ≤ sizeLine; decide), fun p156 np157 => ?_⟩
    have nb158 := hB154.nb np157
    have g159 := g152.own (o := (.lst [V.non, (V.int (0 : Int)), (V.int (5 : Int))])) np157
    have hB160 := hB154.own (o := (.lst [V.non, (V.int (0 : Int)), (V.int (5 : Int))])) np157
    have ow161 : Ow H0 F147 (upd H146 p156 (.lst [V.non, (V.int (0 : Int)), (V.int (5 : Int))])) p156 [V.non, (V.int (0 : Int)), (V.int (5 : Int))] := Ow.new g152 np157
    have hA162 : RL K F147 [V.non, (V.int (0 : Int)), (V.int (5 : Int))] ([(none : (Option Int)), (some (0 : Int)), (some (5 : Int))] : List (Option Int)) := (RpA.cons Rp.non (RpA.cons (Rp.int (0 : Int)) (RpA.cons (Rp.int (5 : Int)) RpA.nil)))
    refine ⟨(by show 3 ≤ sizeLine; decide), fun p163 np164 => ?_⟩
    have ne165 := ow161.ne np164
    have nb166 := hB160.nb np164
    have g167 := g159.own (o := (.lst [(V.int (3 : Int)), (V.int (0 : Int)), (V.int (5 : Int))])) np164
    have ow168 := ow161.own (o := (.lst [(V.int (3 : Int)), (V.int (0 : Int)), (V.int (5 : Int))])) np164
    have hB169 := hB160.own (o := (.lst [(V.int (3 : Int)), (V.int (0 : Int)), (V.int (5 : Int))])) np164
    have ow170 : Ow H0 F147 (upd (upd H146 p156 (.lst [V.non, (V.int (0 : Int)), (V.int (5 : Int))])) p163 (.lst [(V.int (3 : Int)), (V.int (0 : Int)), (V.int (5 : Int))])) p163 [(V.int (3 : Int)), (V.int (0 : Int)), (V.int (5 : Int))] := Ow.new g159 np164
    have hA171 : RL K F147 [(V.int (3 : Int)), (V.int (0 : Int)), (V.int (5 : Int))] ([(some (3 : Int)), (some (0 : Int)), (some (5 : Int))] : List (Option Int)) := (RpA.cons (Rp.int (3 : Int)) (RpA.cons (Rp.int (0 : Int)) (RpA.cons (Rp.int (5 : Int)) RpA.nil)))
    refine ⟨(by show 2 ≤ sizeLine; decide), fun p172 np173 => ?_⟩
    have ne174 := ow168.ne np173
    have ne175 := ow170.ne np173
    have nb176 := hB169.nb np173
    have g177 := g167.own (o := (.lst [V.non, (V.int (1 : Int))])) np173
    have ow178 := ow168.own (o := (.lst [V.non, (V.int (1 : Int))])) np173
    have ow179 := ow170.own (o := (.lst [V.non, (V.int (1 : Int))])) np173
    have hB180 := hB169.own (o := (.lst [V.non, (V.int (1 : Int))])) np173
    have ow181 : Ow H0 F147 (upd (upd (upd H146 p156 (.lst [V.non, (V.int (0 : Int)), (V.int (5 : Int))])) p163 (.lst [(V.int (3 : Int)), (V.int (0 : Int)), (V.int (5 : Int))])) p172 (.lst [V.non, (V.int (1 : Int))])) p172 [V.non, (V.int (1 : Int))] := Ow.new g167 np173
    have hA182 : RL K F147 [V.non, (V.int (1 : Int))] ([(none : (Option Int)), (some (1 : Int))] : List (Option Int)) := (RpA.cons Rp.non (RpA.cons (Rp.int (1 : Int)) RpA.nil))
    refine ⟨(by show 2 ≤ sizeLine; decide), fun p183 np184 => ?_⟩
    have ne185 := ow178.ne np184
    have ne186 := ow179.ne np184
    have ne187 := ow181.ne np184
    have nb188 := hB180.nb np184
    have g189 := g177.own (o := (.lst [(V.int (2 : Int)), (V.int (1 : Int))])) np184
    have ow190 := ow178.own (o := (.lst [(V.int (2 : Int)), (V.int (1 : Int))])) np184
    have ow191 := ow179.own (o := (.lst [(V.int (2 : Int)), (V.int (1 : Int))])) np184
    have ow192 := ow181.own (o := (.lst [(V.int (2 : Int)), (V.int (1 : Int))])) np184
    have hB193 := hB180.own (o := (.lst [(V.int (2 : Int)), (V.int (1 : Int))])) np184
    have ow194 : Ow H0 F147 (upd (upd (upd (upd H146 p156 (.lst [V.non, (V.int (0 : Int)), (V.int (5 : Int))])) p163 (.lst [(V.int (3 : Int)), (V.int (0 : Int)), (V.int (5 : Int))])) p172 (.lst [V.non, (V.int (1 : Int))])) p183 (.lst [(V.int (2 : Int)), (V.int (1 : Int))])) p183 [(V.int (2 : Int)), (V.int (1 : Int))] := Ow.new g177 np184
    have hA195 : RL K F147 [(V.int (2 : Int)), (V.int (1 : Int))] ([(some (2 : Int)), (some (1 : Int))] : List (Option Int)) := (RpA.cons (Rp.int (2 : Int)) (RpA.cons (Rp.int (1 : Int)) RpA.nil))
    refine ⟨(by show 3 ≤ sizeLine; decide), fun p196 np197 => ?_⟩
    have ne198 := ow190.ne np197
    have ne199 := ow191.ne np197
    have ne200 := ow192.ne np197
    have ne201 := ow194.ne np197
    have nb202 := hB193.nb np197
    have g203 := g189.own (o := (.lst [(V.int (1 : Int)), (V.int (2 : Int)), V.non])) np197
    have ow204 := ow190.own (o := (.lst [(V.int (1 : Int)), (V.int (2 : Int)), V.non])) np197
    have ow205 := ow191.own (o := (.lst [(V.int (1 : Int)), (V.int (2 : Int)), V.non])) np197
    have ow206 := ow192.own (o := (.lst [(V.int (1 : Int)), (V.int (2 : Int)), V.non])) np197
    have ow207 := ow194.own (o := (.lst [(V.int (1 : Int)), (V.int (2 : Int)), V.non])) np197
    have hB208 := hB193.own (o := (.lst [(V.int (1 : Int)), (V.int (2 : Int)), V.non])) np197
    have ow209 : Ow H0 F147 (upd (upd (upd (upd (upd H146 p156 (.lst [V.non, (V.int (0 : Int)), (V.int (5 : Int))])) p163 (.lst [(V.int (3 : Int)), (V.int (0 : Int)), (V.int (5 : Int))])) p172 (.lst [V.non, (V.int (1 : Int))])) p183 (.lst [(V.int (2 : Int)), (V.int (1 : Int))])) p196 (.lst [(V.int (1 : Int)), (V.int (2 : Int)), V.non])) p196 [(V.int (1 : Int)), (V.int (2 : Int)), V.non] := Ow.new g189 np197
    have hA210 : RL K F147 [(V.int (1 : Int)), (V.int (2 : Int)), V.non] ([(some (1 : Int)), (some (2 : Int)), (none : (Option Int))] : List (Option Int)) := (RpA.cons (Rp.int (1 : Int)) (RpA.cons (Rp.int (2 : Int)) (RpA.cons Rp.non RpA.nil)))
    have sm211 := ow204.sf
    have g212 := g203.fz ow204
    have ow213 : Ow H0 (upd F147 p156 (.lst [V.non, (V.int (0 : Int)), (V.int (5 : Int))])) (upd (upd (upd (upd (upd H146 p156 (.lst [V.non, (V.int (0 : Int)), (V.int (5 : Int))])) p163 (.lst [(V.int (3 : Int)), (V.int (0 : Int)), (V.int (5 : Int))])) p172 (.lst [V.non, (V.int (1 : Int))])) p183 (.lst [(V.int (2 : Int)), (V.int (1 : Int))])) p196 (.lst [(V.int (1 : Int)), (V.int (2 : Int)), V.non])) p163 [(V.int (3 : Int)), (V.int (0 : Int)), (V.int (5 : Int))] := ow205.fz (Ne.symm ne165)
    have ow214 : Ow H0 (upd F147 p156 (.lst [V.non, (V.int (0 : Int)), (V.int (5 : Int))])) (upd (upd (upd (upd (upd H146 p156 (.lst [V.non, (V.int (0 : Int)), (V.int (5 : Int))])) p163 (.lst [(V.int (3 : Int)), (V.int (0 : Int)), (V.int (5 : Int))])) p172 (.lst [V.non, (V.int (1 : Int))])) p183 (.lst [(V.int (2 : Int)), (V.int (1 : Int))])) p196 (.lst [(V.int (1 : Int)), (V.int (2 : Int)), V.non])) p172 [V.non, (V.int (1 : Int))] := ow206.fz (Ne.symm ne174)
    have ow215 : Ow H0 (upd F147 p156 (.lst [V.non, (V.int (0 : Int)), (V.int (5 : Int))])) (upd (upd (upd (upd (upd H146 p156 (.lst [V.non, (V.int (0 : Int)), (V.int (5 : Int))])) p163 (.lst [(V.int (3 : Int)), (V.int (0 : Int)), (V.int (5 : Int))])) p172 (.lst [V.non, (V.int (1 : Int))])) p183 (.lst [(V.int (2 : Int)), (V.int (1 : Int))])) p196 (.lst [(V.int (1 : Int)), (V.int (2 : Int)), V.non])) p183 [(V.int (2 : Int)), (V.int (1 : Int))] := ow207.fz (Ne.symm ne185)
    have ow216 : Ow H0 (upd F147 p156 (.lst [V.non, (V.int (0 : Int)), (V.int (5 : Int))])) (upd (upd (upd (upd (upd H146 p156 (.lst [V.non, (V.int (0 : Int)), (V.int (5 : Int))])) p163 (.lst [(V.int (3 : Int)), (V.int (0 : Int)), (V.int (5 : Int))])) p172 (.lst [V.non, (V.int (1 : Int))])) p183 (.lst [(V.int (2 : Int)), (V.int (1 : Int))])) p196 (.lst [(V.int (1 : Int)), (V.int (2 : Int)), V.non])) p196 [(V.int (1 : Int)), (V.int (2 : Int)), V.non] := ow209.fz (Ne.symm ne198)
    have hB217 : BagAt (upd F147 p156 (.lst [V.non, (V.int (0 : Int)), (V.int (5 : Int))])) (upd (upd (upd (upd (upd H146 p156 (.lst [V.non, (V.int (0 : Int)), (V.int (5 : Int))])) p163 (.lst [(V.int (3 : Int)), (V.int (0 : Int)), (V.int (5 : Int))])) p172 (.lst [V.non, (V.int (1 : Int))])) p183 (.lst [(V.int (2 : Int)), (V.int (1 : Int))])) p196 (.lst [(V.int (1 : Int)), (V.int (2 : Int)), V.non])) B C b151 := hB208.fz nb158
    have r218 : R K (upd F147 p156 (.lst [V.non, (V.int (0 : Int)), (V.int (5 : Int))])) (.ref p156) ([(none : (Option Int)), (some (0 : Int)), (some (5 : Int))] : List (Option Int)) := R.mkl fzS (by show 3 ≤ sizeLine; decide) (RpA.up hA162 sm211)
    have sm219 := ow213.sf
    have g220 := g212.fz ow213
    have ow221 : Ow H0 (upd (upd F147 p156 (.lst [V.non, (V.int (0 : Int)), (V.int (5 : Int))])) p163 (.lst [(V.int (3 : Int)), (V.int (0 : Int)), (V.int (5 : Int))])) (upd (upd (upd (upd (upd H146 p156 (.lst [V.non, (V.int (0 : Int)), (V.int (5 : Int))])) p163 (.lst [(V.int (3 : Int)), (V.int (0 : Int)), (V.int (5 : Int))])) p172 (.lst [V.non, (V.int (1 : Int))])) p183 (.lst [(V.int (2 : Int)), (V.int (1 : Int))])) p196 (.lst [(V.int (1 : Int)), (V.int (2 : Int)), V.non])) p172 [V.non, (V.int (1 : Int))] := ow214.fz (Ne.symm ne175)
    have ow222 : Ow H0 (upd (upd F147 p156 (.lst [V.non, (V.int (0 : Int)), (V.int (5 : Int))])) p163 (.lst [(V.int (3 : Int)), (V.int (0 : Int)), (V.int (5 : Int))])) (upd (upd (upd (upd (upd H146 p156 (.lst [V.non, (V.int (0 : Int)), (V.int (5 : Int))])) p163 (.lst [(V.int (3 : Int)), (V.int (0 : Int)), (V.int (5 : Int))])) p172 (.lst [V.non, (V.int (1 : Int))])) p183 (.lst [(V.int (2 : Int)), (V.int (1 : Int))])) p196 (.lst [(V.int (1 : Int)), (V.int (2 : Int)), V.non])) p183 [(V.int (2 : Int)), (V.int (1 : Int))] := ow215.fz (Ne.symm ne186)
    have ow223 : Ow H0 (upd (upd F147 p156 (.lst [V.non, (V.int (0 : Int)), (V.int (5 : Int))])) p163 (.lst [(V.int (3 : Int)), (V.int (0 : Int)), (V.int (5 : Int))])) (upd (upd (upd (upd (upd H146 p156 (.lst [V.non, (V.int (0 : Int)), (V.int (5 : Int))])) p163 (.lst [(V.int (3 : Int)), (V.int (0 : Int)), (V.int (5 : Int))])) p172 (.lst [V.non, (V.int (1 : Int))])) p183 (.lst [(V.int (2 : Int)), (V.int (1 : Int))])) p196 (.lst [(V.int (1 : Int)), (V.int (2 : Int)), V.non])) p196 [(V.int (1 : Int)), (V.int (2 : Int)), V.non] := ow216.fz (Ne.symm ne199)
    have hB224 : BagAt (upd (upd F147 p156 (.lst [V.non, (V.int (0 : Int)), (V.int (5 : Int))])) p163 (.lst [(V.int (3 : Int)), (V.int (0 : Int)), (V.int (5 : Int))])) (upd (upd (upd (upd (upd H146 p156 (.lst [V.non, (V.int (0 : Int)), (V.int (5 : Int))])) p163 (.lst [(V.int (3 : Int)), (V.int (0 : Int)), (V.int (5 : Int))])) p172 (.lst [V.non, (V.int (1 : Int))])) p183 (.lst [(V.int (2 : Int)), (V.int (1 : Int))])) p196 (.lst [(V.int (1 : Int)), (V.int (2 : Int)), V.non])) B C b151 := hB217.fz nb166
    have r225 : R K (upd (upd F147 p156 (.lst [V.non, (V.int (0 : Int)), (V.int (5 : Int))])) p163 (.lst [(V.int (3 : Int)), (V.int (0 : Int)), (V.int (5 : Int))])) (.ref p163) ([(some (3 : Int)), (some (0 : Int)), (some (5 : Int))] : List (Option Int)) := R.mkl fzS (by show 3 ≤ sizeLine; decide) (RpA.up (hA171.up sm211) sm219)
    have sm226 := ow221.sf
    have g227 := g220.fz ow221
    have ow228 : Ow H0 (upd (upd (upd F147 p156 (.lst [V.non, (V.int (0 : Int)), (V.int (5 : Int))])) p163 (.lst [(V.int (3 : Int)), (V.int (0 : Int)), (V.int (5 : Int))])) p172 (.lst [V.non, (V.int (1 : Int))])) (upd (upd (upd (upd (upd H146 p156 (.lst [V.non, (V.int (0 : Int)), (V.int (5 : Int))])) p163 (.lst [(V.int (3 : Int)), (V.int (0 : Int)), (V.int (5 : Int))])) p172 (.lst [V.non, (V.int (1 : Int))])) p183 (.lst [(V.int (2 : Int)), (V.int (1 : Int))])) p196 (.lst [(V.int (1 : Int)), (V.int (2 : Int)), V.non])) p183 [(V.int (2 : Int)), (V.int (1 : Int))] := ow222.fz (Ne.symm ne187)
    have ow229 : Ow H0 (upd (upd (upd F147 p156 (.lst [V.non, (V.int (0 : Int)), (V.int (5 : Int))])) p163 (.lst [(V.int (3 : Int)), (V.int (0 : Int)), (V.int (5 : Int))])) p172 (.lst [V.non, (V.int (1 : Int))])) (upd (upd (upd (upd (upd H146 p156 (.lst [V.non, (V.int (0 : Int)), (V.int (5 : Int))])) p163 (.lst [(V.int (3 : Int)), (V.int (0 : Int)), (V.int (5 : Int))])) p172 (.lst [V.non, (V.int (1 : Int))])) p183 (.lst [(V.int (2 : Int)), (V.int (1 : Int))])) p196 (.lst [(V.int (1 : Int)), (V.int (2 : Int)), V.non])) p196 [(V.int (1 : Int)), (V.int (2 : Int)), V.non] := ow223.fz (Ne.symm ne200)
    have hB230 : BagAt (upd (upd (upd F147 p156 (.lst [V.non, (V.int (0 : Int)), (V.int (5 : Int))])) p163 (.lst [(V.int (3 : Int)), (V.int (0 : Int)), (V.int (5 : Int))])) p172 (.lst [V.non, (V.int (1 : Int))])) (upd (upd (upd (upd (upd H146 p156 (.lst [V.non, (V.int (0 : Int)), (V.int (5 : Int))])) p163 (.lst [(V.int (3 : Int)), (V.int (0 : Int)), (V.int (5 : Int))])) p172 (.lst [V.non, (V.int (1 : Int))])) p183 (.lst [(V.int (2 : Int)), (V.int (1 : Int))])) p196 (.lst [(V.int (1 : Int)), (V.int (2 : Int)), V.non])) B C b151 := hB224.fz nb176
    have r231 : R K (upd (upd (upd F147 p156 (.lst [V.non, (V.int (0 : Int)), (V.int (5 : Int))])) p163 (.lst [(V.int (3 : Int)), (V.int (0 : Int)), (V.int (5 : Int))])) p172 (.lst [V.non, (V.int (1 : Int))])) (.ref p172) ([(none : (Option Int)), (some (1 : Int))] : List (Option Int)) := R.mkl fzS (by show 2 ≤ sizeLine; decide) (RpA.up (hA182.up (Same.trans sm211 sm219)) sm226)
    have sm232 := ow228.sf
    have g233 := g227.fz ow228
    have ow234 : Ow H0 (upd (upd (upd (upd F147 p156 (.lst [V.non, (V.int (0 : Int)), (V.int (5 : Int))])) p163 (.lst [(V.int (3 : Int)), (V.int (0 : Int)), (V.int (5 : Int))])) p172 (.lst [V.non, (V.int (1 : Int))])) p183 (.lst [(V.int (2 : Int)), (V.int (1 : Int))])) (upd (upd (upd (upd (upd H146 p156 (.lst [V.non, (V.int (0 : Int)), (V.int (5 : Int))])) p163 (.lst [(V.int (3 : Int)), (V.int (0 : Int)), (V.int (5 : Int))])) p172 (.lst [V.non, (V.int (1 : Int))])) p183 (.lst [(V.int (2 : Int)), (V.int (1 : Int))])) p196 (.lst [(V.int (1 : Int)), (V.int (2 : Int)), V.non])) p196 [(V.int (1 : Int)), (V.int (2 : Int)), V.non] := ow229.fz (Ne.symm ne201)
    have hB235 : BagAt (upd (upd (upd (upd F147 p156 (.lst [V.non, (V.int (0 : Int)), (V.int (5 : Int))])) p163 (.lst [(V.int (3 : Int)), (V.int (0 : Int)), (V.int (5 : Int))])) p172 (.lst [V.non, (V.int (1 : Int))])) p183 (.lst [(V.int (2 : Int)), (V.int (1 : Int))])) (upd (upd (upd (upd (upd H146 p156 (.lst [V.non, (V.int (0 : Int)), (V.int (5 : Int))])) p163 (.lst [(V.int (3 : Int)), (V.int (0 : Int)), (V.int (5 : Int))])) p172 (.lst [V.non, (V.int (1 : Int))])) p183 (.lst [(V.int (2 : Int)), (V.int (1 : Int))])) p196 (.lst [(V.int (1 : Int)), (V.int (2 : Int)), V.non])) B C b151 := hB230.fz nb188
    have r236 : R K (upd (upd (upd (upd F147 p156 (.lst [V.non, (V.int (0 : Int)), (V.int (5 : Int))])) p163 (.lst [(V.int (3 : Int)), (V.int (0 : Int)), (V.int (5 : Int))])) p172 (.lst [V.non, (V.int (1 : Int))])) p183 (.lst [(V.int (2 : Int)), (V.int (1 : Int))])) (.ref p183) ([(some (2 : Int)), (some (1 : Int))] : List (Option Int)) := R.mkl fzS (by show 2 ≤ sizeLine; decide) (RpA.up (hA195.up (Same.trans sm211 (Same.trans sm219 sm226))) sm232)
    have sm237 := ow234.sf
    have g238 := g233.fz ow234
    have hB239 : BagAt (upd (upd (upd (upd (upd F147 p156 (.lst [V.non, (V.int (0 : Int)), (V.int (5 : Int))])) p163 (.lst [(V.int (3 : Int)), (V.int (0 : Int)), (V.int (5 : Int))])) p172 (.lst [V.non, (V.int (1 : Int))])) p183 (.lst [(V.int (2 : Int)), (V.int (1 : Int))])) p196 (.lst [(V.int (1 : Int)), (V.int (2 : Int)), V.non])) (upd (upd (upd (upd (upd H146 p156 (.lst [V.non, (V.int (0 : Int)), (V.int (5 : Int))])) p163 (.lst [(V.int (3 : Int)), (V.int (0 : Int)), (V.int (5 : Int))])) p172 (.lst [V.non, (V.int (1 : Int))])) p183 (.lst [(V.int (2 : Int)), (V.int (1 : Int))])) p196 (.lst [(V.int (1 : Int)), (V.int (2 : Int)), V.non])) B C b151 := hB235.fz nb202
    have r240 : R K (upd (upd (upd (upd (upd F147 p156 (.lst [V.non, (V.int (0 : Int)), (V.int (5 : Int))])) p163 (.lst [(V.int (3 : Int)), (V.int (0 : Int)), (V.int (5 : Int))])) p172 (.lst [V.non, (V.int (1 : Int))])) p183 (.lst [(V.int (2 : Int)), (V.int (1 : Int))])) p196 (.lst [(V.int (1 : Int)), (V.int (2 : Int)), V.non])) (.ref p196) ([(some (1 : Int)), (some (2 : Int)), (none : (Option Int))] : List (Option Int)) := R.mkl fzS (by show 3 ≤ sizeLine; decide) (RpA.up (hA210.up (Same.trans sm211 (Same.trans sm219 (Same.trans sm226 sm232)))) sm237)
    refine ⟨(by show 5 ≤ sizeLine; decide), fun p241 np242 => ?_⟩
    have nb243 := hB239.nb np242
    have g244 := g238.own (o := (.lst [(V.ref p156), (V.ref p163), (V.ref p172), (V.ref p183), (V.ref p196)])) np242
    have hB245 := hB239.own (o := (.lst [(V.ref p156), (V.ref p163), (V.ref p172), (V.ref p183), (V.ref p196)])) np242
    have ow246 : Ow H0 (upd (upd (upd (upd (upd F147 p156 (.lst [V.non, (V.int (0 : Int)), (V.int (5 : Int))])) p163 (.lst [(V.int (3 : Int)), (V.int (0 : Int)), (V.int (5 : Int))])) p172 (.lst [V.non, (V.int (1 : Int))])) p183 (.lst [(V.int (2 : Int)), (V.int (1 : Int))])) p196 (.lst [(V.int (1 : Int)), (V.int (2 : Int)), V.non])) (upd (upd (upd (upd (upd (upd H146 p156 (.lst [V.non, (V.int (0 : Int)), (V.int (5 : Int))])) p163 (.lst [(V.int (3 : Int)), (V.int (0 : Int)), (V.int (5 : Int))])) p172 (.lst [V.non, (V.int (1 : Int))])) p183 (.lst [(V.int (2 : Int)), (V.int (1 : Int))])) p196 (.lst [(V.int (1 : Int)), (V.int (2 : Int)), V.non])) p241 (.lst [(V.ref p156), (V.ref p163), (V.ref p172), (V.ref p183), (V.ref p196)])) p241 [(V.ref p156), (V.ref p163), (V.ref p172), (V.ref p183), (V.ref p196)] := Ow.new g238 np242
    have hA247 : RL K (upd (upd (upd (upd (upd F147 p156 (.lst [V.non, (V.int (0 : Int)), (V.int (5 : Int))])) p163 (.lst [(V.int (3 : Int)), (V.int (0 : Int)), (V.int (5 : Int))])) p172 (.lst [V.non, (V.int (1 : Int))])) p183 (.lst [(V.int (2 : Int)), (V.int (1 : Int))])) p196 (.lst [(V.int (1 : Int)), (V.int (2 : Int)), V.non])) [(V.ref p156), (V.ref p163), (V.ref p172), (V.ref p183), (V.ref p196)] ([([(none : (Option Int)), (some (0 : Int)), (some (5 : Int))] : List (Option Int)), ([(some (3 : Int)), (some (0 : Int)), (some (5 : Int))] : List (Option Int)), ([(none : (Option Int)), (some (1 : Int))] : List (Option Int)), ([(some (2 : Int)), (some (1 : Int))] : List (Option Int)), ([(some (1 : Int)), (some (2 : Int)), (none : (Option Int))] : List (Option Int))] : List (List (Option Int))) := (RpA.cons (r218.up (Same.trans sm219 (Same.trans sm226 (Same.trans sm232 sm237)))) (RpA.cons (r225.up (Same.trans sm226 (Same.trans sm232 sm237))) (RpA.cons (r231.up (Same.trans sm232 sm237)) (RpA.cons (r236.up sm237) (RpA.cons r240 RpA.nil)))))
    obtain ⟨r248, b249, hb250, hm⟩ := bnd2 hm
    refine ⟨(V.ref B), rfl, (upd (upd (upd (upd (upd F147 p156 (.lst [V.non, (V.int (0 : Int)), (V.int (5 : Int))])) p163 (.lst [(V.int (3 : Int)), (V.int (0 : Int)), (V.int (5 : Int))])) p172 (.lst [V.non, (V.int (1 : Int))])) p183 (.lst [(V.int (2 : Int)), (V.int (1 : Int))])) p196 (.lst [(V.int (1 : Int)), (V.int (2 : Int)), V.non])), B, C, b151, (5 : Int), r248, b249, rfl, g244.fh, hB245, hb250, fun F251 H252 g253 hB254 => ?_⟩
    have g256 := Gr.trans g244 g253
    have ow257 := ow246.gr g253 nb243
    obtain ⟨t258, hb259, hm⟩ := bnd hm
    obtain ⟨v260, ha261, r262⟩ := RL.at (hA247.up g253.ff) hb259
    refine ⟨p241, [(V.ref p156), (V.ref p163), (V.ref p172), (V.ref p183), (V.ref p196)], _, v260, rfl, rfl, ow257.sq, ha261, ?_⟩
    refine p_name ?_
    refine p_nx ?_
    refine p_ret ?_
    refine ⟨_, rfl, (by decide), (by decide), fun D263 nD264 => ?_⟩
    have ne265 := ow257.ne nD264
    have nb266 := hB254.nb nD264
    have g267 := g256.own (o := (.lst [])) nD264
    have ow268 := ow257.own (o := (.lst [])) nD264
    have hB269 := hB254.own (o := (.lst [])) nD264
    have ow270 : Ow H0 F251 (upd H252 D263 (.lst [])) D263 [] := Ow.new g256 nD264
    obtain ⟨l271, b272, hb273, hm⟩ := bnd2 hm
    refine lc_range (lo := (0 : Int)) (n := (8 : Nat)) (fun i H' => ∃ (F' : Hp) (acc : List V) (ds : List (Option Int)) (rest : List (Option Int)) (b : Bag), Gr (Bc B C) F0 H0 F' H' ∧ Same F251 F' ∧ Ow H0 F' H' D263 acc ∧ RL K F' acc ds ∧ acc.length ≤ i ∧ Ow H0 F' H' p241 [(V.ref p156), (V.ref p163), (V.ref p172), (V.ref p183), (V.ref p196)] ∧ BagAt F' H' B C b ∧ m_law_c3 t258 ((rangeL (0 : Int) 8).drop i) b = some (rest, b272) ∧ ds ++ rest = l271) ?_ ?_ ?_
    · exact ⟨F251, [], [], l271, b249, g267, Same.refl _, ow270, RpA.nil, Nat.le_refl _, ow268, hB269, hb273, rfl⟩
    · intro i275 H277 hx276 hP
      obtain ⟨F278, acc279, ds280, rest281, b282, g0283, sm284, owD285, hA286, hi287, ow0288, hB289, hm290, hr291⟩ := hP
      have he293 := rangeL_at (lo := (0 : Int)) hx276
      rw [drop_at he293, m_law_c3.eq_2] at hm290
      refine ⟨rfl, (p_yes ?_)⟩
      obtain ⟨p294, ws295, ev296, hS297, hl298, hA299⟩ := R.lst_v r262
      obtain ⟨r300, b301, hb302, hm290⟩ := bnd2 hm290
      refine ⟨v260, rfl, (V.ref B), rfl, v260, rfl, p294, ws295, _, (by rw [ev296]), (.inl (Same.seq g0283.fh (Same.seq sm284 hS297))), (RL.len (hA299.up sm284)), F278, B, C, b282, (((t258).length : Nat) : Int), r300, b301, rfl, g0283.fh, hB289, hb302, fun F303 H304 g305 hB306 => ?_⟩
      have g308 := Gr.trans g0283 g305
      have ow309 := ow0288.gr g305 nb243
      have ow310 := owD285.gr g305 nb266
      obtain ⟨t311, hb312, hm290⟩ := bnd hm290
      obtain ⟨v313, ha314, r315⟩ := RL.at (hA299.up (Same.trans sm284 g305.ff)) hb312
      have hA316 : RL K F303 (acc279 ++ [v313]) (ds280 ++ [(t311 : (Option Int))]) := RL.snoc (hA286.up g305.ff) r315
      obtain ⟨rest317, b318, h319, h320⟩ := bnd2 hm290
      obtain ⟨rfl, rfl⟩ := pjoin h320
      refine ⟨p294, ws295, _, v313, ev296, rfl, (Same.seq g308.fh (Same.seq (Same.trans sm284 g305.ff) hS297)), ha314, acc279, ow310.h, (lt_line hi287 hx276 (by decide : (8 : Nat) ≤ sizeLine)), ?_⟩
      have g321 := g308.put (o := (.lst (acc279 ++ [v313]))) ow310
      have ow322 := ow309.other (o := (.lst (acc279 ++ [v313]))) ne265
      have hB323 := hB306.other (o := (.lst (acc279 ++ [v313]))) nb266
      have ow324 := ow310.put (us := (acc279 ++ [v313]))
      exact ⟨F303, (acc279 ++ [v313]), (ds280 ++ [t311]), rest317, b301, g321, (Same.trans sm284 g305.ff), ow324, hA316, (by rw [List.length_append]; exact Nat.succ_le_succ hi287), ow322, hB323, h319, (snoc_rest hr291)⟩
    intro H325 hP
    obtain ⟨F326, acc327, ds328, _rest, b329, g0330, sm331, owD332, hA333, hi334, ow0335, hB336, hm337, hr338⟩ := hP
    rw [drop_end (rangeL_len _ _).symm] at hm337
    rw [m_law_c3.eq_1] at hm337
    obtain ⟨rfl, rfl⟩ := pjoin hm337
    rw [List.append_nil] at hr338
    obtain rfl := hr338
    have hl339 : acc327.length ≤ sizeLine := Nat.le_trans hi334 (by decide : (8 : Nat) ≤ sizeLine)
    obtain ⟨r340, hb341, hm⟩ := bnd hm
    refine ⟨(3 : Int), D263, acc327, ds328, r340, rfl, owD332.sq, hl339, (RpA.up hA333 g0330.fh), id, hb341, fun F342 H343 g344 => ?_⟩
    have g346 := Gr.apart g0330 g344
    have ow347 := ow0335.apart g344
    have ow348 := owD332.apart g344
    have hB349 := hB336.apart g344
    obtain ⟨he350, rfl⟩ := pjoin hm
    exact (retQ (e := r340) he350 (hQ _ _ g346 hB349))
end K33
set_option synthInstance.maxSize 1000
set_option synthInstance.maxHeartbeats 400000
namespace K33
open PySem PySem.Spec PyProof.Rows L2 TL G
theorem bits_log {n : Int} (h0 : 0 < n) (h1 : n < 18446744073709551616) : Builtin.Int.intBits n < 9000 := by
  have h2 : n.natAbs < 2 ^ 64 := by omega
  have h3 : n.natAbs ≠ 0 := by omega
  have h4 := (Nat.log2_lt h3).mpr h2
  unfold Builtin.Int.intBits
  first | (split <;> omega) | omega | (simp; omega)
theorem stir_in {z c : Int} (h0 : 0 ≤ z) (h1 : z < 2147483648) : ∀ n, 0 ≤ (stirN z c n).1 ∧ (stirN z c n).1 < 2147483648
  | 0 => ⟨h0, h1⟩
  | n + 1 => ⟨Int.emod_nonneg _ (by decide), Int.lt_trans (Int.emod_lt_of_pos _ (by decide)) (by decide)⟩
theorem stirred_O {b : Bag} {n : Int} (hb : BOk b) (h0 : 0 < n) (h1 : n < 18446744073709551616) : O2 BOk (m_l_stirred b n) (fun r => 0 ≤ r ∧ r < n) := by
  unfold m_l_stirred
  rw [if_pos ⟨⟨h0, bits_log h0 h1⟩, hb.lo, hb.hi⟩]
  have hs := stir_in (c := b.cnt) hb.lo hb.hi (1 + Builtin.Int.intBits n / 27)
  exact O2.ret ⟨hs.1, hs.2, hb.len⟩ ⟨Int.emod_nonneg _ (by omega), Int.emod_lt_of_pos _ h0⟩
theorem draw_O {b : Bag} {n : Int} (hb : BOk b) (h0 : 0 < n) (h1 : n < 18446744073709551616) : O2 BOk (m_l_draw b n) (fun r => 0 ≤ r ∧ r < n) := by
  have hlog : n.natAbs.log2 < 9000 := by
    have hn : n.natAbs < 2 ^ 64 := by omega
    have hz : n.natAbs ≠ 0 := by omega
    have := (Nat.log2_lt hz).mpr hn
    omega
  have h63 := hb.len
  have hm : 0 ≤ b.left % n ∧ b.left % n < n := ⟨Int.emod_nonneg _ (by omega), Int.emod_lt_of_pos _ h0⟩
  unfold m_l_draw
  rw [if_pos ⟨⟨h0, hlog⟩, by rw [sizeLine_eq]; omega⟩]
  by_cases hz : b.left = 0
  · rw [if_pos hz]
    cases e : b.cells[b.at_]? with
    | some x => exact O2.ret ⟨hb.lo, hb.hi, hb.len⟩ ⟨Int.emod_nonneg _ (by omega), Int.emod_lt_of_pos _ h0⟩
    | none => exact stirred_O hb h0 h1
  · rw [if_neg hz]
    exact O2.ret ⟨hb.lo, hb.hi, hb.len⟩ hm
/-! ### the told table's tree and rows -/
theorem wanted_c1_ (rec_ : Int → Int → List Pt → Option TrD) (m : Int) : ∀ l : List Pt, m_wanted_c1 rec_ m l = l.filter fun p => decide (p.a < m)
  | [] => rfl
  | p :: l => by rw [m_wanted_c1.eq_2, List.filter_cons, wanted_c1_ rec_ m l]
theorem wanted_c2_ (rec_ : Int → Int → List Pt → Option TrD) (m : Int) : ∀ l : List Pt, m_wanted_c2 rec_ m l = l.filter fun p => decide (m < p.b)
  | [] => rfl
  | p :: l => by rw [m_wanted_c2.eq_2, List.filter_cons, wanted_c2_ rec_ m l]
theorem wanted_c3_ (rec_ : Int → Int → List Pt → Option TrD) (t : TrD) : ∀ l : List (Option Int), m_wanted_c3 rec_ t l = l.filter fun k => decide (k ∈ t.ks)
  | [] => rfl
  | p :: l => by rw [m_wanted_c3.eq_2, List.filter_cons, wanted_c3_ rec_ t l]
theorem wanted_c4_ (rec_ : Int → Int → List Pt → Option TrD) : ∀ l : List (Option Int), m_wanted_c4 rec_ l = l
  | [] => rfl
  | p :: l => by rw [m_wanted_c4.eq_2, wanted_c4_ rec_ l]
theorem wanted_spec : ∀ (n u : Nat) (f : Int) (ps : List Pt), n < u → n ≤ 40 → ps.length ≤ 10000 → Cv f (f + ((2 ^ n : Nat) : Int)) ps → ∃ t, m_wanted u f (f + ((2 ^ n : Nat) : Int)) ps = some t ∧ Wt f n ps t
  | n, 0, f, ps, h, _, _, _ => absurd h (Nat.not_lt_zero _)
  | n, u + 1, f, ps, h, hn, hl, c => by
    show ∃ t, mS_wanted (m_wanted u) _ _ _ = some t ∧ _
    unfold mS_wanted
    by_cases h1 : ps.length = 1
    · match ps, h1 with
      | [p], _ =>
        refine ⟨.leaf [p.c], ?_, Wt.leaf⟩
        rfl
    · rw [eqI_iff, if_neg (by rw [decide_eq_true_eq]; omega)]
      obtain ⟨h2, h3⟩ := c.two h1
      match n, h, hn, c, h3 with
      | 0, _, _, _, h3 => exact absurd h3 (by show ¬ f + 1 < f + ((1 : Nat) : Int); omega)
      | n + 1, h, hn, c, h3 =>
        have hpw : 0 < 2 ^ n := Nat.two_pow_pos n
        have he : f + ((2 ^ (n + 1) : Nat) : Int) = f + ((2 ^ n : Nat) : Int) + ((2 ^ n : Nat) : Int) := by rw [Nat.pow_succ]; omega
        have hmid : (f + (f + ((2 ^ (n + 1) : Nat) : Int))) / (2 : Int) = f + ((2 ^ n : Nat) : Int) := by omega
        have hlt : f + ((2 ^ n : Nat) : Int) < f + ((2 ^ (n + 1) : Nat) : Int) := by omega
        have c1 := c.low (m := f + ((2 ^ n : Nat) : Int)) (by omega) hlt
        have c2 := c.high (m := f + ((2 ^ n : Nat) : Int)) (by omega) hlt
        rw [he] at c2
        have l1 := List.length_filter_le (fun p : Pt => decide (p.a < f + ((2 ^ n : Nat) : Int))) ps
        have l2 := List.length_filter_le (fun p : Pt => decide (f + ((2 ^ n : Nat) : Int) < p.b)) ps
        obtain ⟨t1, e1, w1⟩ := wanted_spec n u f _ (by omega) (by omega) (by omega) c1
        obtain ⟨t2, e2, w2⟩ := wanted_spec n u (f + ((2 ^ n : Nat) : Int)) _ (by omega) (by omega) (by omega) c2
        refine ⟨.node (mixN t1.ks t2.ks) t1 t2, ?_, .node h1 w1 w2⟩
        rw [Option.bind_some, hmid, wanted_c1_, e1, Option.bind_some, wanted_c2_, he, e2, Option.bind_some]
        have k1 := w1.nods c1
        have k2 := w2.nods c2
        have b1 : 2 * n * (ps.filter fun p => decide (p.a < f + ((2 ^ n : Nat) : Int))).length ≤ 2 * 40 * 10000 := Nat.mul_le_mul (by omega) (by omega)
        have b2 : 2 * n * (ps.filter fun p => decide (f + ((2 ^ n : Nat) : Int) < p.b)).length ≤ 2 * 40 * 10000 := Nat.mul_le_mul (by omega) (by omega)
        have hc : conL t1.ks t2.ks = some (t1.ks ++ t2.ks) := by
          unfold conL
          rw [if_pos (by rw [sizeLine_eq]; omega)]
        rw [hc, Option.bind_some, wanted_c3_, wanted_c4_]
        rfl
theorem chosen_c1_ : ∀ l : List (Option Int), m_chosen_c1 l = some (l.filterMap id)
  | [] => rfl
  | none :: l => by
    rw [m_chosen_c1.eq_2, if_neg (by decide), chosen_c1_ l]
    rfl
  | some x :: l => by
    rw [m_chosen_c1.eq_2, if_pos (show (!(some x : Option Int).isNone) = true from rfl), chosen_c1_ l]
    rfl
theorem chosen_spec (ks : List (Option Int)) : m_chosen ks = some (chN ks) := by
  unfold m_chosen chN
  rw [chosen_c1_, Option.bind_some]
  cases e : ks.filterMap id with
  | nil => rfl
  | cons x l =>
    obtain ⟨m, e1, _⟩ := minO_spec (List.cons_ne_nil x l)
    rw [if_pos (by rfl), e1]
    rfl
theorem rows_spec (w : Nat) (hw : w ≤ 60) : ∀ (t : TrD) (u : Nat) (beg : Str) (ab : Option Int), t.dep < u → beg.length + t.dep ≤ 60 → t.nod ≤ 900000 → m_rows_below u t beg ab (w : Nat) = some (rowsT (w : Nat) t beg ab)
  | t, 0, beg, ab, h, _, _ => absurd h (Nat.not_lt_zero _)
  | t, u + 1, beg, ab, h, hb, hn => by
    show mS_rows_below (m_rows_below u) t beg ab (w : Nat) = _
    unfold mS_rows_below
    have hh : (if (!decide (ab ∈ t.ks)) = true then (Option.bind (m_chosen t.ks) fun r26 => Option.bind (mulS ("*" : Str) (toI (decide (((beg.length : Nat) : Int) < ((w : Nat) : Int))))) fun t35 => Option.bind (catS beg t35) fun t38 => Option.bind (appL ([] : List (Str × Option Int)) (t38, r26)) fun t48 => some (r26, t48)) else some (ab, [])) = some (abN t.ks ab, headT (w : Nat) t.ks beg ab) := by
      unfold abN headT
      by_cases hm : ab ∈ t.ks
      · rw [decide_eq_true hm, if_neg (by decide), if_pos hm, if_pos hm]
      · rw [decide_eq_false hm, if_pos (show (!false) = true from rfl), if_neg hm, if_neg hm, chosen_spec, Option.bind_some]
        obtain ⟨z, e1, e2⟩ := mulS_O (x := ("*" : Str)) (n := toI (decide (((beg.length : Nat) : Int) < ((w : Nat) : Int)))) (P := fun z => z = Txt.mul ("*" : Str) (toI (decide (((beg.length : Nat) : Int) < ((w : Nat) : Int)))) ∧ z.length ≤ 1) (by unfold toI; split <;> omega) (by unfold toI; split <;> omega) (by rw [tlStar]; unfold toI; split <;> decide) ⟨rfl, by
          rw [len_tl, tl_mul_len, tlStar]
          unfold toI
          split <;> decide⟩
        rw [e1, Option.bind_some]
        have hc : catS beg z = some (beg ++ z) := by
          unfold catS
          rw [if_pos (by rw [sizeLine_eq]; omega)]
        rw [hc, Option.bind_some, e2.1]
        rfl
    rw [Option.bind_some]
    refine (congrArg (fun o => bind2 o fun x y => Option.bind (m_rows_below_l1 (m_rows_below u) beg x (w : Nat) (List.zip (("01" : Str)).cps.toList t.hs) y) fun z => some z) hh).trans ?_
    show Option.bind (m_rows_below_l1 (m_rows_below u) beg (abN t.ks ab) (w : Nat) (List.zip (("01" : Str)).cps.toList t.hs) (headT (w : Nat) t.ks beg ab)) _ = _
    cases t with
    | leaf ks =>
      show Option.bind (m_rows_below_l1 (m_rows_below u) beg (abN ks ab) (w : Nat) (List.zip (("01" : Str)).cps.toList []) (headT (w : Nat) ks beg ab)) _ = some (headT (w : Nat) ks beg ab)
      rw [List.zip_nil_right, m_rows_below_l1.eq_1, Option.bind_some]
    | node ks l r =>
      show Option.bind (m_rows_below_l1 (m_rows_below u) beg (abN ks ab) (w : Nat) [(48, l), (49, r)] (headT (w : Nat) ks beg ab)) _ = some (headT (w : Nat) ks beg ab ++ (rowsT (w : Nat) l (beg ++ sgn 48) (abN ks ab) ++ rowsT (w : Nat) r (beg ++ sgn 49) (abN ks ab)))
      have hd : 1 + max l.dep r.dep < u + 1 := h
      have hb : beg.length + (1 + max l.dep r.dep) ≤ 60 := hb
      have hn : 1 + l.nod + r.nod ≤ 900000 := hn
      have hcat : ∀ c, catS beg (sgn c) = some (beg ++ sgn c) := fun c => by
        unfold catS
        rw [if_pos (by rw [sizeLine_eq]; show beg.length + 1 ≤ _; omega)]
      have hbl : ∀ c, (beg ++ sgn c).length = beg.length + 1 := fun c => by
        rw [len_tl, tl_append, List.length_append, len_tl]
        rfl
      have l0 := headT_len (w : Nat) ks beg ab
      have l1 := oneN_le ks ab
      have l2 := rowsT_len (w : Nat) l (beg ++ sgn 48) (abN ks ab)
      have l3 := rowsT_len (w : Nat) r (beg ++ sgn 49) (abN ks ab)
      have l4 := costT_nod l (abN ks ab)
      have l5 := costT_nod r (abN ks ab)
      rw [m_rows_below_l1.eq_2, hcat, Option.bind_some, rows_spec w hw l u (beg ++ sgn 48) (abN ks ab) (by omega) (by rw [hbl]; omega) (by omega), Option.bind_some, conL_some (by omega), Option.bind_some,
        m_rows_below_l1.eq_2, hcat, Option.bind_some, rows_spec w hw r u (beg ++ sgn 49) (abN ks ab) (by omega) (by rw [hbl]; omega) (by omega), Option.bind_some, conL_some (by rw [List.length_append]; omega), Option.bind_some, m_rows_below_l1.eq_1, Option.bind_some, List.append_assoc]
theorem table_of_spec {w : Nat} {ps : List Pt} (hw : w ≤ 30) (hl : ps.length ≤ 10000) (c : Cv 0 ((2 ^ w : Nat) : Int) ps) : ∃ t, Wt 0 w ps t ∧ m_table_of ps (w : Nat) = some (rowsT (w : Nat) t ("" : Str) none) := by
  have c' : Cv 0 (0 + ((2 ^ w : Nat) : Int)) ps := by rw [Int.zero_add]; exact c
  obtain ⟨t, e, h⟩ := wanted_spec w 40 0 ps (by omega) (by omega) hl c'
  rw [Int.zero_add] at e
  refine ⟨t, h, ?_⟩
  have hd := h.dep
  have hk := (h.nods c').1
  have b1 : 2 * w * ps.length ≤ 2 * 30 * 10000 := Nat.mul_le_mul (by omega) (by omega)
  unfold m_table_of
  rw [shlI_one (by omega), Option.bind_some, e, Option.bind_some, rows_spec w (by omega) t 40 ("" : Str) none (by omega) (by show 0 + _ ≤ _; omega) (by omega)]
  rfl
theorem table_of_tab {w : Nat} {ps : List Pt} {g : Int → Option Int} (hw : w ≤ 30) (hl : ps.length ≤ 10000) (c : Cn 0 ((2 ^ w : Nat) : Int) ps) (hv : VP g ps) : m_table_of ps (w : Nat) = some (tabT w g) ∧ (tabT w g).length ≤ 900000 := by
  have hpw : 0 < 2 ^ w := Nat.two_pow_pos w
  have cv := c.cv (by omega)
  have cv' : Cv 0 (0 + ((2 ^ w : Nat) : Int)) ps := by rw [Int.zero_add]; exact cv
  obtain ⟨t, h, e⟩ := table_of_spec hw hl cv
  have hf := (h.full (w : Nat) cv' hv).2 ("" : Str) none
  have hk := (h.nods cv').1
  have b1 : 2 * w * ps.length ≤ 2 * 30 * 10000 := Nat.mul_le_mul (by omega) (by omega)
  have hc := costT_nod t none
  rw [← rowsT_len (w : Nat) t ("" : Str) none, hf] at hc
  refine ⟨by rw [e, hf]; rfl, ?_⟩
  show (rowsT (w : Nat) (fT w 0 g) ("" : Str) none).length ≤ _
  omega
end K33
set_option synthInstance.maxSize 1000
set_option synthInstance.maxHeartbeats 400000
namespace K33
open PySem PySem.Spec PyProof.Rows L2 TL G
/-! ### patterns of few signs, all of them -/
def bl : Nat → List (List Nat)
  | 0 => [[]]
  | k + 1 => (bl k).flatMap fun b => [b ++ [48], b ++ [49]]
theorem bl_mem : ∀ (k : Nat) (bs : List Nat), bs.length = k → Bits bs → bs ∈ bl k
  | 0, bs, h, _ => by rw [List.eq_nil_of_length_eq_zero h]; exact List.mem_singleton.mpr rfl
  | k + 1, bs, h, hb => by
    have hne : bs ≠ [] := fun e => by rw [e] at h; cases h
    have e := List.dropLast_concat_getLast hne
    have h1 : bs.dropLast ∈ bl k := bl_mem k _ (by rw [List.length_dropLast, h]; rfl) fun c hc => hb c (e ▸ List.mem_append_left _ hc)
    have h2 := isB_iff.mp (hb _ (List.getLast_mem hne))
    unfold bl
    refine List.mem_flatMap.mpr ⟨_, h1, ?_⟩
    rcases h2 with h2 | h2
    · rw [h2] at e
      rw [e]
      exact List.mem_cons_self ..
    · rw [h2] at e
      rw [e]
      exact List.mem_cons_of_mem _ (List.mem_cons_self ..)
def patsW (w : Nat) : List Str := (List.range (w + 1)).flatMap fun k => (bl k).map fun b => (⟨(patL w b).toArray⟩ : Str)
theorem patsW_mem {w : Nat} {x : Str} (h : IsPat w x) : x ∈ patsW w := by
  obtain ⟨bs, p⟩ := h
  unfold patsW
  refine List.mem_flatMap.mpr ⟨bs.length, List.mem_range.mpr (Nat.lt_succ_of_le p.le), List.mem_map.mpr ⟨bs, bl_mem _ _ rfl p.bits, ?_⟩⟩
  apply tl_inj
  rw [p.eq]
def lnW (p : Str) : Nat := (tl (strike p 42)).length
def spW (w : Nat) (p : Str) : Pt := sp3 w (p, none)
def szW (w : Nat) (p : Str) : Int := (spW w p).b - (spW w p).a
def hitB (w : Nat) (p : Str) (x : Int) : Bool := decide ((spW w p).a ≤ x) && decide (x < (spW w p).b)
def pAt (w : Nat) (c : Int) : Str := (patsW w)[c.toNat]?.getD ""
def rowK (w : Nat) (x : Int) (row : List Int) : Bool :=
  row.all (fun c => decide (0 ≤ c) && decide (c < ((patsW w).length : Nat))) &&
  (List.range (patsW w).length).all (fun c => decide (((c : Nat) : Int) ∈ row) == hitB w (pAt w ((c : Nat) : Int)) x) &&
  decide (row.Pairwise fun c d => szW w (pAt w c) < szW w (pAt w d))
def textK (w : Nat) (p : Str) (x : Int) : Bool :=
  match Option.bind (m_l_told_c5 (w : Nat) x (rangeL 0 (lnW p))) (fun l => joinS ("" : Str) l) with
  | some t => (eqS t (strike p 42)) == hitB w p x
  | none => false
def chkK (w : Nat) (pl : List (List Int)) (bg : List (Int × Int)) : Bool :=
    decide (bg.length = (patsW w).length) && decide ((patsW w).length ≤ 15) && decide (pl.length = 2 ^ w) && (patsW w).all (isPB w) && decide (patsW w).Nodup &&
    (List.range (2 ^ w)).all (fun x => match pl[x]? with | some row => rowK w ((x : Nat) : Int) row | none => false) &&
    (patsW w).all (fun p => decide (lnW p ≤ w) && (patsW w).all fun q => decide (lnW p ≤ lnW q) == decide (szW w q ≤ szW w p)) &&
    (patsW w).all (fun p => (List.range (2 ^ w)).all fun x => textK w p ((x : Nat) : Int))
def chkO (w : Nat) : Option (List (List Int)) → Option (List (Int × Int)) → Bool
  | some pl, some bg => chkK w pl bg
  | _, _ => false
def chkW (w : Nat) : Bool := chkO w (m_l_places (w : Nat)) (m_l_beginnings (w : Nat))
theorem chkO_ok {w : Nat} : ∀ {a : Option (List (List Int))} {b : Option (List (Int × Int))}, chkO w a b = true → ∃ pl bg, a = some pl ∧ b = some bg ∧ chkK w pl bg = true
  | some pl, some bg, h => ⟨pl, bg, rfl, rfl, h⟩
  | none, _, h => by cases h
  | some _, none, h => by cases h
theorem chk1 : chkW 1 = true := by decide +kernel
theorem chk2 : chkW 2 = true := by decide +kernel
theorem chk3 : chkW 3 = true := by decide +kernel
end K33
set_option synthInstance.maxSize 1000
set_option synthInstance.maxHeartbeats 400000
namespace K33
open PySem PySem.Spec PyProof.Rows L2 TL G
/-! ### what the check tells -/
structure Wk (w : Nat) (pl : List (List Int)) (bg : List (Int × Int)) : Prop where
  epl : m_l_places (w : Nat) = some pl
  ebg : m_l_beginnings (w : Nat) = some bg
  lbg : bg.length = (patsW w).length
  few : (patsW w).length ≤ 15
  lpl : pl.length = 2 ^ w
  pat : ∀ p ∈ patsW w, isPB w p = true
  nod : (patsW w).Nodup
  row : ∀ x < 2 ^ w, ∃ row, pl[x]? = some row ∧ rowK w ((x : Nat) : Int) row = true
  len : ∀ p ∈ patsW w, lnW p ≤ w ∧ ∀ q ∈ patsW w, (lnW p ≤ lnW q ↔ szW w q ≤ szW w p)
  txt : ∀ p ∈ patsW w, ∀ x < 2 ^ w, textK w p ((x : Nat) : Int) = true
theorem wk_of {w : Nat} (h : chkW w = true) : ∃ pl bg, Wk w pl bg := by
  obtain ⟨pl, bg, e1, e2, h⟩ := chkO_ok h
  unfold chkK at h
  simp only [Bool.and_eq_true, decide_eq_true_eq, List.all_eq_true] at h
  obtain ⟨⟨⟨⟨⟨⟨⟨h1, h2⟩, h3⟩, h4⟩, h5⟩, h6⟩, h7⟩, h8⟩ := h
  refine ⟨pl, bg, e1, e2, h1, h2, h3, h4, h5, fun x hx => ?_, fun p hp => ⟨(h7 p hp).1, fun q hq => ?_⟩, fun p hp x hx => h8 p hp x (List.mem_range.mpr hx)⟩
  · have := h6 x (List.mem_range.mpr hx)
    cases e : pl[x]? with
    | none => rw [e] at this; cases this
    | some row => rw [e] at this; exact ⟨row, rfl, this⟩
  · have := eq_of_beq ((h7 p hp).2 q hq)
    constructor
    · intro k
      have k2 : decide (lnW p ≤ lnW q) = true := decide_eq_true k
      rw [this] at k2
      exact of_decide_eq_true k2
    · intro k
      have k2 : decide (szW w q ≤ szW w p) = true := decide_eq_true k
      rw [← this] at k2
      exact of_decide_eq_true k2
theorem wk_all {w : Nat} (h : w = 1 ∨ w = 2 ∨ w = 3) : ∃ pl bg, Wk w pl bg := by
  rcases h with rfl | rfl | rfl
  · exact wk_of chk1
  · exact wk_of chk2
  · exact wk_of chk3
theorem sp_c (w : Nat) (q : Rw) : sp3 w q = T3.mk (spW w q.1).a (spW w q.1).b q.2 := rfl
theorem hit_iff {w : Nat} {q : Rw} {x : Int} : hasX x (sp3 w q) ↔ hitB w q.1 x = true := by
  unfold hasX hitB
  rw [Bool.and_eq_true, decide_eq_true_eq, decide_eq_true_eq]
  exact Iff.rfl
/-- what a table of patterns, none twice, tells: the narrowest row's value -/
theorem tell_at {w : Nat} (hw : w ≤ 30) {R : List Rw} (hp : ∀ q ∈ R, IsPat w q.1) (hn : (R.map (·.1)).Nodup) {x : Int} {v : Option Int}
    (h : (∃ q ∈ R, hitB w q.1 x = true ∧ v = q.2 ∧ ∀ q' ∈ R, hitB w q'.1 x = true → szW w q.1 ≤ szW w q'.1) ∨ (v = none ∧ ∀ q ∈ R, hitB w q.1 x = false)) : tellR w R x = v := by
  unfold tellR
  rcases atF_spec x (R.map (sp3 w)) none 2147483648 with ⟨e, h2⟩ | ⟨e, he, hx, hlt, e2, h2⟩
  · rw [e]
    rcases h with ⟨q, hq, hh, _, _⟩ | ⟨rfl, _⟩
    · have := h2 _ (List.mem_map.mpr ⟨q, hq, rfl⟩) (hit_iff.mpr hh)
      have := size_small hw q
      omega
    · rfl
  · rw [e2]
    obtain ⟨q0, hq0, rfl⟩ := List.mem_map.mp he
    have hh0 := hit_iff.mp hx
    rcases h with ⟨q, hq, hh, rfl, hm⟩ | ⟨_, h⟩
    · have h3 : szW w q.1 ≤ szW w q0.1 := hm q0 hq0 hh0
      have h4' : (sp3 w q0).b - (sp3 w q0).a ≤ (sp3 w q).b - (sp3 w q).a := h2 (sp3 w q) (List.mem_map.mpr ⟨q, hq, rfl⟩) (hit_iff.mpr hh)
      have h4 : szW w q0.1 ≤ szW w q.1 := h4'
      have h5 : q0.1 = q.1 := pat_same (hp q0 hq0) (hp q hq) hx (hit_iff.mpr hh) (show szW w q0.1 = szW w q.1 by omega)
      have h6 : q0 = q := by
        have hnd := List.pairwise_map.mp hn
        exact Classical.byContradiction fun ne => by
          rcases List.mem_iff_getElem.mp hq0 with ⟨i, hi, ei⟩
          rcases List.mem_iff_getElem.mp hq with ⟨j, hj, ej⟩
          have hij : i ≠ j := fun z => ne (by subst z; rw [← ei, ← ej])
          rcases Nat.lt_or_gt_of_ne hij with z | z
          · exact List.pairwise_iff_getElem.mp hnd i j hi hj z (by rw [ei, ej]; exact h5)
          · exact List.pairwise_iff_getElem.mp hnd j i hj hi z (by rw [ei, ej]; exact h5.symm)
      rw [h6, sp_c]
    · rw [h q0 hq0] at hh0
      cases hh0
/-! ### what the law reads off a table -/
def seen (s : Nat) (D : List Rw) (q : Rw) : Prop := lnW q.1 < s ∨ (lnW q.1 = s ∧ q ∈ D)
def StT (w : Nat) (R : List Rw) (s : Nat) (D : List Rw) (x : Int) (v : Option Int) : Prop :=
  (∃ q ∈ R, hitB w q.1 x = true ∧ v = q.2 ∧ seen s D q ∧ ∀ q' ∈ R, hitB w q'.1 x = true → seen s D q' → lnW q'.1 ≤ lnW q.1) ∨ (v = none ∧ ∀ q ∈ R, hitB w q.1 x = true → ¬ seen s D q)
def AllT (w : Nat) (R : List Rw) (s : Nat) (D : List Rw) (F : List (Option Int)) : Prop := F.length = 2 ^ w ∧ ∀ x < 2 ^ w, ∃ v, F[x]? = some v ∧ StT w R s D ((x : Nat) : Int) v
theorem setL_at {α : Type} {xs : List α} {i : Nat} {v : α} (h : i < xs.length) : setL xs (i : Int) v = some (xs.set i v) := by
  unfold setL
  have : ixN xs.length (i : Int) = some i := by unfold ixN; simp; omega
  rw [this]
  rfl
theorem range_nat {n : Nat} (h : n ≤ 1000000) : rangeO1 (n : Int) = some (rangeL 0 n) := by
  unfold rangeO1
  rw [if_pos ⟨⟨by omega, by omega⟩, by rw [sizeLine_eq]; omega⟩, Int.toNat_natCast]
theorem told_l4_ {w : Nat} {pl : List (List Int)} {bg : List (Int × Int)} (k : Wk w pl bg) (hw : w ≤ 3) {q : Rw} (hq : q.1 ∈ patsW w) : ∀ (n s : Nat) (F : List (Option Int)), s + n = 2 ^ w → F.length = 2 ^ w →
    ∃ F', m_l_told_l4 (w : Nat) ((lnW q.1 : Nat) : Int) q.2 (strike q.1 42) (rangeL ((s : Nat) : Int) n) F = some F' ∧ F'.length = 2 ^ w ∧ ∀ x < 2 ^ w, F'[x]? = if s ≤ x ∧ hitB w q.1 ((x : Nat) : Int) = true then some q.2 else F[x]?
  | 0, s, F, h, hl => by
    refine ⟨F, rfl, hl, fun x hx => ?_⟩
    rw [if_neg (by omega)]
  | n + 1, s, F, h, hl => by
    rw [rangeL_s, m_l_told_l4.eq_2]
    have hs : s < 2 ^ w := by omega
    have ht := k.txt q.1 hq s hs
    unfold textK at ht
    have hlw := (k.len q.1 hq).1
    rw [range_nat (by omega), Option.bind_some]
    cases e1 : m_l_told_c5 (w : Nat) ((s : Nat) : Int) (rangeL 0 (lnW q.1)) with
    | none => rw [e1] at ht; cases ht
    | some ys =>
      rw [e1, Option.bind_some] at ht
      rw [Option.bind_some]
      cases e2 : joinS ("" : Str) ys with
      | none => rw [e2] at ht; cases ht
      | some t =>
        rw [e2] at ht
        rw [Option.bind_some]
        have ht : eqS t (strike q.1 42) = hitB w q.1 ((s : Nat) : Int) := eq_of_beq ht
        rw [ht]
        by_cases hh : hitB w q.1 ((s : Nat) : Int) = true
        · rw [if_pos hh, setL_at (by omega), Option.bind_some]
          obtain ⟨F', e3, l3, h3⟩ := told_l4_ k hw hq n (s + 1) (F.set s q.2) (by omega) (by rw [List.length_set]; exact hl)
          refine ⟨F', e3, l3, fun x hx => ?_⟩
          rw [h3 x hx]
          by_cases hx1 : s + 1 ≤ x
          · by_cases hx2 : hitB w q.1 ((x : Nat) : Int) = true
            · rw [if_pos ⟨hx1, hx2⟩, if_pos ⟨by omega, hx2⟩]
            · rw [if_neg (fun z => hx2 z.2), if_neg (fun z => hx2 z.2), List.getElem?_set_ne (by omega)]
          · rw [if_neg (fun z => hx1 z.1)]
            by_cases hx3 : s = x
            · subst hx3
              rw [if_pos ⟨Nat.le_refl _, hh⟩, List.getElem?_set_self (by omega)]
            · rw [if_neg (fun z => hx3 (by omega)), List.getElem?_set_ne hx3]
        · rw [if_neg hh]
          obtain ⟨F', e3, l3, h3⟩ := told_l4_ k hw hq n (s + 1) F (by omega) hl
          refine ⟨F', e3, l3, fun x hx => ?_⟩
          rw [h3 x hx]
          by_cases hx1 : s + 1 ≤ x
          · by_cases hx2 : hitB w q.1 ((x : Nat) : Int) = true
            · rw [if_pos ⟨hx1, hx2⟩, if_pos ⟨by omega, hx2⟩]
            · rw [if_neg (fun z => hx2 z.2), if_neg (fun z => hx2 z.2)]
          · rw [if_neg (fun z => hx1 z.1)]
            by_cases hx3 : s = x
            · subst hx3
              rw [if_neg (fun z => hh z.2)]
            · rw [if_neg (fun z => hx3 (by omega))]
theorem StT.step {w : Nat} {R D : List Rw} {s : Nat} {x : Int} {v : Option Int} (h : StT w R s D x v) {q : Rw} (hq : q ∈ R) :
    StT w R s (D ++ [q]) x (if lnW q.1 = s ∧ hitB w q.1 x = true then q.2 else v) := by
  by_cases c : lnW q.1 = s ∧ hitB w q.1 x = true
  · rw [if_pos c]
    refine .inl ⟨q, hq, c.2, rfl, .inr ⟨c.1, List.mem_append_right _ (List.mem_singleton.mpr rfl)⟩, fun q' _ _ hs => ?_⟩
    rcases hs with z | z
    · omega
    · omega
  · rw [if_neg c]
    have hsame : ∀ q', hitB w q'.1 x = true → seen s (D ++ [q]) q' → seen s D q' := fun q' hh hs => by
      rcases hs with z | ⟨z1, z2⟩
      · exact .inl z
      · rcases List.mem_append.mp z2 with z3 | z3
        · exact .inr ⟨z1, z3⟩
        · rw [List.mem_singleton.mp z3] at z1 hh
          exact absurd ⟨z1, hh⟩ c
    have hup : ∀ q', seen s D q' → seen s (D ++ [q]) q' := fun q' hs => hs.elim .inl fun z => .inr ⟨z.1, List.mem_append_left _ z.2⟩
    rcases h with ⟨q0, h0, hh, rfl, hs, hm⟩ | ⟨rfl, hm⟩
    · exact .inl ⟨q0, h0, hh, rfl, hup _ hs, fun q' hq' hh' hs' => hm q' hq' hh' (hsame q' hh' hs')⟩
    · exact .inr ⟨rfl, fun q' hq' hh' hs' => hm q' hq' hh' (hsame q' hh' hs')⟩
theorem told_l3_ {w : Nat} {pl : List (List Int)} {bg : List (Int × Int)} (k : Wk w pl bg) (hw : w ≤ 3) {R : List Rw} {s : Nat} : ∀ (L D : List Rw) (F : List (Option Int)), D ++ L = R → (∀ q ∈ R, q.1 ∈ patsW w) → AllT w R s D F →
    ∃ F', m_l_told_l3 (w : Nat) ((s : Nat) : Int) L F = some F' ∧ AllT w R s R F'
  | [], D, F, e, _, h => ⟨F, rfl, by rw [List.append_nil] at e; rw [e] at h; exact h⟩
  | q :: L, D, F, e, hp, h => by
    have hq : q ∈ R := by rw [← e]; exact List.mem_append_right _ (List.mem_cons_self ..)
    rw [m_l_told_l3.eq_2, Option.bind_some]
    have el : (((strike q.1 42).length : Nat) : Int) = ((lnW q.1 : Nat) : Int) := by rw [len_tl]; rfl
    have hpw : (2 : Nat) ^ w ≤ 8 := Nat.pow_le_pow_right (n := 2) (by decide) hw
    rw [el]
    by_cases hs : lnW q.1 = s
    · have c1 : eqI ((lnW q.1 : Nat) : Int) ((s : Nat) : Int) = true := by rw [eqI_iff, hs]; exact decide_eq_true rfl
      rw [if_pos c1, shlI_one (by omega), Option.bind_some]
      rw [range_nat (by omega), Option.bind_some]
      obtain ⟨F', e2, l2, h2⟩ := told_l4_ k hw (hp q hq) (2 ^ w) 0 F (by omega) h.1
      rw [hs] at e2
      have e2 : m_l_told_l4 (w : Nat) ((s : Nat) : Int) q.2 (strike q.1 42) (rangeL 0 (2 ^ w)) F = some F' := e2
      rw [e2, Option.bind_some]
      refine told_l3_ k hw L (D ++ [q]) F' (by rw [List.append_assoc]; exact e) hp ⟨l2, fun x hx => ?_⟩
      obtain ⟨v, ev, hv⟩ := h.2 x hx
      refine ⟨_, ?_, hv.step hq⟩
      rw [h2 x hx, ev]
      by_cases c : hitB w q.1 ((x : Nat) : Int) = true
      · rw [if_pos ⟨Nat.zero_le _, c⟩, if_pos ⟨hs, c⟩]
      · rw [if_neg (fun z => c z.2), if_neg (fun z => c z.2)]
    · have c1 : ¬ eqI ((lnW q.1 : Nat) : Int) ((s : Nat) : Int) = true := by
        rw [eqI_iff, decide_eq_true_eq]
        omega
      rw [if_neg c1]
      refine told_l3_ k hw L (D ++ [q]) F (by rw [List.append_assoc]; exact e) hp ⟨h.1, fun x hx => ?_⟩
      obtain ⟨v, ev, hv⟩ := h.2 x hx
      refine ⟨v, ev, ?_⟩
      have := hv.step hq
      rw [if_neg (fun z => hs z.1)] at this
      exact this
theorem AllT.next {w : Nat} {R : List Rw} {s : Nat} {F : List (Option Int)} (h : AllT w R s R F) : AllT w R (s + 1) [] F := by
  have hu : ∀ q ∈ R, seen s R q ↔ seen (s + 1) [] q := fun q hq => by
    unfold seen
    constructor
    · rintro (z | z)
      · exact .inl (by omega)
      · exact .inl (by omega)
    · rintro (z | z)
      · by_cases c : lnW q.1 = s
        · exact .inr ⟨c, hq⟩
        · exact .inl (by omega)
      · exact absurd z.2 List.not_mem_nil
  refine ⟨h.1, fun x hx => ?_⟩
  obtain ⟨v, ev, hv⟩ := h.2 x hx
  refine ⟨v, ev, ?_⟩
  rcases hv with ⟨q0, h0, hh, rfl, hs, hm⟩ | ⟨rfl, hm⟩
  · exact .inl ⟨q0, h0, hh, rfl, (hu q0 h0).mp hs, fun q' hq' hh' hs' => hm q' hq' hh' ((hu q' hq').mpr hs')⟩
  · exact .inr ⟨rfl, fun q' hq' hh' hs' => hm q' hq' hh' ((hu q' hq').mpr hs')⟩
theorem told_l2_ {w : Nat} {pl : List (List Int)} {bg : List (Int × Int)} (k : Wk w pl bg) (hw : w ≤ 3) {R : List Rw} (hp : ∀ q ∈ R, q.1 ∈ patsW w) : ∀ (n s : Nat) (F : List (Option Int)), AllT w R s [] F →
    ∃ F', m_l_told_l2 R (w : Nat) (rangeL ((s : Nat) : Int) n) F = some F' ∧ AllT w R (s + n) [] F'
  | 0, s, F, h => ⟨F, rfl, h⟩
  | n + 1, s, F, h => by
    rw [rangeL_s, m_l_told_l2.eq_2]
    obtain ⟨F1, e1, h1⟩ := told_l3_ k hw R [] F rfl hp h
    rw [e1, Option.bind_some]
    obtain ⟨F2, e2, h2⟩ := told_l2_ k hw hp n (s + 1) F1 h1.next
    refine ⟨F2, e2, ?_⟩
    rw [show s + (n + 1) = s + 1 + n by omega]
    exact h2
theorem told_c1 : ∀ l : List Int, m_l_told_c1 l = List.replicate l.length none
  | [] => rfl
  | x :: l => by rw [m_l_told_c1.eq_2, told_c1 l, List.length_cons, List.replicate_succ]
theorem told_spec {w : Nat} {pl : List (List Int)} {bg : List (Int × Int)} (k : Wk w pl bg) (hw : w ≤ 3) {R : List Rw} (hp : ∀ q ∈ R, IsPat w q.1) (hn : (R.map (·.1)).Nodup) :
    ∃ F, m_l_told R (w : Nat) = some F ∧ F.length = 2 ^ w ∧ ∀ x < 2 ^ w, F[x]? = some (tellR w R ((x : Nat) : Int)) := by
  have hpw : (2 : Nat) ^ w ≤ 8 := Nat.pow_le_pow_right (n := 2) (by decide) hw
  unfold m_l_told
  rw [shlI_one (by omega), Option.bind_some, range_nat (by omega), Option.bind_some, Option.bind_some, told_c1, rangeL_length]
  rw [show ((w : Nat) : Int) + (1 : Int) = ((w + 1 : Nat) : Int) by omega, range_nat (by omega), Option.bind_some]
  show ∃ F, (Option.bind (m_l_told_l2 R (w : Nat) (rangeL ((0 : Nat) : Int) (w + 1)) (List.replicate (2 ^ w) none)) fun y => some y) = some F ∧ _
  obtain ⟨F, e3, h3⟩ := told_l2_ k hw (R := R) (fun q hq => patsW_mem (hp q hq)) (w + 1) 0 (List.replicate (2 ^ w) none) ⟨List.length_replicate, fun x hx => ⟨none, by rw [List.getElem?_replicate, if_pos hx], .inr ⟨rfl, fun q _ _ hs => hs.elim (fun z => by omega) fun z => absurd z.2 List.not_mem_nil⟩⟩⟩
  refine ⟨F, by rw [e3, Option.bind_some], h3.1, fun x hx => ?_⟩
  obtain ⟨v, ev, hv⟩ := h3.2 x hx
  rw [ev]
  congr 1
  symm
  have hall : ∀ q ∈ R, seen (0 + (w + 1)) [] q := fun q hq => .inl (by have := (k.len q.1 (patsW_mem (hp q hq))).1; omega)
  refine tell_at (by omega) hp hn ?_
  rcases hv with ⟨q0, h0, hh, e, hs, hm⟩ | ⟨e, hm⟩
  · exact .inl ⟨q0, h0, hh, e, fun q' hq' hh' => ((k.len q'.1 (patsW_mem (hp q' hq'))).2 q0.1 (patsW_mem (hp q0 h0))).mp (hm q' hq' hh' (hall q' hq'))⟩
  · refine .inr ⟨e, fun q hq => ?_⟩
    cases c : hitB w q.1 ((x : Nat) : Int) with
    | false => rfl
    | true => exact absurd (hall q hq) (hm q hq c)
end K33
set_option synthInstance.maxSize 1000
set_option synthInstance.maxHeartbeats 400000
namespace K33
open PySem PySem.Spec PyProof.Rows L2 TL G
/-! ### whether rows of chosen patterns can tell -/
theorem c2_filter (ch : VT Int) : ∀ row : List Int, m_l_can_tell_c2 ch row = row.filter fun c => decide (c ∈ ch.l)
  | [] => rfl
  | c :: row => by
    rw [m_l_can_tell_c2.eq_2, List.filter_cons, c2_filter ch row]
theorem atI_nat {α : Type} {xs : List α} {i : Nat} {x : α} (h : xs[i]? = some x) : atI xs (i : Int) = some x := by
  have hi : i < xs.length := by
    rcases Nat.lt_or_ge i xs.length with z | z
    · exact z
    · rw [List.getElem?_eq_none z] at h; cases h
  unfold atI
  have : ixN xs.length (i : Int) = some i := by unfold ixN; simp; omega
  rw [this]
  exact h
theorem dval_dsd_self {xs : List (Int × Option Int)} {c : Int} {v : Option Int} (h : (dval xs c).getD v = v) : dval (dsd xs c v) c = some v := by
  unfold dsd
  by_cases q : (dval xs c).isSome = true
  · rw [if_pos q]
    obtain ⟨v0, e⟩ := Option.isSome_iff_exists.mp q
    rw [e] at h ⊢
    exact congrArg some h
  · rw [if_neg q]
    unfold dput
    rw [if_neg q]
    have hn : dval xs c = none := by
      cases e : dval xs c with
      | none => rfl
      | some z => rw [e] at q; exact absurd rfl q
    unfold dval at hn ⊢
    have hf : xs.find? (fun p => decide (p.1 = c)) = none := by
      cases e : xs.find? (fun p => decide (p.1 = c)) with
      | none => rfl
      | some z => rw [e] at hn; cases hn
    rw [List.find?_append, hf]
    simp
theorem dval_dsd_up {xs : List (Int × Option Int)} {c d : Int} {v u : Option Int} (h : dval xs d = some u) : dval (dsd xs c v) d = some u := by
  unfold dsd
  by_cases q : (dval xs c).isSome = true
  · rw [if_pos q]; exact h
  · rw [if_neg q]
    unfold dput
    rw [if_neg q]
    unfold dval at h ⊢
    cases e : xs.find? (fun p => decide (p.1 = d)) with
    | none => rw [e] at h; cases h
    | some z => rw [e] at h; rw [List.find?_append, e]; exact h
theorem dsd_len (xs : List (Int × Option Int)) (c : Int) (v : Option Int) : (dsd xs c v).length ≤ xs.length + 1 := by
  unfold dsd
  split
  · omega
  · exact dput_len xs c v
def goodX (pl : List (List Int)) (vals : List (Option Int)) (ch : VT Int) (due : List (Int × Option Int)) (x : Nat) : Prop :=
  ∃ row v, pl[x]? = some row ∧ vals[x]? = some v ∧ ((row.filter (fun c => decide (c ∈ ch.l)) = [] ∧ v = none) ∨ ∃ c rest, row.filter (fun c => decide (c ∈ ch.l)) = c :: rest ∧ dval due c = some v)
theorem ct_l1 {w : Nat} {pl : List (List Int)} {bg : List (Int × Int)} (k : Wk w pl bg) {vals : List (Option Int)} (hv : vals.length = 2 ^ w) (ch : VT Int) : ∀ (n s : Nat) (due : List (Int × Option Int)), s + n = 2 ^ w → due.length + n ≤ 1000 →
    m_l_can_tell_l1 ch pl vals (rangeL ((s : Nat) : Int) n) due = some (.ret false) ∨ ∃ due', m_l_can_tell_l1 ch pl vals (rangeL ((s : Nat) : Int) n) due = some (.go due') ∧ (∀ c v, dval due c = some v → dval due' c = some v) ∧ ∀ x, s ≤ x → x < 2 ^ w → goodX pl vals ch due' x
  | 0, s, due, h, _ => .inr ⟨due, rfl, fun _ _ e => e, fun x h1 h2 => by omega⟩
  | n + 1, s, due, h, hl => by
    have hs : s < 2 ^ w := by omega
    obtain ⟨row, er, _⟩ := k.row s hs
    obtain ⟨v, ev⟩ : ∃ v, vals[s]? = some v := ⟨_, List.getElem?_eq_getElem (by omega)⟩
    rw [rangeL_s, m_l_can_tell_l1.eq_2, atI_nat er, Option.bind_some, c2_filter, Option.bind_some, show cutL (row.filter fun c => decide (c ∈ ch.l)) none (some (1 : Int)) = (row.filter fun c => decide (c ∈ ch.l)).take 1 from cutL_to _ 1, atI_nat ev]
    have fin : ∀ {due1 due' : List (Int × Option Int)}, goodX pl vals ch due1 s → (∀ c v, dval due1 c = some v → dval due' c = some v) → (∀ x, s + 1 ≤ x → x < 2 ^ w → goodX pl vals ch due' x) → ∀ x, s ≤ x → x < 2 ^ w → goodX pl vals ch due' x := fun {due1 due'} g up hh x h1 h2 => by
      by_cases c : x = s
      · subst c
        obtain ⟨row, v, e1, e2, z⟩ := g
        refine ⟨row, v, e1, e2, z.imp id ?_⟩
        rintro ⟨c, rest, e3, e4⟩
        exact ⟨c, rest, e3, up _ _ e4⟩
      · exact hh x (by omega) h2
    cases ef : row.filter (fun c => decide (c ∈ ch.l)) with
    | nil =>
      rw [List.take_nil, eqD_refl, if_pos rfl, Option.bind_some, Option.bind_some]
      cases v with
      | some z => exact .inl rfl
      | none =>
        rw [if_neg (by decide), if_neg (by decide)]
        have g : goodX pl vals ch due s := ⟨row, none, er, ev, .inl ⟨ef, rfl⟩⟩
        rcases ct_l1 k hv ch n (s + 1) due (by omega) (by omega) with z | ⟨due', e1, up, hh⟩
        · exact .inl z
        · exact .inr ⟨due', e1, up, fin g up hh⟩
    | cons c rest =>
      have e1 : eqD ((c :: rest).take 1) ([] : List Int) = false := eqD_false (by simp)
      rw [e1, if_neg (by decide), Option.bind_some, if_neg (by decide), if_pos (by decide), show ((c :: rest).take 1) = [c] from by simp, show atI [c] (0 : Int) = some c from rfl, Option.bind_some, Option.bind_some]
      have e2 : dsdO due c v = some (dsd due c v) := by
        unfold dsdO
        rw [if_pos (by rw [sizeLine_eq]; omega)]
      rw [e2, Option.bind_some, Option.bind_some]
      by_cases hq : (dval due c).getD v = v
      · rw [hq, eqD_refl, if_neg (by decide)]
        have g : goodX pl vals ch (dsd due c v) s := ⟨row, v, er, ev, .inr ⟨c, rest, ef, dval_dsd_self hq⟩⟩
        have hlen := dsd_len due c v
        rcases ct_l1 k hv ch n (s + 1) (dsd due c v) (by omega) (by omega) with z | ⟨due', e1, up, hh⟩
        · exact .inl z
        · exact .inr ⟨due', e1, fun c' v' e => up _ _ (dval_dsd_up e), fin g up hh⟩
      · rw [eqD_false hq, if_pos (by decide)]
        exact .inl rfl
theorem ris_sort {l : List Rw} (hn : (l.map (·.1)).Nodup) : Ris (sortR l) := by
  have h2 : ((sortR l).map (·.1)).Nodup := ((sortR_perm l).map _).nodup_iff.mpr hn
  have h3 : (sortR l).Pairwise fun p q => p.1 ≠ q.1 := List.pairwise_map.mp h2
  exact ((sortR_sorted l).and h3).imp fun {p q} ⟨h1, h2⟩ => by
    have h1 : tl p.1 ≤ tl q.1 := of_decide_eq_true h1
    apply List.not_le.mp
    intro h4
    exact h2 (tl_eq (List.le_antisymm h1 h4))
/-- a choice of rows: rising places of patterns -/
structure Chosen (N j : Nat) (r : VT Int) : Prop where
  len : r.l.length = j
  rise : r.l.Pairwise (· < ·)
  in_ : ∀ c ∈ r.l, 0 ≤ c ∧ c < (N : Int)
theorem pAt_nat {w : Nat} {c : Int} (h0 : 0 ≤ c) (h1 : c < ((patsW w).length : Nat)) : ∃ p, (patsW w)[c.toNat]? = some p ∧ pAt w c = p ∧ p ∈ patsW w := by
  have : c.toNat < (patsW w).length := by omega
  refine ⟨(patsW w)[c.toNat], List.getElem?_eq_getElem this, ?_, List.getElem_mem _⟩
  unfold pAt
  rw [List.getElem?_eq_getElem this]
  rfl
theorem pAt_inj {w : Nat} (hn : (patsW w).Nodup) {c d : Int} (hc : 0 ≤ c ∧ c < ((patsW w).length : Nat)) (hd : 0 ≤ d ∧ d < ((patsW w).length : Nat)) (h : pAt w c = pAt w d) : c = d := by
  obtain ⟨p, e1, e2, _⟩ := pAt_nat hc.1 hc.2
  obtain ⟨q, e3, e4, _⟩ := pAt_nat hd.1 hd.2
  have hcl : c.toNat < (patsW w).length := by omega
  have hdl : d.toNat < (patsW w).length := by omega
  rw [List.getElem?_eq_getElem hcl] at e1
  rw [List.getElem?_eq_getElem hdl] at e3
  have e5 : (patsW w)[c.toNat] = (patsW w)[d.toNat] := by rw [Option.some.inj e1, Option.some.inj e3, ← e2, ← e4, h]
  have hp := List.pairwise_iff_getElem.mp hn
  rcases Nat.lt_trichotomy c.toNat d.toNat with z | z | z
  · exact absurd e5 (hp _ _ hcl hdl z)
  · omega
  · exact absurd e5.symm (hp _ _ hdl hcl z)
theorem can_tell_no {w : Nat} {pl : List (List Int)} {bg : List (Int × Int)} (k : Wk w pl bg) (hw : w ≤ 3) {vals : List (Option Int)} {g : Int → Option Int} (hv : vals.length = 2 ^ w) (hg : ∀ x < 2 ^ w, vals[x]? = some (g ((x : Nat) : Int))) {j : Nat} {ch : VT Int} (hc : Chosen (patsW w).length j ch) (hj : j < (tabT w g).length) :
    m_l_can_tell ch pl vals = some false := by
  have hpw : (2 : Nat) ^ w ≤ 8 := Nat.pow_le_pow_right (n := 2) (by decide) hw
  unfold m_l_can_tell
  rw [Option.bind_some, k.lpl, range_nat (by omega), Option.bind_some]
  rcases ct_l1 k hv ch (2 ^ w) 0 [] (by omega) (by simp only [List.length_nil]; omega) with z | ⟨due, _, _, hh⟩
  · have z : m_l_can_tell_l1 ch pl vals (rangeL 0 (2 ^ w)) [] = some (.ret false) := z
    rw [z]
    rfl
  · exfalso
    obtain ⟨R0, hR0⟩ : ∃ R0 : List Rw, R0 = ch.l.map fun c => (pAt w c, (dval due c).getD none) := ⟨_, rfl⟩
    have hnd : (R0.map (·.1)).Nodup := by
      rw [hR0, List.map_map]
      refine List.pairwise_map.mpr ?_
      refine List.Pairwise.imp_of_mem (fun {c d} h1 h2 k2 e => ?_) hc.rise
      have := pAt_inj k.nod (hc.in_ c h1) (hc.in_ d h2) e
      omega
    have hpat : ∀ q ∈ sortR R0, IsPat w q.1 := fun q hq => by
      have hq := (sortR_perm R0).mem_iff.mp hq
      rw [hR0] at hq
      obtain ⟨c, hcm, rfl⟩ := List.mem_map.mp hq
      obtain ⟨p, _, e, hp⟩ := pAt_nat (hc.in_ c hcm).1 (hc.in_ c hcm).2
      show IsPat w (pAt w c)
      rw [e]
      exact isPB_is (k.pat p hp)
    have hnd2 : ((sortR R0).map (·.1)).Nodup := ((sortR_perm R0).map _).nodup_iff.mpr hnd
    have hleast := tab_least (w := w) (by omega) (g := g) (R := sortR R0) hpat (ris_sort hnd) fun x x0 x1 => by
      obtain ⟨m, rfl⟩ : ∃ m : Nat, x = (m : Int) := ⟨x.toNat, by omega⟩
      have hm : m < 2 ^ w := by omega
      obtain ⟨row, v, er, ev, hgood⟩ := hh m (Nat.zero_le _) hm
      have hvg : v = g (m : Int) := Option.some.inj (ev.symm.trans (hg m hm))
      obtain ⟨row', er', hrow⟩ := k.row m hm
      obtain rfl : row = row' := Option.some.inj (er.symm.trans er')
      unfold rowK at hrow
      rw [Bool.and_eq_true, Bool.and_eq_true, decide_eq_true_eq, List.all_eq_true, List.all_eq_true] at hrow
      obtain ⟨⟨hin, hhit⟩, hpw2⟩ := hrow
      have hmem : ∀ c ∈ ch.l, hitB w (pAt w c) (m : Int) = true → c ∈ row := fun c hcm hb => by
        have h1 := hc.in_ c hcm
        have := eq_of_beq (hhit c.toNat (List.mem_range.mpr (by omega)))
        rw [Int.toNat_of_nonneg h1.1, hb] at this
        exact of_decide_eq_true this
      have hmem2 : ∀ c ∈ row, c ∈ ch.l → hitB w (pAt w c) (m : Int) = true := fun c hr hcm => by
        have h1 := hc.in_ c hcm
        have := eq_of_beq (hhit c.toNat (List.mem_range.mpr (by omega)))
        rw [Int.toNat_of_nonneg h1.1] at this
        rw [← this]
        exact decide_eq_true hr
      rw [← hvg]
      refine tell_at (by omega) hpat hnd2 ?_
      rcases hgood with ⟨ef, rfl⟩ | ⟨c0, rest, ef, ed⟩
      · refine .inr ⟨rfl, fun q hq => ?_⟩
        have hq := (sortR_perm R0).mem_iff.mp hq
        rw [hR0] at hq
        obtain ⟨c, hcm, rfl⟩ := List.mem_map.mp hq
        cases hb : hitB w (pAt w c) (m : Int) with
        | false => rfl
        | true =>
          have : c ∈ row.filter fun c => decide (c ∈ ch.l) := List.mem_filter.mpr ⟨hmem c hcm hb, decide_eq_true hcm⟩
          rw [ef] at this
          exact absurd this List.not_mem_nil
      · have h0 : c0 ∈ row.filter fun c => decide (c ∈ ch.l) := by rw [ef]; exact List.mem_cons_self ..
        have h01 := (List.mem_filter.mp h0).1
        have h02 : c0 ∈ ch.l := of_decide_eq_true (List.mem_filter.mp h0).2
        refine .inl ⟨(pAt w c0, (dval due c0).getD none), (sortR_perm R0).mem_iff.mpr (by rw [hR0]; exact List.mem_map.mpr ⟨c0, h02, rfl⟩), hmem2 c0 h01 h02, by rw [ed]; rfl, fun q' hq' hb => ?_⟩
        have hq' := (sortR_perm R0).mem_iff.mp hq'
        rw [hR0] at hq'
        obtain ⟨c, hcm, rfl⟩ := List.mem_map.mp hq'
        have hcr : c ∈ row.filter fun c => decide (c ∈ ch.l) := List.mem_filter.mpr ⟨hmem c hcm hb, decide_eq_true hcm⟩
        have hp3 := List.Pairwise.filter (fun c => decide (c ∈ ch.l)) hpw2
        rw [ef] at hcr hp3
        rcases List.mem_cons.mp hcr with rfl | z
        · exact Int.le_refl _
        · exact Int.le_of_lt ((List.pairwise_cons.mp hp3).1 c z)
    rw [sortR_len, hR0, List.length_map, hc.len] at hleast
    omega
end K33
set_option synthInstance.maxSize 1000
set_option synthInstance.maxHeartbeats 400000
namespace K33
open PySem PySem.Spec PyProof.Rows L2 TL G
/-! ### all choices -/
def lst (r : VT Int) : Int := match r.l.getLast? with
  | none => 0
  | some c => c + 1
def wt (N : Nat) (r : VT Int) : Nat := 2 ^ (N - (lst r).toNat)
theorem wt_pos (N : Nat) (r : VT Int) : 1 ≤ wt N r := Nat.pow_pos (by decide)
theorem lst_snoc (l : List Int) (i : Int) : lst (VT.mk (l ++ [i])) = i + 1 := by
  unfold lst
  rw [show (VT.mk (l ++ [i]) : VT Int).l = l ++ [i] from rfl, List.getLast?_append]
  rfl
theorem Chosen.lst {N j : Nat} {r : VT Int} (h : Chosen N j r) : 0 ≤ lst r ∧ lst r ≤ (N : Int) ∧ ∀ c ∈ r.l, c < K33.lst r := by
  unfold K33.lst
  cases e : r.l.getLast? with
  | none =>
    refine ⟨Int.le_refl _, (by omega : (0 : Int) ≤ (N : Int)), fun c hc => ?_⟩
    rw [List.getLast?_eq_none_iff.mp e] at hc
    exact absurd hc List.not_mem_nil
  | some c =>
    obtain ⟨ys, e2⟩ := List.getLast?_eq_some_iff.mp e
    have hm : c ∈ r.l := by rw [e2]; exact List.mem_append_right _ (List.mem_singleton.mpr rfl)
    have h1 := h.in_ c hm
    refine ⟨by show 0 ≤ c + 1; omega, by show c + 1 ≤ _; omega, fun d hd => ?_⟩
    show d < c + 1
    rw [e2] at hd
    rcases List.mem_append.mp hd with z | z
    · have hr := h.rise
      rw [e2] at hr
      have := (List.pairwise_append.mp hr).2.2 d z c (List.mem_singleton.mpr rfl)
      omega
    · rw [List.mem_singleton.mp z]
      omega
theorem rise_len {N : Nat} : ∀ (l : List Int) (a : Int), 0 ≤ a → a ≤ (N : Int) → l.Pairwise (· < ·) → (∀ c ∈ l, a ≤ c ∧ c < (N : Int)) → (l.length : Int) + a ≤ (N : Int)
  | [], a, _, h, _, _ => by rw [List.length_nil]; omega
  | c :: l, a, h0, h1, hr, hin => by
    have hc := hin c (List.mem_cons_self ..)
    have hp := List.pairwise_cons.mp hr
    have := rise_len (N := N) l (c + 1) (by omega) (by omega) hp.2 fun d hd => ⟨by have := hp.1 d hd; omega, (hin d (List.mem_cons_of_mem _ hd)).2⟩
    rw [List.length_cons]
    omega
theorem Chosen.few {N j : Nat} {r : VT Int} (h : Chosen N j r) : r.l.length ≤ N := by
  have := rise_len (N := N) r.l 0 (by omega) (by omega) h.rise h.in_
  omega
theorem choices_c3_ {r : VT Int} (h : r.l.length ≤ 900) : ∀ l : List Int, m_l_choices_c3 r l = some (l.map fun i => VT.mk (r.l ++ [i]))
  | [] => rfl
  | i :: l => by
    have e : conV r (VT.mk [(T1.mk i).a] : VT Int) = some (VT.mk (r.l ++ [i])) := by
      unfold conV
      rw [if_pos (by rw [sizeLine_eq]; simp only [List.length_cons, List.length_nil]; omega)]
    rw [m_l_choices_c3.eq_2, e, Option.bind_some, choices_c3_ h l, Option.bind_some]
    rfl
theorem wt_sum {N : Nat} (l0 : List Int) : ∀ (n a : Nat), a + n = N → (((rangeL ((a : Nat) : Int) n).map fun i => (VT.mk (l0 ++ [i]) : VT Int)).map (wt N)).sum + 1 ≤ 2 ^ n
  | 0, a, _ => by
    show 0 + 1 ≤ 1
    omega
  | n + 1, a, h => by
    rw [rangeL_s, List.map_cons, List.map_cons, List.sum_cons]
    have ih := wt_sum (N := N) l0 n (a + 1) (by omega)
    have e : wt N (VT.mk (l0 ++ [((a : Nat) : Int)])) = 2 ^ n := by
      unfold wt
      rw [lst_snoc, show N - (((a : Nat) : Int) + 1).toNat = n by omega]
    rw [e, Nat.pow_succ]
    omega
theorem sum_len {N : Nat} : ∀ L : List (VT Int), L.length ≤ (L.map (wt N)).sum
  | [] => Nat.le_refl _
  | r :: L => by
    rw [List.length_cons, List.map_cons, List.sum_cons]
    have := sum_len (N := N) L
    have := wt_pos N r
    omega
theorem choices_l2_ {N j : Nat} (hN : N ≤ 15) : ∀ (L F : List (VT Int)), (∀ r ∈ L, Chosen N j r) → F.length + (L.map (wt N)).sum ≤ 100000 →
    ∃ E, m_l_choices_l2 (N : Int) L F = some (F ++ E) ∧ (∀ r ∈ E, Chosen N (j + 1) r) ∧ (E.map (wt N)).sum ≤ (L.map (wt N)).sum
  | [], F, _, _ => ⟨[], by rw [m_l_choices_l2.eq_1, List.append_nil], fun r hr => absurd hr List.not_mem_nil, Nat.le_refl _⟩
  | r :: L, F, h, hl => by
    have hr := h r (List.mem_cons_self ..)
    obtain ⟨a0, a1, a2⟩ := hr.lst
    rw [List.map_cons, List.sum_cons] at hl
    have e1 : (if (eqD r (VT.mk [] : (VT Int))) then ( some ((0 : Int))) else (Option.bind (atI (r).l (((((r).l).length : Nat) : Int) - (1 : Int))) fun t98 => some ((t98 + (1 : Int))))) = some (lst r) := by
      by_cases c : r = VT.mk []
      · subst c
        rw [eqD_refl, if_pos rfl]
        rfl
      · rw [eqD_false c, if_neg (by decide)]
        have hne : r.l ≠ [] := fun z => c (by cases r; exact congrArg VT.mk z)
        have hp : 0 < r.l.length := List.length_pos_iff.mpr hne
        have e2 : r.l[r.l.length - 1]? = some (r.l.getLast hne) := by
          rw [List.getElem?_eq_getElem (by omega), List.getLast_eq_getElem]
        have e3 : (((r.l.length : Nat) : Int) - (1 : Int)) = ((r.l.length - 1 : Nat) : Int) := by omega
        rw [e3, atI_nat e2, Option.bind_some]
        unfold lst
        rw [List.getLast?_eq_some_getLast hne]
    obtain ⟨a, ea⟩ : ∃ a : Nat, lst r = (a : Int) := ⟨(lst r).toNat, by omega⟩
    have e4 : rangeO (lst r) (N : Int) = some (rangeL ((a : Nat) : Int) (N - a)) := by
      unfold rangeO
      rw [ea, if_pos ⟨⟨by omega, by omega, by omega, by omega⟩, by rw [sizeLine_eq]; omega⟩]
      congr 2
      omega
    have hlen := hr.len
    have hfew := hr.few
    obtain ⟨X, hX⟩ : ∃ X : List (VT Int), X = (rangeL ((a : Nat) : Int) (N - a)).map fun i => VT.mk (r.l ++ [i]) := ⟨_, rfl⟩
    have hsum : (X.map (wt N)).sum + 1 ≤ wt N r := by
      rw [hX]
      have := wt_sum (N := N) r.l (N - a) a (by omega)
      unfold wt at this ⊢
      rw [ea, Int.toNat_natCast]
      exact this
    have hxl := sum_len (N := N) X
    rw [m_l_choices_l2.eq_2, e1, Option.bind_some, e4, Option.bind_some, choices_c3_ (by omega), Option.bind_some, ← hX, conL_some (by omega), Option.bind_some]
    obtain ⟨E, e5, h5, h6⟩ := choices_l2_ hN L (F ++ X) (fun z hz => h z (List.mem_cons_of_mem _ hz)) (by rw [List.length_append]; omega)
    refine ⟨X ++ E, by rw [e5, List.append_assoc], fun z hz => ?_, by rw [List.map_append, List.sum_append, List.map_cons, List.sum_cons]; omega⟩
    rcases List.mem_append.mp hz with hz | hz
    · rw [hX] at hz
      obtain ⟨i, hi, rfl⟩ := List.mem_map.mp hz
      have hi2 : (a : Int) ≤ i ∧ i < (N : Int) := by
        unfold rangeL at hi
        obtain ⟨q, hq, rfl⟩ := List.mem_map.mp hi
        have := List.mem_range.mp hq
        omega
      refine ⟨by show (r.l ++ [i]).length = _; rw [List.length_append, hlen]; rfl, ?_, fun c hc => ?_⟩
      · show (r.l ++ [i]).Pairwise (· < ·)
        refine List.pairwise_append.mpr ⟨hr.rise, List.pairwise_singleton _ _, fun c hc d hd => ?_⟩
        rw [List.mem_singleton.mp hd]
        have := a2 c hc
        omega
      · have hc : c ∈ r.l ++ [i] := hc
        rcases List.mem_append.mp hc with z | z
        · exact hr.in_ c z
        · rw [List.mem_singleton.mp z]
          omega
    · exact h5 z hz
theorem choices_l1_ {N : Nat} (hN : N ≤ 15) : ∀ (l : List Int) (j : Nat) (F : List (VT Int)), (∀ r ∈ F, Chosen N j r) → (F.map (wt N)).sum ≤ 2 ^ N →
    ∃ E, m_l_choices_l1 (N : Int) l F = some E ∧ ∀ r ∈ E, Chosen N (j + l.length) r
  | [], j, F, h, _ => ⟨F, rfl, h⟩
  | x :: l, j, F, h, hs => by
    have hp : (2 : Nat) ^ N ≤ 2 ^ 15 := Nat.pow_le_pow_right (by decide) hN
    rw [m_l_choices_l1.eq_2, Option.bind_some]
    obtain ⟨E, e1, h1, h2⟩ := choices_l2_ hN (j := j) F [] h (by simp only [List.length_nil]; omega)
    rw [e1, Option.bind_some, List.nil_append]
    obtain ⟨E2, e2, h3⟩ := choices_l1_ hN l (j + 1) E h1 (by omega)
    refine ⟨E2, e2, ?_⟩
    rw [List.length_cons, show j + (l.length + 1) = j + 1 + l.length by omega]
    exact h3
theorem choices_spec {N j : Nat} (hN : N ≤ 15) (hj : j ≤ 1000000) : ∃ E, m_l_choices (N : Int) (j : Int) = some E ∧ ∀ r ∈ E, Chosen N j r := by
  unfold m_l_choices
  rw [Option.bind_some, range_nat (by omega), Option.bind_some]
  obtain ⟨E, e, h⟩ := choices_l1_ hN (rangeL 0 j) 0 [VT.mk []] (fun r hr => by
    rw [List.mem_singleton.mp hr]
    exact ⟨rfl, List.Pairwise.nil, fun c hc => absurd hc List.not_mem_nil⟩) (by
    show 2 ^ (N - 0) + 0 ≤ 2 ^ N
    rw [Nat.sub_zero]
    omega)
  rw [e, Option.bind_some]
  rw [rangeL_length, Nat.zero_add] at h
  exact ⟨E, rfl, h⟩
/-! ### the law -/
def gV (vals : List (Option Int)) (x : Int) : Option Int := (vals[x.toNat]?).getD none
theorem right_c1_ {vals : List (Option Int)} : ∀ (n s : Nat), s + n = vals.length → ∃ P : List Pt, m_l_right_c1 vals (rangeL ((s : Nat) : Int) n) = some P ∧ Cn ((s : Nat) : Int) ((vals.length : Nat) : Int) P ∧ VP (gV vals) P ∧ P.length = n
  | 0, s, h => ⟨[], rfl, by show ((s : Nat) : Int) = _; omega, fun p hp => absurd hp List.not_mem_nil, rfl⟩
  | n + 1, s, h => by
    obtain ⟨v, ev⟩ : ∃ v, vals[s]? = some v := ⟨_, List.getElem?_eq_getElem (by omega)⟩
    obtain ⟨P, e, c, hv, hl⟩ := right_c1_ (vals := vals) n (s + 1) (by omega)
    rw [rangeL_s, m_l_right_c1.eq_2, atI_nat ev, Option.bind_some, e, Option.bind_some]
    have es : ((s : Nat) : Int) + (1 : Int) = ((s + 1 : Nat) : Int) := by omega
    refine ⟨_, rfl, ⟨rfl, (by show ((s : Nat) : Int) < ((s : Nat) : Int) + 1; omega : _), by show Cn (((s : Nat) : Int) + 1) _ P; rw [es]; exact c⟩, fun p hp x h0 h1 => ?_, by rw [List.length_cons, hl]⟩
    rcases List.mem_cons.mp hp with rfl | hp
    · have h0 : ((s : Nat) : Int) ≤ x := h0
      have h1 : x < ((s : Nat) : Int) + 1 := h1
      unfold gV
      rw [show x.toNat = s by omega, ev]
      rfl
    · exact hv p hp x h0 h1
theorem right_true {w : Nat} (hw : w = 1 ∨ w = 2 ∨ w = 3) {vals : List (Option Int)} (hv : vals.length = 2 ^ w) : m_l_right (w : Nat) vals = some true := by
  obtain ⟨pl, bg, k⟩ := wk_all hw
  have hw3 : w ≤ 3 := by omega
  have hpw : (2 : Nat) ^ w ≤ 8 := Nat.pow_le_pow_right (n := 2) (by decide) hw3
  obtain ⟨P, eP, cP, vP, lP⟩ := right_c1_ (vals := vals) vals.length 0 (by omega)
  have eP : m_l_right_c1 vals (rangeL 0 vals.length) = some P := eP
  have cP : Cn 0 ((2 ^ w : Nat) : Int) P := by rw [hv] at cP; exact cP
  obtain ⟨hT, hTl⟩ := table_of_tab (w := w) (by omega) (by omega) cP vP
  have hg : ∀ x < 2 ^ w, vals[x]? = some (gV vals ((x : Nat) : Int)) := fun x hx => by
    unfold gV
    rw [Int.toNat_natCast, List.getElem?_eq_getElem (by omega)]
    rfl
  obtain ⟨F, eF, lF, hF⟩ := told_spec k hw3 (R := tabT w (gV vals)) tabT_pat (ris_nodup tabT_rise)
  have hFv : F = vals := by
    refine List.ext_getElem? fun x => ?_
    by_cases hx : x < 2 ^ w
    · rw [hF x hx, hg x hx, tabT_tell (by omega) _ (by omega) (by omega)]
    · rw [List.getElem?_eq_none (by omega), List.getElem?_eq_none (by omega)]
  unfold m_l_right
  rw [range_nat (by omega), Option.bind_some, eP, Option.bind_some, hT, Option.bind_some, eF, Option.bind_some, hFv, eqD_refl, if_neg (by decide), k.epl, Option.bind_some]
  obtain ⟨r, hr⟩ : ∃ r, r = (tabT w (gV vals)).length := ⟨_, rfl⟩
  rw [← hr] at hTl ⊢
  by_cases c : r = 0
  · rw [if_pos (by rw [eqI_iff, c]; rfl)]
  · rw [if_neg (by rw [eqI_iff, decide_eq_true_eq]; omega), k.ebg, Option.bind_some, k.lbg, show ((r : Nat) : Int) - (1 : Int) = ((r - 1 : Nat) : Int) by omega]
    obtain ⟨E, eE, hE⟩ := choices_spec (N := (patsW w).length) (j := r - 1) k.few (by omega)
    rw [eE, Option.bind_some]
    have hl2 : ∀ L : List (VT Int), (∀ z ∈ L, Chosen (patsW w).length (r - 1) z) → m_l_right_l2 vals pl L = some (.go ()) := fun L => by
      induction L with
      | nil => exact fun _ => rfl
      | cons z L ih =>
        intro h
        rw [m_l_right_l2.eq_2, can_tell_no k hw3 hv hg (h z (List.mem_cons_self ..)) (by omega), Option.bind_some, if_neg (by decide)]
        exact ih fun y hy => h y (List.mem_cons_of_mem _ hy)
    rw [hl2 E hE]
    rfl
theorem law_c2_ : ∀ (l : List Int) (b : Bag), BOk b → O2 BOk (m_law_c2 l b) fun r => r.length = l.length
  | [], b, hb => O2.ret hb rfl
  | x :: l, b, hb => by
    rw [m_law_c2.eq_2]
    refine O2.bind (draw_O hb (by decide) (by decide)) fun r b hb hr => ?_
    refine O2.bind1 (atI_O (P := fun _ => True) hr.1 hr.2 fun _ _ => trivial) fun v _ => ?_
    exact O2.bind (law_c2_ l b hb) fun r b hb hr => O2.ret hb (by rw [List.length_cons, List.length_cons, hr])
theorem law_c3_ {pool : List (Option Int)} (h0 : 0 < pool.length) (h1 : pool.length < 100) : ∀ (l : List Int) (b : Bag), BOk b → O2 BOk (m_law_c3 pool l b) fun r => r.length = l.length
  | [], b, hb => O2.ret hb rfl
  | x :: l, b, hb => by
    rw [m_law_c3.eq_2]
    refine O2.bind (draw_O hb (by omega) (by omega)) fun r b hb hr => ?_
    refine O2.bind1 (atI_O (P := fun _ => True) hr.1 hr.2 fun _ _ => trivial) fun v _ => ?_
    exact O2.bind (law_c3_ h0 h1 l b hb) fun r b hb hr => O2.ret hb (by rw [List.length_cons, List.length_cons, hr])
theorem law_l1_ : ∀ (l : List Int) (b : Bag), BOk b → OL BOk (m_law_l1 l b)
  | [], b, hb => OL.ret hb
  | x :: l, b, hb => by
    rw [m_law_l1.eq_2]
    refine OL.bind (draw_O hb (by decide) (by decide)) fun r b hb hr => ?_
    refine OL.bind1 (atI_O (P := fun z => z = 1 ∨ z = 2) hr.1 hr.2 fun z hz => ?_) fun z hz => ?_
    · simp only [List.mem_cons, List.not_mem_nil, or_false] at hz
      omega
    obtain ⟨w, rfl, hw⟩ : ∃ w : Nat, z = (w : Int) ∧ (w = 1 ∨ w = 2) := ⟨z.toNat, by omega, by omega⟩
    have hpw : (2 : Nat) ^ w ≤ 8 := Nat.pow_le_pow_right (n := 2) (by decide) (by omega : w ≤ 3)
    rw [shlI_one (by omega), Option.bind_some, range_nat (by omega), Option.bind_some]
    refine OL.bind (law_c2_ _ b hb) fun vals b hb hv => ?_
    rw [rangeL_length] at hv
    rw [right_true (by omega) hv, Option.bind_some]
    rw [if_neg (by decide)]
    exact law_l1_ l b hb
theorem law_true (b : Bag) (hb : BOk b) (n : Nat) (hn : n ≤ 63) : ∃ b', m_law b n = some (true, b') := by
  unfold m_law
  obtain ⟨l, e, _⟩ := rangeO1_O (n := (3 : Int) + (if ((n : Nat) : Int) < (6 : Int) then ((n : Nat) : Int) else (6 : Int))) (P := fun _ => True) (by split <;> omega) (by split <;> omega) trivial
  obtain ⟨b1, e1, hb1⟩ := law_l1_ l b hb
  rw [e, Option.bind_some, e1, bL1_go]
  refine O2.true_ (I := BOk) (O2.bind (draw_O hb1 (by decide) (by decide)) fun r b hb hr => ?_)
  refine O2.bind1 (atI_O (P := fun p : List (Option Int) => 0 < p.length ∧ p.length < 100) hr.1 hr.2 fun p hp => ?_) fun p hp => ?_
  · simp only [List.mem_cons, List.not_mem_nil, or_false] at hp
    rcases hp with rfl | rfl | rfl | rfl | rfl <;> exact ⟨by decide, by decide⟩
  refine O2.bind (law_c3_ hp.1 hp.2 _ b hb) fun vals b hb hv => ?_
  have hv : vals.length = 2 ^ 3 := hv
  have := right_true (w := 3) (by omega) hv
  rw [show m_l_right (3 : Int) vals = some true from this, Option.bind_some]
  exact O2.ret hb rfl
end K33
set_option synthInstance.maxSize 1000
set_option synthInstance.maxHeartbeats 400000
namespace K33
open PySem PySem.Spec PyProof.Rows L2 TL G
def dd_wanted : He.DefD := ⟨("wanted", none), "wanted", "wanted", defArgs s_wanted, defBody s_wanted, defScope s_wanted, [], []⟩
def dd_chosen : He.DefD := ⟨("chosen", none), "chosen", "chosen", defArgs s_chosen, defBody s_chosen, defScope s_chosen, [], []⟩
def dd_rows_below : He.DefD := ⟨("rows_below", none), "rows_below", "rows_below", defArgs s_rows_below, defBody s_rows_below, defScope s_rows_below, [], []⟩
def dd_table_of : He.DefD := ⟨("table_of", none), "table_of", "table_of", defArgs s_table_of, defBody s_table_of, defScope s_table_of, [], []⟩
def dd_l_bag : He.DefD := ⟨("_law_bag", none), "_law_bag", "_law_bag", defArgs s_l_bag, defBody s_l_bag, defScope s_l_bag, [], []⟩
def dd_l_stirred : He.DefD := ⟨("_law_stirred", none), "_law_stirred", "_law_stirred", defArgs s_l_stirred, defBody s_l_stirred, defScope s_l_stirred, [], []⟩
def dd_l_draw : He.DefD := ⟨("_law_draw", none), "_law_draw", "_law_draw", defArgs s_l_draw, defBody s_l_draw, defScope s_l_draw, [], []⟩
def dd_l_choices : He.DefD := ⟨("_law_choices", none), "_law_choices", "_law_choices", defArgs s_l_choices, defBody s_l_choices, defScope s_l_choices, [], []⟩
def dd_l_beginnings : He.DefD := ⟨("_law_beginnings", none), "_law_beginnings", "_law_beginnings", defArgs s_l_beginnings, defBody s_l_beginnings, defScope s_l_beginnings, [], []⟩
def dd_l_places : He.DefD := ⟨("_law_places", none), "_law_places", "_law_places", defArgs s_l_places, defBody s_l_places, defScope s_l_places, [], []⟩
def dd_l_can_tell : He.DefD := ⟨("_law_can_tell", none), "_law_can_tell", "_law_can_tell", defArgs s_l_can_tell, defBody s_l_can_tell, defScope s_l_can_tell, [], []⟩
def dd_l_told : He.DefD := ⟨("_law_told", none), "_law_told", "_law_told", defArgs s_l_told, defBody s_l_told, defScope s_l_told, [], []⟩
def dd_l_right : He.DefD := ⟨("_law_right", none), "_law_right", "_law_right", defArgs s_l_right, defBody s_l_right, defScope s_l_right, [], []⟩
def dd_law : He.DefD := ⟨("law", none), "law", "law", defArgs s_law, defBody s_law, defScope s_law, [], []⟩
def fnL : List He.DefD := [dd_wanted, dd_chosen, dd_rows_below, dd_table_of, dd_l_bag, dd_l_stirred, dd_l_draw, dd_l_choices, dd_l_beginnings, dd_l_places, dd_l_can_tell, dd_l_told, dd_l_right, dd_law]
def faL : List He.Fa := [.glo "wanted", .glo "chosen", .glo "rows_below", .glo "table_of", .glo "_law_bag", .glo "_law_stirred", .glo "_law_draw", .glo "_law_choices", .glo "_law_beginnings", .glo "_law_places", .glo "_law_can_tell", .glo "_law_told", .glo "_law_right", .glo "law", .free "abs", .free "int", .free "len", .free "list", .free "min", .free "range", .free "str", .free "zip", .str "STAR" "*"]
abbrev RR : PySem.W.OpenRow := PySem.W.OpenLaw.row PySem.Challenge.rw_wishnet_k33_whole_no_fewer_rows_by_trial
abbrev hk : PySem.W.Hook := He.hookD 4 faL fnL
def ob (s : PySem.W.SharedT) : He.AlD := He.obsDG 4 faL fnL (HandSHeadRun.getT s)
theorem ob_eq (s : PySem.W.SharedT) : ob s = hk.obs s.abs := He.obsDG_eq (HandSHeadRun.getT_eq s)
def looseL : List Str := ["STAR", "wanted", "chosen", "rows_below", "table_of", "_law_bag", "_law_stirred", "_law_draw", "_law_choices", "_law_beginnings", "_law_places", "_law_can_tell", "_law_told", "_law_right"]
theorem run_top (w : World) : HandSHeadRun.RunEq RR (PySem.W.view RR.prog [16]) hk ob 4000 looseL w := by
  intro os
  kernel_rfl
theorem facts {P : Program} {w : World} {K : PySem.W.Frag} {h : Heap} {mg : Str → Option Value} {f : Addr} (X : K.In h) (Gh : h.Ns mainGlobals mg) (hfa : mg ("law" : Str) = some (.ref f)) (c : He.SaysD faL fnL K) :
    ∃ fd : FuncData, (∀ (s : Shared) (v : Value), BindsTo s fd ⟨[v], []⟩ [("_law_script", v)]) ∧ ∀ base : Heap, K.In base → base.Ns mainGlobals mg → FnOk P w K mg base CX0 44 f fd ["_law_script"] (sp_law K) := by
  obtain ⟨d0, F0⟩ := c.def_ 0 (d := dd_wanted) rfl
  obtain ⟨d1, F1⟩ := c.def_ 1 (d := dd_chosen) rfl
  obtain ⟨d2, F2⟩ := c.def_ 2 (d := dd_rows_below) rfl
  obtain ⟨d3, F3⟩ := c.def_ 3 (d := dd_table_of) rfl
  obtain ⟨d4, F4⟩ := c.def_ 4 (d := dd_l_bag) rfl
  obtain ⟨d5, F5⟩ := c.def_ 5 (d := dd_l_stirred) rfl
  obtain ⟨d6, F6⟩ := c.def_ 6 (d := dd_l_draw) rfl
  obtain ⟨d7, F7⟩ := c.def_ 7 (d := dd_l_choices) rfl
  obtain ⟨d8, F8⟩ := c.def_ 8 (d := dd_l_beginnings) rfl
  obtain ⟨d9, F9⟩ := c.def_ 9 (d := dd_l_places) rfl
  obtain ⟨d10, F10⟩ := c.def_ 10 (d := dd_l_can_tell) rfl
  obtain ⟨d11, F11⟩ := c.def_ 11 (d := dd_l_told) rfl
  obtain ⟨d12, F12⟩ := c.def_ 12 (d := dd_l_right) rfl
  obtain ⟨d13, F13⟩ := c.def_ 13 (d := dd_law) rfl
  have G0 := He.glo_ok X Gh (c.fact 0 (f := .glo "wanted") rfl)
  have G1 := He.glo_ok X Gh (c.fact 1 (f := .glo "chosen") rfl)
  have G2 := He.glo_ok X Gh (c.fact 2 (f := .glo "rows_below") rfl)
  have G3 := He.glo_ok X Gh (c.fact 3 (f := .glo "table_of") rfl)
  have G4 := He.glo_ok X Gh (c.fact 4 (f := .glo "_law_bag") rfl)
  have G5 := He.glo_ok X Gh (c.fact 5 (f := .glo "_law_stirred") rfl)
  have G6 := He.glo_ok X Gh (c.fact 6 (f := .glo "_law_draw") rfl)
  have G7 := He.glo_ok X Gh (c.fact 7 (f := .glo "_law_choices") rfl)
  have G8 := He.glo_ok X Gh (c.fact 8 (f := .glo "_law_beginnings") rfl)
  have G9 := He.glo_ok X Gh (c.fact 9 (f := .glo "_law_places") rfl)
  have G10 := He.glo_ok X Gh (c.fact 10 (f := .glo "_law_can_tell") rfl)
  have G11 := He.glo_ok X Gh (c.fact 11 (f := .glo "_law_told") rfl)
  have G12 := He.glo_ok X Gh (c.fact 12 (f := .glo "_law_right") rfl)
  have G13 := He.glo_ok X Gh (c.fact 13 (f := .glo "law") rfl)
  obtain ⟨tk0, hk0⟩ := He.str_ok X Gh (c.fact 22 (f := .str "STAR" "*") rfl)
  let T : Txt K mg := { a_wanted := _, d_wanted := d0, F_wanted := F0, g_wanted := G0, a_chosen := _, d_chosen := d1, F_chosen := F1, g_chosen := G1, a_rows_below := _, d_rows_below := d2, F_rows_below := F2, g_rows_below := G2, a_table_of := _, d_table_of := d3, F_table_of := F3, g_table_of := G3, a_l_bag := _, d_l_bag := d4, F_l_bag := F4, g_l_bag := G4, a_l_stirred := _, d_l_stirred := d5, F_l_stirred := F5, g_l_stirred := G5, a_l_draw := _, d_l_draw := d6, F_l_draw := F6, g_l_draw := G6, a_l_choices := _, d_l_choices := d7, F_l_choices := F7, g_l_choices := G7, a_l_beginnings := _, d_l_beginnings := d8, F_l_beginnings := F8, g_l_beginnings := G8, a_l_places := _, d_l_places := d9, F_l_places := F9, g_l_places := G9, a_l_can_tell := _, d_l_can_tell := d10, F_l_can_tell := F10, g_l_can_tell := G10, a_l_told := _, d_l_told := d11, F_l_told := F11, g_l_told := G11, a_l_right := _, d_l_right := d12, F_l_right := F12, g_l_right := G12, a_law := _, d_law := d13, F_law := F13, g_law := G13, n_abs := He.free_ok X Gh (c.fact 14 (f := .free "abs") rfl), n_int := He.free_ok X Gh (c.fact 15 (f := .free "int") rfl), n_len := He.free_ok X Gh (c.fact 16 (f := .free "len") rfl), n_list := He.free_ok X Gh (c.fact 17 (f := .free "list") rfl), n_min := He.free_ok X Gh (c.fact 18 (f := .free "min") rfl), n_range := He.free_ok X Gh (c.fact 19 (f := .free "range") rfl), n_str := He.free_ok X Gh (c.fact 20 (f := .free "str") rfl), n_zip := He.free_ok X Gh (c.fact 21 (f := .free "zip") rfl), t_STAR := tk0, k_STAR := hk0 }
  have e := hfa.symm.trans G13
  cases e
  have b := FunD.bindsA (ps := ["_law_script"]) F13 fun _ _ _ _ _ _ us hl => match us, hl with | [_], _ => rfl
  exact ⟨d13, fun s v => b s [v] rfl, fun base _ _ => ok_law T law_true⟩
end K33
open PySem.Calls PySem.W PySem PyProof.Rows
theorem PySem.Challenge.cw_wishnet_k33_whole_no_fewer_rows_by_trial_holds : PySem.Challenge.rw_wishnet_k33_whole_no_fewer_rows_by_trial.Holds := by
  w_on; o_law
  refine HandSHeadRun.head_any (r := OpenLaw.row PySem.Challenge.rw_wishnet_k33_whole_no_fewer_rows_by_trial) (q := view (OpenLaw.row PySem.Challenge.rw_wishnet_k33_whole_no_fewer_rows_by_trial).prog [16]) (H := K33.hk) (ob := K33.ob) (M := 4000) (loose := K33.looseL) (d := HandSHeadRun.topDef (OpenLaw.row PySem.Challenge.rw_wishnet_k33_whole_no_fewer_rows_by_trial).prog 16) (kwd := []) K33.ob_eq
    (by kernel_rfl) (fun s => by kernel_rfl) K33.run_top (by kernel_rfl) (by kernel_rfl) (by kernel_rfl) (by rfl) (by first | assumption | decide +kernel) (by decide +kernel) ⟨rfl, rfl, rfl, rfl, rfl, by decide +kernel⟩ ?hw ?hc
  case hw => w_witness2
  case hc =>
    refine L2.walk_ofE (l := PySem.Challenge.rw_wishnet_k33_whole_no_fewer_rows_by_trial) (n := 63) (k := 44) (x := "_law_script") (CX := L2.CX0) rfl (by decide) (by kernel_rfl) ⟨rfl, by decide, by decide⟩ ?F (fun _ _ _ _ z => z)
    intro w mg fa h Y Gh hmg0
    obtain ⟨K, KX, c⟩ := Y
    have hmg : mg ("law" : PySem.Str) = some (.ref fa) := by
      have e : (HandSHeadRun.topDef (OpenLaw.row PySem.Challenge.rw_wishnet_k33_whole_no_fewer_rows_by_trial).prog 16).name = ("law" : PySem.Str) := by kernel_rfl
      rw [← e]
      exact hmg0
    obtain ⟨fd, hb, hF⟩ := K33.facts (P := (PySem.Challenge.rw_wishnet_k33_whole_no_fewer_rows_by_trial).prog) (w := w) KX Gh hmg c
    exact ⟨K, fd, K33.sp_law K, KX, hb, fun H a ns hl _ hS => ⟨a, ns, rfl, hS, hl, fun _ => rfl⟩, hF⟩
