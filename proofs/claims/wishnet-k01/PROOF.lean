import PyProof.Rows.All
import Wide.All
import OpenK.AllK
import Wide.FinOn
import HandS.ForMost
import HandS.Walk
import HandS.Wide
import HandS.WideBits
import HandS.StrMore
import HandS.SortInts
import HandS.Strs
import HandS.IsInst
import HandS.Defaults
import HandS.MakeKwOnly
import HandS.Head0
import HandS.Head1
import HandS.Head2
import HandS.HeadEnd
import HandS.HeadHook1
import HandS.HeadHook2
import HandS.Style
import Lean
import HandS.WordsExc
import PySem.Challenge.RW_wishnet_k01_patterns_or_not
set_option Elab.async false
set_option linter.all false
set_option maxRecDepth 100000
set_option maxHeartbeats 4000000
/-! My base, part 1: data, their standing in a heap, growth of heaps. -/
namespace G
open PySem PySem.Spec L2 PyProof.Rows TL

/-! ### data by type -/
class Enc (α : Type) where
  d : α → PyData
instance : Enc Int := ⟨.int⟩
instance : Enc Bool := ⟨.bool⟩
instance : Enc Str := ⟨.str⟩
instance : Enc Unit := ⟨fun _ => .none⟩
def encO {α : Type} (f : α → PyData) : Option α → PyData
  | none => .none
  | some x => f x
instance {α : Type} [Enc α] : Enc (Option α) := ⟨encO Enc.d⟩
instance {α : Type} [Enc α] : Enc (List α) := ⟨fun xs => .list (xs.map Enc.d)⟩
instance {α β : Type} [Enc α] [Enc β] : Enc (α × β) := ⟨fun p => .tuple [Enc.d p.1, Enc.d p.2]⟩
structure T3 (α β γ : Type) where
  a : α
  b : β
  c : γ
  deriving DecidableEq
structure T4 (α β γ δ : Type) where
  a : α
  b : β
  c : γ
  e : δ
  deriving DecidableEq
structure T5 (α β γ δ ε : Type) where
  a : α
  b : β
  c : γ
  e : δ
  f : ε
  deriving DecidableEq
structure VT (α : Type) where
  l : List α
  deriving DecidableEq
instance {α β γ : Type} [Enc α] [Enc β] [Enc γ] : Enc (T3 α β γ) := ⟨fun p => .tuple [Enc.d p.a, Enc.d p.b, Enc.d p.c]⟩
instance {α β γ δ : Type} [Enc α] [Enc β] [Enc γ] [Enc δ] : Enc (T4 α β γ δ) := ⟨fun p => .tuple [Enc.d p.a, Enc.d p.b, Enc.d p.c, Enc.d p.e]⟩
instance {α β γ δ ε : Type} [Enc α] [Enc β] [Enc γ] [Enc δ] [Enc ε] : Enc (T5 α β γ δ ε) := ⟨fun p => .tuple [Enc.d p.a, Enc.d p.b, Enc.d p.c, Enc.d p.e, Enc.d p.f]⟩
instance {α : Type} [Enc α] : Enc (VT α) := ⟨fun p => .tuple (p.l.map Enc.d)⟩

/-- a text that may be handled: no longer than the line, of signs -/
structure GS (x : Str) : Prop where
  len : x.length ≤ sizeLine
  ok : PyData.strOk x = true

mutual
inductive Rp (K : PySem.W.Frag) (F : Hp) : V → PyData → Prop
  | non : Rp K F .non .none
  | bl (b : Bool) : Rp K F (.bl b) (.bool b)
  | int (i : Int) : Rp K F (.int i) (.int i)
  | str (x : Str) : GS x → Rp K F (.str x) (.str x)
  | lst {a : Addr} {xs : List V} {ds : List PyData} : SqL K F a xs → xs.length ≤ sizeLine → RpA K F xs ds → Rp K F (.ref a) (.list ds)
  | tup {a : Addr} {xs : List V} {ds : List PyData} : SqT K F a xs → xs.length ≤ sizeLine → RpA K F xs ds → Rp K F (.ref a) (.tuple ds)
inductive RpA (K : PySem.W.Frag) (F : Hp) : List V → List PyData → Prop
  | nil : RpA K F [] []
  | cons {v : V} {vs : List V} {d : PyData} {ds : List PyData} : Rp K F v d → RpA K F vs ds → RpA K F (v :: vs) (d :: ds)
end
/-- v stands for x -/
abbrev R {α : Type} [Enc α] (K : PySem.W.Frag) (F : Hp) (v : V) (x : α) : Prop := Rp K F v (Enc.d x)
/-- the values vs stand for the things xs -/
abbrev RL {α : Type} [Enc α] (K : PySem.W.Frag) (F : Hp) (vs : List V) (xs : List α) : Prop := RpA K F vs (xs.map Enc.d)

section
variable {K : PySem.W.Frag} {F F' H H' : Hp} {v : V} {vs : List V} {d : PyData} {ds : List PyData} {a p : Addr} {xs : List V}
theorem SqT_mono (e : Same H H') (h : SqT K H a xs) : SqT K H' a xs := by
  rcases h with (h | ⟨o, h⟩) | h
  · exact .inl (.inl (e _ _ h))
  · exact .inl (.inr ⟨o, e _ _ h⟩)
  · exact .inr h
mutual
theorem Rp.mono (e : Same F F') : ∀ (d : PyData) (v : V), Rp K F v d → Rp K F' v d
  | .none, _, h => by cases h; exact .non
  | .bool b, _, h => by cases h; exact .bl b
  | .int i, _, h => by cases h; exact .int i
  | .str x, _, h => by cases h with | str _ g => exact .str x g
  | .list ds, _, h => by cases h with | lst hs hl ha => exact .lst (e.seq hs) hl (RpA.mono e ds _ ha)
  | .tuple ds, _, h => by cases h with | tup hs hl ha => exact .tup (SqT_mono e hs) hl (RpA.mono e ds _ ha)
  | .dict _, _, h => by cases h
theorem RpA.mono (e : Same F F') : ∀ (ds : List PyData) (vs : List V), RpA K F vs ds → RpA K F' vs ds
  | [], _, h => by cases h; exact .nil
  | d :: ds, _, h => by cases h with | cons h1 h2 => exact .cons (Rp.mono e d _ h1) (RpA.mono e ds _ h2)
end
theorem Rp.up (h : Rp K F v d) (e : Same F F') : Rp K F' v d := Rp.mono e d v h
theorem RpA.up (h : RpA K F vs ds) (e : Same F F') : RpA K F' vs ds := RpA.mono e ds vs h
mutual
theorem Rp.dp : ∀ (d : PyData) (v : V), Rp K F v d → Dp K F v d
  | .none, _, h => by cases h; exact .non
  | .bool b, _, h => by cases h; exact .bl b
  | .int i, _, h => by cases h; exact .int i
  | .str x, _, h => by cases h; exact .str x
  | .list ds, _, h => by cases h with | lst hs hl ha => exact .lst hs (RpA.dp ds _ ha)
  | .tuple ds, _, h => by cases h with | tup hs hl ha => exact .tup hs (RpA.dp ds _ ha)
  | .dict _, _, h => by cases h
theorem RpA.dp : ∀ (ds : List PyData) (vs : List V), RpA K F vs ds → DpAll K F vs ds
  | [], _, h => by cases h; exact .nil
  | d :: ds, _, h => by cases h with | cons h1 h2 => exact .cons (Rp.dp d _ h1) (RpA.dp ds _ h2)
end
mutual
theorem Rp.lay : ∀ (d : PyData) (v : V), Rp K F v d → d.canLay0 = true
  | .none, _, _ => rfl
  | .bool b, _, _ => rfl
  | .int i, _, _ => rfl
  | .str x, _, h => by cases h with | str _ g => exact g.ok
  | .list ds, _, h => by cases h with | lst hs hl ha => exact RpA.lay ds _ ha
  | .tuple ds, _, h => by cases h with | tup hs hl ha => exact RpA.lay ds _ ha
  | .dict _, _, h => by cases h
theorem RpA.lay : ∀ (ds : List PyData) (vs : List V), RpA K F vs ds → PyData.canLayAll0 ds = true
  | [], _, _ => rfl
  | d :: ds, _, h => by cases h with | cons h1 h2 => exact Bool.and_eq_true_iff.mpr ⟨Rp.lay d _ h1, RpA.lay ds _ h2⟩
end

/-! ### what stands at a value, by its type -/
theorem RpA.length : ∀ {ds : List PyData} {vs : List V}, RpA K F vs ds → vs.length = ds.length
  | [], _, h => by cases h; rfl
  | d :: ds, _, h => by cases h with | cons h1 h2 => exact congrArg Nat.succ h2.length
theorem RpA.get : ∀ {ds : List PyData} {vs : List V} {i : Nat} {v : V}, RpA K F vs ds → vs[i]? = some v → ∃ d, ds[i]? = some d ∧ Rp K F v d
  | [], _, _, _, h, e => by cases h; simp at e
  | d :: ds, _, 0, _, h, e => by cases h with | cons h1 h2 => exact ⟨d, rfl, by simpa using (Option.some.inj e) ▸ h1⟩
  | d :: ds, _, i + 1, v, h, e => by
    cases h with
    | cons h1 h2 =>
      obtain ⟨d', e1, e2⟩ := h2.get (i := i) (v := v) (by simpa using e)
      exact ⟨d', by simpa using e1, e2⟩
theorem RpA.back : ∀ {ds : List PyData} {vs : List V} {i : Nat} {d : PyData}, RpA K F vs ds → ds[i]? = some d → ∃ v, vs[i]? = some v ∧ Rp K F v d
  | [], _, _, _, h, e => by simp at e
  | d :: ds, _, 0, _, h, e => by
    cases h with
    | cons h1 h2 =>
      have e' := Option.some.inj e
      subst e'
      exact ⟨_, rfl, h1⟩
  | d :: ds, _, i + 1, d', h, e => by
    cases h with
    | cons h1 h2 =>
      obtain ⟨v, e1, e2⟩ := h2.back (i := i) (d := d') (by simpa using e)
      exact ⟨v, by simpa using e1, e2⟩
theorem RpA.append : ∀ {ds es : List PyData} {vs us : List V}, RpA K F vs ds → RpA K F us es → RpA K F (vs ++ us) (ds ++ es)
  | [], _, _, _, h, g => by cases h; exact g
  | d :: ds, _, _, _, h, g => by cases h with | cons h1 h2 => exact .cons h1 (h2.append g)
theorem RpA.take : ∀ {ds : List PyData} {vs : List V} (n : Nat), RpA K F vs ds → RpA K F (vs.take n) (ds.take n)
  | _, _, 0, _ => .nil
  | _, _, _ + 1, .nil => .nil
  | _, _, n + 1, .cons h t => .cons h (RpA.take n t)
theorem RpA.drop : ∀ {ds : List PyData} {vs : List V} (n : Nat), RpA K F vs ds → RpA K F (vs.drop n) (ds.drop n)
  | _, _, 0, h => h
  | _, _, _ + 1, .nil => .nil
  | _, _, n + 1, .cons _ t => RpA.drop n t
theorem RpA.set : ∀ {ds : List PyData} {vs : List V} (n : Nat), Rp K F v d → RpA K F vs ds → RpA K F (vs.set n v) (ds.set n d)
  | _, _, _, _, .nil => .nil
  | _, _, 0, r, .cons _ t => .cons r t
  | _, _, n + 1, r, .cons h t => .cons h (RpA.set n r t)
theorem RpA.dropLast {ds : List PyData} {vs : List V} (h : RpA K F vs ds) : RpA K F vs.dropLast ds.dropLast := by
  rw [List.dropLast_eq_take, List.dropLast_eq_take, h.length]
  exact h.take _
theorem RpA.reverse : ∀ {ds : List PyData} {vs : List V}, RpA K F vs ds → RpA K F vs.reverse ds.reverse
  | [], _, h => by cases h; exact .nil
  | d :: ds, _, h => by
    cases h with
    | cons h1 h2 =>
      rw [List.reverse_cons, List.reverse_cons]
      exact h2.reverse.append (.cons h1 .nil)

section
variable {α β γ δ ε : Type} [Enc α] [Enc β] [Enc γ] [Enc δ] [Enc ε]
theorem R.int_v {i : Int} (h : R K F v i) : v = .int i := by cases h; rfl
theorem R.bl_v {b : Bool} (h : R K F v b) : v = .bl b := by cases h; rfl
theorem R.str_v {x : Str} (h : R K F v x) : v = .str x ∧ GS x := by cases h with | str _ g => exact ⟨rfl, g⟩
theorem R.non_v (h : R K F v (none : Option α)) : v = .non := by
  have h' : Rp K F v .none := h
  cases h'
  rfl
theorem R.lst_v {xs : List α} (h : R K F v xs) : ∃ p ws, v = .ref p ∧ SqL K F p ws ∧ ws.length ≤ sizeLine ∧ RL K F ws xs := by
  have h' : Rp K F v (.list (xs.map Enc.d)) := h
  cases h' with | lst h1 h2 h3 => exact ⟨_, _, rfl, h1, h2, h3⟩
theorem R.vt_v {x : VT α} (h : R K F v x) : ∃ p ws, v = .ref p ∧ SqT K F p ws ∧ ws.length ≤ sizeLine ∧ RL K F ws x.l := by
  have h' : Rp K F v (.tuple (x.l.map Enc.d)) := h
  cases h' with | tup h1 h2 h3 => exact ⟨_, _, rfl, h1, h2, h3⟩
theorem RpA.one {d1 : PyData} (h : RpA K F vs [d1]) : ∃ v1, vs = [v1] ∧ Rp K F v1 d1 := by
  cases h with | cons h1 h2 => cases h2; exact ⟨_, rfl, h1⟩
theorem RpA.two {d1 d2 : PyData} (h : RpA K F vs [d1, d2]) : ∃ v1 v2, vs = [v1, v2] ∧ Rp K F v1 d1 ∧ Rp K F v2 d2 := by
  cases h with | cons h1 h2 => obtain ⟨v2, rfl, r⟩ := h2.one; exact ⟨_, _, rfl, h1, r⟩
theorem RpA.three {d1 d2 d3 : PyData} (h : RpA K F vs [d1, d2, d3]) : ∃ v1 v2 v3, vs = [v1, v2, v3] ∧ Rp K F v1 d1 ∧ Rp K F v2 d2 ∧ Rp K F v3 d3 := by
  cases h with | cons h1 h2 => obtain ⟨v2, v3, rfl, r⟩ := h2.two; exact ⟨_, _, _, rfl, h1, r⟩
theorem RpA.four {d1 d2 d3 d4 : PyData} (h : RpA K F vs [d1, d2, d3, d4]) : ∃ v1 v2 v3 v4, vs = [v1, v2, v3, v4] ∧ Rp K F v1 d1 ∧ Rp K F v2 d2 ∧ Rp K F v3 d3 ∧ Rp K F v4 d4 := by
  cases h with | cons h1 h2 => obtain ⟨v2, v3, v4, rfl, r⟩ := h2.three; exact ⟨_, _, _, _, rfl, h1, r⟩
theorem RpA.five {d1 d2 d3 d4 d5 : PyData} (h : RpA K F vs [d1, d2, d3, d4, d5]) : ∃ v1 v2 v3 v4 v5, vs = [v1, v2, v3, v4, v5] ∧ Rp K F v1 d1 ∧ Rp K F v2 d2 ∧ Rp K F v3 d3 ∧ Rp K F v4 d4 ∧ Rp K F v5 d5 := by
  cases h with | cons h1 h2 => obtain ⟨v2, v3, v4, v5, rfl, r⟩ := h2.four; exact ⟨_, _, _, _, _, rfl, h1, r⟩
theorem R.p2_v {x : α × β} (h : R K F v x) : ∃ p v1 v2, v = .ref p ∧ SqT K F p [v1, v2] ∧ R K F v1 x.1 ∧ R K F v2 x.2 := by
  have h' : Rp K F v (.tuple [Enc.d x.1, Enc.d x.2]) := h
  cases h' with | tup h1 h2 h3 => obtain ⟨v1, v2, rfl, r1, r2⟩ := h3.two; exact ⟨_, _, _, rfl, h1, r1, r2⟩
theorem R.p3_v {x : T3 α β γ} (h : R K F v x) : ∃ p v1 v2 v3, v = .ref p ∧ SqT K F p [v1, v2, v3] ∧ R K F v1 x.a ∧ R K F v2 x.b ∧ R K F v3 x.c := by
  have h' : Rp K F v (.tuple [Enc.d x.a, Enc.d x.b, Enc.d x.c]) := h
  cases h' with | tup h1 h2 h3 => obtain ⟨v1, v2, v3, rfl, r⟩ := h3.three; exact ⟨_, _, _, _, rfl, h1, r⟩
theorem R.p4_v {x : T4 α β γ δ} (h : R K F v x) : ∃ p v1 v2 v3 v4, v = .ref p ∧ SqT K F p [v1, v2, v3, v4] ∧ R K F v1 x.a ∧ R K F v2 x.b ∧ R K F v3 x.c ∧ R K F v4 x.e := by
  have h' : Rp K F v (.tuple [Enc.d x.a, Enc.d x.b, Enc.d x.c, Enc.d x.e]) := h
  cases h' with | tup h1 h2 h3 => obtain ⟨v1, v2, v3, v4, rfl, r⟩ := h3.four; exact ⟨_, _, _, _, _, rfl, h1, r⟩
theorem R.p5_v {x : T5 α β γ δ ε} (h : R K F v x) : ∃ p v1 v2 v3 v4 v5, v = .ref p ∧ SqT K F p [v1, v2, v3, v4, v5] ∧ R K F v1 x.a ∧ R K F v2 x.b ∧ R K F v3 x.c ∧ R K F v4 x.e ∧ R K F v5 x.f := by
  have h' : Rp K F v (.tuple [Enc.d x.a, Enc.d x.b, Enc.d x.c, Enc.d x.e, Enc.d x.f]) := h
  cases h' with | tup h1 h2 h3 => obtain ⟨v1, v2, v3, v4, v5, rfl, r⟩ := h3.five; exact ⟨_, _, _, _, _, _, rfl, h1, r⟩
/-- making them -/
theorem R.mkl {xs : List α} (h1 : SqL K F p vs) (h2 : vs.length ≤ sizeLine) (h3 : RL K F vs xs) : R K F (.ref p) xs := .lst h1 h2 h3
theorem R.mkvt {xs : List α} (h1 : SqT K F p vs) (h2 : vs.length ≤ sizeLine) (h3 : RL K F vs xs) : R K F (.ref p) (VT.mk xs) := .tup h1 h2 h3
theorem R.mk2 {v1 v2 : V} {x : α} {y : β} (h1 : SqT K F p [v1, v2]) (r1 : R K F v1 x) (r2 : R K F v2 y) : R K F (.ref p) (x, y) := .tup h1 (by show 2 ≤ sizeLine; decide) (.cons r1 (.cons r2 .nil))
theorem R.mk3 {v1 v2 v3 : V} {x : α} {y : β} {z : γ} (h1 : SqT K F p [v1, v2, v3]) (r1 : R K F v1 x) (r2 : R K F v2 y) (r3 : R K F v3 z) : R K F (.ref p) (T3.mk x y z) := .tup h1 (by show 3 ≤ sizeLine; decide) (.cons r1 (.cons r2 (.cons r3 .nil)))
theorem R.mk4 {v1 v2 v3 v4 : V} {x : α} {y : β} {z : γ} {u : δ} (h1 : SqT K F p [v1, v2, v3, v4]) (r1 : R K F v1 x) (r2 : R K F v2 y) (r3 : R K F v3 z) (r4 : R K F v4 u) : R K F (.ref p) (T4.mk x y z u) := .tup h1 (by show 4 ≤ sizeLine; decide) (.cons r1 (.cons r2 (.cons r3 (.cons r4 .nil))))
theorem R.mk5 {v1 v2 v3 v4 v5 : V} {x : α} {y : β} {z : γ} {u : δ} {t : ε} (h1 : SqT K F p [v1, v2, v3, v4, v5]) (r1 : R K F v1 x) (r2 : R K F v2 y) (r3 : R K F v3 z) (r4 : R K F v4 u) (r5 : R K F v5 t) : R K F (.ref p) (T5.mk x y z u t) := .tup h1 (by show 5 ≤ sizeLine; decide) (.cons r1 (.cons r2 (.cons r3 (.cons r4 (.cons r5 .nil)))))
theorem RL.nil : RL K F [] ([] : List α) := RpA.nil
theorem RL.cons {x : α} {xs : List α} (r : R K F v x) (rs : RL K F vs xs) : RL K F (v :: vs) (x :: xs) := RpA.cons r rs
theorem RL.snoc {x : α} {xs : List α} (rs : RL K F vs xs) (r : R K F v x) : RL K F (vs ++ [v]) (xs ++ [x]) := by
  show RpA K F _ _
  rw [List.map_append]
  exact RpA.append rs (.cons r .nil)
theorem RL.app {us : List V} {xs ys : List α} (rs : RL K F vs xs) (r : RL K F us ys) : RL K F (vs ++ us) (xs ++ ys) := by
  show RpA K F _ _
  rw [List.map_append]
  exact RpA.append rs r
theorem RL.len {xs : List α} (rs : RL K F vs xs) : vs.length = xs.length := by
  have h := RpA.length rs
  rwa [List.length_map] at h
theorem RL.get {xs : List α} {i : Nat} (rs : RL K F vs xs) (e : vs[i]? = some v) : ∃ x, xs[i]? = some x ∧ R K F v x := by
  obtain ⟨d, e1, r⟩ := RpA.get rs e
  rw [List.getElem?_map] at e1
  cases h : xs[i]? with
  | none => rw [h] at e1; cases e1
  | some x =>
    rw [h] at e1
    have e2 : Enc.d x = d := Option.some.inj e1
    subst e2
    exact ⟨x, rfl, r⟩
theorem RL.back {xs : List α} {i : Nat} {x : α} (rs : RL K F vs xs) (e : xs[i]? = some x) : ∃ v, vs[i]? = some v ∧ R K F v x :=
  RpA.back rs (by rw [List.getElem?_map, e]; rfl)
theorem RL.at {xs : List α} {i : Int} {x : α} (rs : RL K F vs xs) (e : atI xs i = some x) : ∃ v, atI vs i = some v ∧ R K F v x := by
  unfold atI at e ⊢
  rw [rs.len]
  cases h : ixN xs.length i with
  | none => rw [h] at e; cases e
  | some j =>
    rw [h] at e
    exact rs.back e
theorem RL.cut {xs : List α} (lo hi : Option Int) (rs : RL K F vs xs) : RL K F (cutV vs lo hi) ((xs.drop (HT.sIx xs.length 0 lo)).take (HT.sIx xs.length xs.length hi - HT.sIx xs.length 0 lo)) := by
  unfold cutV
  rw [rs.len]
  show RpA K F _ _
  rw [List.map_take, List.map_drop]
  exact RpA.take _ (RpA.drop _ rs)
theorem RL.set {xs : List α} {x : α} (i : Nat) (r : R K F v x) (rs : RL K F vs xs) : RL K F (vs.set i v) (xs.set i x) := by
  show RpA K F _ _
  rw [List.map_set]
  exact RpA.set i r rs
theorem RL.rev {xs : List α} (rs : RL K F vs xs) : RL K F vs.reverse xs.reverse := by
  show RpA K F _ _
  rw [List.map_reverse]
  exact RpA.reverse rs
theorem RL.init {xs : List α} (rs : RL K F vs xs) : RL K F vs.dropLast xs.dropLast := by
  show RpA K F _ _
  rw [List.map_dropLast]
  exact RpA.dropLast rs
theorem RL.ints {xs : List Int} (rs : RL K F vs xs) : vs = xs.map V.int := by
  induction xs generalizing vs with
  | nil => cases rs; rfl
  | cons x xs ih => cases rs with | cons r t => rw [R.int_v r, ih t]; rfl
theorem RL.ofInts (xs : List Int) : RL K F (xs.map V.int) xs := by
  induction xs with
  | nil => exact .nil
  | cons x xs ih => exact .cons (.int x) ih
theorem RL.bls {xs : List Bool} (rs : RL K F vs xs) : vs = xs.map V.bl := by
  induction xs generalizing vs with
  | nil => cases rs; rfl
  | cons x xs ih => cases rs with | cons r t => rw [R.bl_v r, ih t]; rfl
theorem RL.strs {xs : List Str} (rs : RL K F vs xs) : vs = xs.map V.str ∧ ∀ x ∈ xs, GS x := by
  induction xs generalizing vs with
  | nil => cases rs; exact ⟨rfl, fun _ h => nomatch h⟩
  | cons x xs ih =>
    cases rs with
    | cons r t =>
      obtain ⟨e, g⟩ := R.str_v r
      obtain ⟨e2, g2⟩ := ih t
      refine ⟨by rw [e, e2]; rfl, fun y hy => ?_⟩
      rcases List.mem_cons.mp hy with rfl | hy
      · exact g
      · exact g2 y hy
theorem RL.ofStrs (xs : List Str) (h : ∀ x ∈ xs, GS x) : RL K F (xs.map V.str) xs := by
  induction xs with
  | nil => exact .nil
  | cons x xs ih => exact .cons (.str x (h x (List.mem_cons_self ..))) (ih fun y hy => h y (List.mem_cons_of_mem _ hy))
end
end

/-! ### how deep a type's data go -/
class Dep (α : Type) [Enc α] where
  n : Nat
  le : ∀ x : α, (Enc.d x).depth ≤ n
instance : Dep Int := ⟨0, fun _ => Nat.le_refl _⟩
instance : Dep Bool := ⟨0, fun _ => Nat.le_refl _⟩
instance : Dep Str := ⟨0, fun _ => Nat.le_refl _⟩
instance {α : Type} [Enc α] [Dep α] : Dep (Option α) := ⟨Dep.n α, fun o => by
  cases o with
  | none => exact Nat.zero_le _
  | some x => exact Dep.le x⟩
theorem depthAll_le {α : Type} [Enc α] [Dep α] : ∀ xs : List α, PyData.depthAll (xs.map Enc.d) ≤ Dep.n α
  | [] => Nat.zero_le _
  | x :: xs => Nat.max_le.mpr ⟨Dep.le x, depthAll_le xs⟩
instance {α : Type} [Enc α] [Dep α] : Dep (List α) := ⟨Dep.n α + 1, fun xs => Nat.succ_le_succ (depthAll_le xs)⟩
instance {α : Type} [Enc α] [Dep α] : Dep (VT α) := ⟨Dep.n α + 1, fun xs => Nat.succ_le_succ (depthAll_le xs.l)⟩
instance {α β : Type} [Enc α] [Enc β] [Dep α] [Dep β] : Dep (α × β) := ⟨max (Dep.n α) (Dep.n β) + 1, fun p => by
  have h1 := Dep.le p.1
  have h2 := Dep.le p.2
  show PyData.depthAll [Enc.d p.1, Enc.d p.2] + 1 ≤ _
  simp only [PyData.depthAll]
  omega⟩
instance {α β γ : Type} [Enc α] [Enc β] [Enc γ] [Dep α] [Dep β] [Dep γ] : Dep (T3 α β γ) := ⟨max (Dep.n α) (max (Dep.n β) (Dep.n γ)) + 1, fun p => by
  have h1 := Dep.le p.a
  have h2 := Dep.le p.b
  have h3 := Dep.le p.c
  show PyData.depthAll [Enc.d p.a, Enc.d p.b, Enc.d p.c] + 1 ≤ _
  simp only [PyData.depthAll]
  omega⟩
instance {α β γ δ : Type} [Enc α] [Enc β] [Enc γ] [Enc δ] [Dep α] [Dep β] [Dep γ] [Dep δ] : Dep (T4 α β γ δ) := ⟨max (Dep.n α) (max (Dep.n β) (max (Dep.n γ) (Dep.n δ))) + 1, fun p => by
  have h1 := Dep.le p.a
  have h2 := Dep.le p.b
  have h3 := Dep.le p.c
  have h4 := Dep.le p.e
  show PyData.depthAll [Enc.d p.a, Enc.d p.b, Enc.d p.c, Enc.d p.e] + 1 ≤ _
  simp only [PyData.depthAll]
  omega⟩
instance {α β γ δ ε : Type} [Enc α] [Enc β] [Enc γ] [Enc δ] [Enc ε] [Dep α] [Dep β] [Dep γ] [Dep δ] [Dep ε] : Dep (T5 α β γ δ ε) := ⟨max (Dep.n α) (max (Dep.n β) (max (Dep.n γ) (max (Dep.n δ) (Dep.n ε)))) + 1, fun p => by
  have h1 := Dep.le p.a
  have h2 := Dep.le p.b
  have h3 := Dep.le p.c
  have h4 := Dep.le p.e
  have h5 := Dep.le p.f
  show PyData.depthAll [Enc.d p.a, Enc.d p.b, Enc.d p.c, Enc.d p.e, Enc.d p.f] + 1 ≤ _
  simp only [PyData.depthAll]
  omega⟩
theorem R.shaped {α : Type} [Enc α] [Dep α] {K : PySem.W.Frag} {F : Hp} {v : V} {x : α} (r : R K F v x) (h : Dep.n α ≤ 64 := by decide) : SeqAt.shaped (Enc.d x) = true :=
  Bool.and_eq_true_iff.mpr ⟨Rp.lay _ _ r, decide_eq_true (Nat.le_trans (Dep.le x) h)⟩
/-- equal, as Python compares -/
def eqD {α : Type} [Enc α] (x y : α) : Bool := PyData.eqv (Enc.d x) (Enc.d y)

/-! ### growth: F is what stays as it is, H all that stands; M may be changed -/
structure Gr (M : Addr → Prop) (F0 H0 F H : Hp) : Prop where
  fh : Same F H
  ff : Same F0 F
  keep : ∀ a o, ¬ M a → H0 a = some o → H a = some o
  there : ∀ a, H0 a ≠ none → H a ≠ none
  new : ∀ a, H0 a ≠ none → F0 a = none → F a = none
abbrev M0 : Addr → Prop := fun _ => False
section
variable {M : Addr → Prop} {F0 H0 F H F' H' : Hp} {p a : Addr} {o : HO} {K : PySem.W.Frag} {xs : List V}
theorem Gr.refl (h : Same F H) : Gr M F H F H := ⟨h, Same.refl _, fun _ _ _ e => e, fun _ e => e, fun _ _ e => e⟩
theorem Gr.trans (g : Gr M F0 H0 F H) (k : Gr M F H F' H') : Gr M F0 H0 F' H' :=
  ⟨k.fh, g.ff.trans k.ff, fun a o n e => k.keep a o n (g.keep a o n e), fun a e => k.there a (g.there a e), fun a e n => k.new a (g.there a e) (g.new a e n)⟩
theorem Gr.of0 (g : Gr M0 F H F' H') : Gr M F H F' H' := ⟨g.fh, g.ff, fun a o _ e => g.keep a o id e, g.there, g.new⟩
theorem Gr.none0 (g : Gr M F0 H0 F H) (h : H a = none) : H0 a = none := by
  cases e : H0 a with
  | none => rfl
  | some o => exact absurd h (g.there a (by rw [e]; simp))
theorem Gr.noneF (g : Gr M F0 H0 F H) (h : H a = none) : F a = none := by
  cases e : F a with
  | none => rfl
  | some o => rw [g.fh a o e] at h; cases h
theorem same_new (h : F p = none) : Same F (upd F p o) := fun b u e => by rw [upd_ne (ne_of_none e h)]; exact e
theorem same_upd2 (h : Same F H) (hp : F p = none) : Same (upd F p o) (upd H p o) := fun b u e => by
  by_cases hb : b = p
  · subst hb; rw [upd_same] at e ⊢; exact e
  · rw [upd_ne hb] at e ⊢; exact h b u e
theorem same_out (h : Same F H) (hp : F p = none) : Same F (upd H p o) := fun b u e => by
  rw [upd_ne (ne_of_none e hp)]
  exact h b u e
/-- a new thing that stays as it is -/
theorem Gr.frz (g : Gr M F0 H0 F H) (h : H p = none) : Gr M F0 H0 (upd F p o) (upd H p o) :=
  ⟨same_upd2 g.fh (g.noneF h), g.ff.trans (same_new (g.noneF h)), fun a u n e => by rw [upd_ne (ne_of_none (g.keep a u n e) h)]; exact g.keep a u n e,
    fun a e => by
      by_cases ha : a = p
      · subst ha; rw [upd_same]; simp
      · rw [upd_ne ha]; exact g.there a e,
    fun a e n => by
      have ha : a ≠ p := fun z => by subst z; exact e (g.none0 h)
      rw [upd_ne ha]; exact g.new a e n⟩
/-- a new thing that may be changed -/
theorem Gr.own (g : Gr M F0 H0 F H) (h : H p = none) : Gr M F0 H0 F (upd H p o) :=
  ⟨same_out g.fh (g.noneF h), g.ff, fun a u n e => by rw [upd_ne (ne_of_none (g.keep a u n e) h)]; exact g.keep a u n e,
    fun a e => by
      by_cases ha : a = p
      · subst ha; rw [upd_same]; simp
      · rw [upd_ne ha]; exact g.there a e, g.new⟩
/-- a thing of ours is changed -/
theorem Gr.mut (g : Gr M F0 H0 F H) (n : F p = none) (n0 : H0 p = none ∨ M p) : Gr M F0 H0 F (upd H p o) :=
  ⟨same_out g.fh n, g.ff, fun a u m e => by
      have ha : a ≠ p := fun z => by
        subst z
        rcases n0 with z | z
        · rw [z] at e; cases e
        · exact m z
      rw [upd_ne ha]; exact g.keep a u m e,
    fun a e => by
      by_cases ha : a = p
      · subst ha; rw [upd_same]; simp
      · rw [upd_ne ha]; exact g.there a e, g.new⟩
/-- a thing of ours stays as it is from now on -/
theorem Gr.freeze (g : Gr M F0 H0 F H) (h : H p = some o) (n0 : H0 p = none) : Gr M F0 H0 (upd F p o) H :=
  ⟨fun b u e => by
      by_cases hb : b = p
      · subst hb; rw [upd_same] at e; cases e; exact h
      · rw [upd_ne hb] at e; exact g.fh b u e,
    fun b u e => by
      by_cases hb : b = p
      · subst hb
        have := g.fh b u (g.ff b u e)
        rw [h] at this; cases this
        exact upd_same
      · rw [upd_ne hb]; exact g.ff b u e, g.keep, g.there,
    fun a e n => by
      have ha : a ≠ p := fun z => by subst z; exact e n0
      rw [upd_ne ha]; exact g.new a e n⟩
theorem Gr.seq (g : Gr M F0 H0 F H) (m : ¬ M a) (h : SqL K H0 a xs) : SqL K H a xs := by
  rcases h with (h | ⟨o, h⟩) | h
  · exact .inl (.inl (g.keep _ _ m h))
  · exact .inl (.inr ⟨o, g.keep _ _ m h⟩)
  · exact .inr h
theorem same_frz (h : H p = some o) (n : F p = none) : Same F (upd F p o) := same_new n
end

/-! ### the makings, step by step -/
def bind2 {α β γ : Type} (o : Option (α × β)) (f : α → β → Option γ) : Option γ := o.bind fun p => f p.1 p.2
def bind3 {α β γ δ : Type} (o : Option (α × β × γ)) (f : α → β → γ → Option δ) : Option δ := o.bind fun p => f p.1 p.2.1 p.2.2
def bind4 {α β γ δ ε : Type} (o : Option (α × β × γ × δ)) (f : α → β → γ → δ → Option ε) : Option ε := o.bind fun p => f p.1 p.2.1 p.2.2.1 p.2.2.2
def bind5 {α β γ δ ε ζ : Type} (o : Option (α × β × γ × δ × ε)) (f : α → β → γ → δ → ε → Option ζ) : Option ζ := o.bind fun p => f p.1 p.2.1 p.2.2.1 p.2.2.2.1 p.2.2.2.2
theorem bnd {α β : Type} {o : Option α} {f : α → Option β} {r : β} (h : Option.bind o f = some r) : ∃ x, o = some x ∧ f x = some r := Option.bind_eq_some_iff.mp h
theorem bnd2 {α β γ : Type} {o : Option (α × β)} {f : α → β → Option γ} {r : γ} (h : bind2 o f = some r) : ∃ x y, o = some (x, y) ∧ f x y = some r :=
  let ⟨p, e, k⟩ := Option.bind_eq_some_iff.mp h
  ⟨p.1, p.2, e, k⟩
theorem bnd3 {α β γ δ : Type} {o : Option (α × β × γ)} {f : α → β → γ → Option δ} {r : δ} (h : bind3 o f = some r) : ∃ x y z, o = some (x, y, z) ∧ f x y z = some r :=
  let ⟨p, e, k⟩ := Option.bind_eq_some_iff.mp h
  ⟨p.1, p.2.1, p.2.2, e, k⟩
theorem bnd4 {α β γ δ ε : Type} {o : Option (α × β × γ × δ)} {f : α → β → γ → δ → Option ε} {r : ε} (h : bind4 o f = some r) : ∃ x y z u, o = some (x, y, z, u) ∧ f x y z u = some r :=
  let ⟨p, e, k⟩ := Option.bind_eq_some_iff.mp h
  ⟨p.1, p.2.1, p.2.2.1, p.2.2.2, e, k⟩
theorem bnd5 {α β γ δ ε ζ : Type} {o : Option (α × β × γ × δ × ε)} {f : α → β → γ → δ → ε → Option ζ} {r : ζ} (h : bind5 o f = some r) : ∃ x y z u t, o = some (x, y, z, u, t) ∧ f x y z u t = some r :=
  let ⟨p, e, k⟩ := Option.bind_eq_some_iff.mp h
  ⟨p.1, p.2.1, p.2.2.1, p.2.2.2.1, p.2.2.2.2, e, k⟩
/-- a loop's end: gone on, or handed back -/
inductive Lp (S R : Type) where
  | go (s : S)
  | ret (r : R)
def bindL {S R T : Type} (o : Option (Lp S R)) (f : S → Option T) (g : R → Option T) : Option T := o.bind fun l => match l with
  | .go s => f s
  | .ret r => g r
theorem ifT {α : Type} {c : Bool} {a b : α} {r : α} (h : c = true) (e : (if c = true then a else b) = r) : a = r := by rw [if_pos h] at e; exact e
theorem ifF {α : Type} {c : Bool} {a b : α} {r : α} (h : c = false) (e : (if c = true then a else b) = r) : b = r := by rw [if_neg (by rw [h]; decide)] at e; exact e
theorem iteB {c : Bool} {A B : Prop} (h1 : c = true → A) (h2 : c = false → B) : if c = true then A else B := by
  cases c with
  | true => exact h1 rfl
  | false => exact h2 rfl
theorem drop_at {α : Type} {xs : List α} {i : Nat} {x : α} (h : xs[i]? = some x) : xs.drop i = x :: xs.drop (i + 1) := by
  obtain ⟨h1, h2⟩ := List.getElem?_eq_some_iff.mp h
  rw [List.drop_eq_getElem_cons h1, h2]
theorem drop_end {α : Type} {xs : List α} {n : Nat} (h : n = xs.length) : xs.drop n = [] := by subst h; exact List.drop_length
end G
/-! My base, part 2: operations of the makings, and their rules. -/
namespace G
open PySem PySem.Spec PyProof.Rows L2 TL

/-! ### ints, truths -/
def eqI (a b : Int) : Bool := decide (V.int a = V.int b)
def neI (a b : Int) : Bool := !decide (V.int a = V.int b)
def eqB (a b : Bool) : Bool := decide (V.bl a = V.bl b)
def neB (a b : Bool) : Bool := !decide (V.bl a = V.bl b)
def eqS (a b : Str) : Bool := decide (V.str a = V.str b)
def neS (a b : Str) : Bool := !decide (V.str a = V.str b)
theorem eqI_iff {a b : Int} : eqI a b = decide (a = b) := by unfold eqI; simp
theorem neI_iff {a b : Int} : neI a b = !decide (a = b) := by unfold neI; simp
theorem eqB_iff {a b : Bool} : eqB a b = decide (a = b) := by unfold eqB; simp
theorem neB_iff {a b : Bool} : neB a b = !decide (a = b) := by unfold neB; simp
theorem eqS_iff {a b : Str} : eqS a b = decide (a = b) := by unfold eqS; simp
theorem neS_iff {a b : Str} : neS a b = !decide (a = b) := by unfold neS; simp
def toI (b : Bool) : Int := if b then 1 else 0
def mulI (a b : Int) : Option Int := if a.natAbs.log2 + b.natAbs.log2 < 1000000 then some (a * b) else none
def divI (a b : Int) : Option Int := if 0 < b ∧ b.natAbs.log2 < 9000 then some (a / b) else none
def modI (a b : Int) : Option Int := if 0 < b then some (a % b) else none
def shlI (a b : Int) : Option Int := if 0 ≤ b ∧ b ≤ 1000000 ∧ a.natAbs < 2 ^ 64 then some (a * 2 ^ b.toNat) else none
def shrI (a b : Int) : Option Int := if 0 ≤ b then some (a / 2 ^ b.toNat) else none
theorem mulI_ok {a b r : Int} (h : mulI a b = some r) : CMulW a b ∧ a * b = r := by
  unfold mulI at h
  split at h
  · exact ⟨by assumption, Option.some.inj h⟩
  · cases h
theorem divI_ok {a b r : Int} (h : divI a b = some r) : CDivW a b ∧ a / b = r := by
  unfold divI at h
  split at h
  · exact ⟨by assumption, Option.some.inj h⟩
  · cases h
theorem modI_ok {a b r : Int} (h : modI a b = some r) : 0 < b ∧ a % b = r := by
  unfold modI at h
  split at h
  · exact ⟨by assumption, Option.some.inj h⟩
  · cases h
theorem shlI_ok {a b r : Int} (h : shlI a b = some r) : CPow a b ∧ a * 2 ^ b.toNat = r := by
  unfold shlI at h
  split at h
  · exact ⟨by assumption, Option.some.inj h⟩
  · cases h
theorem shrI_ok {a b r : Int} (h : shrI a b = some r) : 0 ≤ b ∧ a / 2 ^ b.toNat = r := by
  unfold shrI at h
  split at h
  · exact ⟨by assumption, Option.some.inj h⟩
  · cases h
theorem maxI_eq {i j : Int} : (if j > i then j else i) = max i j := by omega
theorem minI_eq {i j : Int} : (if j < i then j else i) = min i j := by omega

/-! ### texts -/
def sgn (c : Nat) : Str := ⟨#[c]⟩
theorem GS.of {x : Str} (h1 : (tl x).length ≤ sizeLine) (h2 : ∀ c ∈ tl x, c < 0x110000) : GS x := by
  refine ⟨by rw [len_tl]; exact h1, ?_⟩
  show x.cps.all (fun c => decide (c < 0x110000)) = true
  rw [Array.all_eq_true']
  intro c hc
  exact decide_eq_true (h2 c (by simpa [tl] using hc))
theorem GS.mem {x : Str} (g : GS x) : ∀ c ∈ tl x, c < 0x110000 := by
  intro c hc
  have h : x.cps.all (fun c => decide (c < 0x110000)) = true := g.ok
  rw [Array.all_eq_true'] at h
  exact of_decide_eq_true (h c (by simpa [tl] using hc))
theorem GS.tll {x : Str} (g : GS x) : (tl x).length ≤ sizeLine := by rw [← len_tl]; exact g.len
theorem GS.sg {x : Str} {c : Nat} (g : GS x) (h : c ∈ tl x) : GS (sgn c) := GS.of (by show 1 ≤ sizeLine; decide) (fun d hd => by
  have e : d = c := by simpa [tl, sgn] using hd
  rw [e]
  exact g.mem c h)
theorem GS.cut {x : Str} (g : GS x) (lo hi : Option Int) : GS (cutS x lo hi) := GS.of (by
    rw [← len_tl]
    exact Nat.le_trans (cutS_length x lo hi) g.len)
  fun c hc => g.mem c (List.mem_of_mem_drop (List.mem_of_mem_take (show c ∈ ((tl x).drop _).take _ from hc)))
def catS (a b : Str) : Option Str := if a.length + b.length ≤ sizeLine then some (a ++ b) else none
theorem catS_ok {a b r : Str} (h : catS a b = some r) : a.length + b.length ≤ sizeLine ∧ a ++ b = r := by
  unfold catS at h
  split at h
  · exact ⟨by assumption, Option.some.inj h⟩
  · cases h
theorem GS.cat {a b r : Str} (ga : GS a) (gb : GS b) (h : catS a b = some r) : GS r := by
  obtain ⟨h1, rfl⟩ := catS_ok h
  refine GS.of ?_ fun c hc => ?_
  · rw [tl_append, List.length_append, ← len_tl, ← len_tl]
    exact h1
  · rw [tl_append] at hc
    rcases List.mem_append.mp hc with k | k
    · exact ga.mem c k
    · exact gb.mem c k
/-- the sign at a place -/
def codeAt (x : Str) (i : Int) : Option Nat := atI (tl x) i
theorem codeAt_mem {x : Str} {i : Int} {c : Nat} (h : codeAt x i = some c) : c ∈ tl x := by
  unfold codeAt atI at h
  cases e : ixN (tl x).length i with
  | none => rw [e] at h; cases h
  | some j => rw [e] at h; exact List.mem_of_getElem? h
def mulS (x : Str) (n : Int) : Option Str := if -(2 ^ 63 : Int) ≤ n ∧ n ≤ 16777216 ∧ x.length * n.toNat ≤ 16777216 then some (Txt.mul x n) else none
theorem mulS_ok {x r : Str} {n : Int} (h : mulS x n = some r) : MulOk x n ∧ Txt.mul x n = r := by
  unfold mulS at h
  split at h
  · rename_i q
    exact ⟨mulOk_of x.length n.toNat (Nat.le_refl _) (by omega) q.1 (by omega) q.2.2, Option.some.inj h⟩
  · cases h
theorem foldl_app (cs : Array Nat) : ∀ (k : Nat) (acc : Array Nat), ((List.replicate k cs).foldl (· ++ ·) acc).toList = acc.toList ++ (List.replicate k cs.toList).flatten
  | 0, acc => by simp
  | k + 1, acc => by
    rw [List.replicate_succ, List.foldl_cons, foldl_app cs k, List.replicate_succ, List.flatten_cons, Array.toList_append, List.append_assoc]
theorem tl_mul (x : Str) (n : Int) : tl (Txt.mul x n) = (List.replicate n.toNat (tl x)).flatten := by
  unfold Txt.mul
  split
  · have e : n.toNat = 0 := by omega
    rw [e]
    rfl
  · split
    · rename_i h1 h2
      rcases Bool.or_eq_true_iff.mp h2 with h | h
      · have e : n = 1 := eq_of_beq h
        subst e
        show tl x = [tl x].flatten
        simp
      · have e : x.length = 0 := eq_of_beq h
        have e2 : tl x = [] := List.eq_nil_of_length_eq_zero (by rw [← len_tl]; exact e)
        rw [e2]
        simp
    · show ((List.replicate n.toNat x.cps).foldl (· ++ ·) #[]).toList = _
      rw [foldl_app]
      rfl
theorem GS.mul {x r : Str} {n : Int} (g : GS x) (h : mulS x n = some r) : GS r := by
  have h0 := h
  unfold mulS at h0
  split at h0
  · rename_i q
    obtain ⟨_, rfl⟩ := mulS_ok h
    refine GS.of ?_ fun c hc => ?_
    · rw [tl_mul, List.length_flatten, List.map_replicate, List.sum_replicate_nat, ← len_tl, sizeLine_eq, Nat.mul_comm]
      exact q.2.2
    · rw [tl_mul] at hc
      obtain ⟨l, hl, hc⟩ := List.mem_flatten.mp hc
      rw [(List.mem_replicate.mp hl).2] at hc
      exact g.mem c hc
  · cases h0
def joinS (sep : Str) (ys : List Str) : Option Str := if (ys.map (·.length)).sum + ys.length * sep.length ≤ 16777216 then some (Txt.join sep ys) else none
theorem joinS_ok {sep r : Str} {ys : List Str} (h : joinS sep ys = some r) : (ys.map (·.length)).sum + ys.length * sep.length ≤ 16777216 ∧ Txt.join sep ys = r := by
  unfold joinS at h
  split at h
  · exact ⟨by assumption, Option.some.inj h⟩
  · cases h
theorem tl_joinS (sep : Str) (ys : List Str) : tl (Txt.join sep ys) = joinL (tl sep) (ys.map tl) := by
  have e : Txt.join sep ys = Str.join sep ys := by
    unfold Txt.join; exact StrLaws.glued_eq_join sep ys
  rw [e, tl_join]
end G
/-! My base, part 3: rules. -/
namespace G
open PySem PySem.Spec PyProof.Rows L2 TL

section
variable {X : Cx}
theorem CallR.imp {f : Value} {r r' : List V → Hp → VK → Prop} (h : CallR X f r) (k : ∀ xs H Q, r' xs H Q → r xs H Q) : CallR X f r' :=
  fun pins s σ H xs us Q I rx q => h pins s σ H xs us Q I rx (k _ _ _ q)
theorem OpR.imp {f : Value → Value → Sem Value} {r r' : R2} (h : OpR X f r) (k : ∀ x y H Q, r' x y H Q → r x y H Q) : OpR X f r' :=
  fun pins s σ H x y v u Q I rx ry q => h pins s σ H x y v u Q I rx ry (k _ _ _ _ q)
/-- int(a truth) -/
theorem call_toI : CallR X (.type "int") (fun xs H Q => ∃ k, xs = [.bl k] ∧ Q (.int (toI k)) H) := CallR.imp call_int1 fun xs H Q ⟨k, e, q⟩ => .inr ⟨k, e, q⟩
/-- len(a list or tuple), told -/
theorem call_lenL : CallR X (.builtin "len") (fun xs H Q => ∃ p ys n, xs = [.ref p] ∧ (SqL X.K H p ys ∨ SqT X.K H p ys) ∧ ys.length = n ∧ Q (.int (n : Nat)) H) :=
  CallR.imp call_len_seq fun xs H Q ⟨p, ys, n, e, h, e2, q⟩ => ⟨p, ys, e, h, by rw [e2]; exact q⟩
/-- is None, told -/
theorem op_isO : OpR X (compareOp .Is) (fun x y H Q => ∃ b, y = .non ∧ decide (x = .non) = b ∧ Q (.bl b) H) := OpR.imp op_isN fun x y H Q ⟨b, e, e2, q⟩ => ⟨e, by rw [e2]; exact q⟩
theorem op_notO : OpR X (compareOp .IsNot) (fun x y H Q => ∃ b, y = .non ∧ decide (x = .non) = b ∧ Q (.bl (!b)) H) := OpR.imp op_notN fun x y H Q ⟨b, e, e2, q⟩ => ⟨e, by rw [e2]; exact q⟩
theorem op_mulS : OpR X (binaryOp .Mult) (fun x y H Q => ∃ z n, x = .str z ∧ y = .int n ∧ MulOk z n ∧ Q (.str (Txt.mul z n)) H) := by
  intro pins s σ H x y v u Q I rx ry h
  obtain ⟨z, n, rfl, rfl, ok, q⟩ := h
  obtain ⟨t, rfl⟩ := rx
  obtain ⟨t', rfl⟩ := ry
  exact SB.mul ok fun t' k => ⟨.str _, H, I.tok k, ⟨t', rfl⟩, q⟩
/-- xs + ys, lists that are read -/
def rCatL (K : PySem.W.Frag) : R2 := fun x y H Q => ∃ l b xs zs, x = .ref l ∧ y = .ref b ∧ SqL K H l xs ∧ SqL K H b zs ∧ xs.length + zs.length ≤ sizeLine ∧ ∀ p, H p = none → Q (.ref p) (upd H p (.lst (xs ++ zs)))
theorem op_catL : OpR X (binaryOp .Add) (rCatL X.K) := by
  intro pins s σ H x y v u Q I rx ry h
  obtain ⟨l, b, xs, zs, rfl, rfl, hH, hB, hz, q⟩ := h
  cases rx
  cases ry
  obtain ⟨its, r, p1, hl⟩ := I.list hH
  obtain ⟨its2, r2, p2, hl2⟩ := I.list hB
  obtain ⟨⟨cls, dd, data, sl⟩, ho, hc, n, hd⟩ := p1.isList
  obtain ⟨⟨cls2, dd2, data2, sl2⟩, ho2, hc2, n2, hd2⟩ := p2.isList
  simp only at hc hd hc2 hd2
  subst hc hd hc2 hd2
  have ea : its.toArray ++ its2.toArray = (its ++ its2).toArray := by simp
  have e1 := r.length
  have e2 := r2.length
  refine concat_meets ⟨_, ho, rfl⟩ ⟨_, ho2, rfl⟩ noFill_list_add seq_list_add PySem.F.slot_list_add PySem.F.entry_list_add (PySem.F.args_list_add_2 _ _) (PyProof.Rows.list_addW l b its.toArray its2.toArray n n2 dd dd2 sl sl2 (by simp; omega)) ⟨ho, ho2, ?_⟩
  rw [ea]
  exact ⟨.ref _, _, I.lnew (t' := s.toks) (r.append r2) (by rw [List.length_append]; omega), rfl, q _ I.fresh⟩
end

/-! ### parts of an expression, closed: what they come to, whatever follows -/
section
variable {M : Addr → Prop} {F H : Hp} {σ : L2.St} {ta tb tc : TE} {Q : VK} {a c k : Bool}
/-- t comes to the truth c -/
def EvB (M : Addr → Prop) (F H : Hp) (t : VK → Prop) (c : Bool) : Prop := ∀ Q : VK, (∀ F' H', Gr M F H F' H' → Q (.bl c) H') → t Q
def EvT (M : Addr → Prop) (F H : Hp) (t : (Bool → Hp → Prop) → Prop) (c : Bool) : Prop := ∀ Q : Bool → Hp → Prop, (∀ F' H', Gr M F H F' H' → Q c H') → t Q
theorem andV_g (h1 : EvB M F H (fun Q => ta σ H Q) a) (h2 : a = true → ∀ F1 H1, Gr M F H F1 H1 → EvB M F1 H1 (fun Q => tb σ H1 Q) c) (h3 : a = false → c = false)
    (q : ∀ F' H', Gr M F H F' H' → Q (.bl c) H') : tAndV ta tb σ H Q := h1 _ fun F1 H1 g1 => ⟨a, rfl, by
  cases e : a with
  | true => exact iteT (h2 e F1 H1 g1 _ fun F2 H2 g2 => q F2 H2 (g1.trans g2))
  | false =>
    have ec := h3 e
    subst ec
    exact iteF (q F1 H1 g1)⟩
theorem orV_g (h1 : EvB M F H (fun Q => ta σ H Q) a) (h2 : a = false → ∀ F1 H1, Gr M F H F1 H1 → EvB M F1 H1 (fun Q => tb σ H1 Q) c) (h3 : a = true → c = true)
    (q : ∀ F' H', Gr M F H F' H' → Q (.bl c) H') : tOrV ta tb σ H Q := h1 _ fun F1 H1 g1 => ⟨a, rfl, by
  cases e : a with
  | false => exact iteF (h2 e F1 H1 g1 _ fun F2 H2 g2 => q F2 H2 (g1.trans g2))
  | true =>
    have ec := h3 e
    subst ec
    exact iteT (q F1 H1 g1)⟩
theorem andT_g {ta tb : TT} {Q : Bool → Hp → Prop} (h1 : EvT M F H (fun Q => ta σ H Q) a) (h2 : a = true → ∀ F1 H1, Gr M F H F1 H1 → EvT M F1 H1 (fun Q => tb σ H1 Q) c) (h3 : a = false → c = false)
    (q : ∀ F' H', Gr M F H F' H' → Q c H') : tAnd ta tb σ H Q := h1 _ fun F1 H1 g1 => by
  cases e : a with
  | true => exact iteT (h2 e F1 H1 g1 _ fun F2 H2 g2 => q F2 H2 (g1.trans g2))
  | false =>
    have ec := h3 e
    subst ec
    exact iteF (q F1 H1 g1)
theorem orT_g {ta tb : TT} {Q : Bool → Hp → Prop} (h1 : EvT M F H (fun Q => ta σ H Q) a) (h2 : a = false → ∀ F1 H1, Gr M F H F1 H1 → EvT M F1 H1 (fun Q => tb σ H1 Q) c) (h3 : a = true → c = true)
    (q : ∀ F' H', Gr M F H F' H' → Q c H') : tOr ta tb σ H Q := h1 _ fun F1 H1 g1 => by
  cases e : a with
  | false => exact iteF (h2 e F1 H1 g1 _ fun F2 H2 g2 => q F2 H2 (g1.trans g2))
  | true =>
    have ec := h3 e
    subst ec
    exact iteT (q F1 H1 g1)
/-- a < b < c -/
theorem chainV_g {r r' : R2} (h1 : EvB M F H (fun Q => ta σ H fun x H1 => tb σ H1 fun y H2 => r x y H2 Q) a) (h : tChain r r' ta tb tc σ H Q) : tChain r r' ta tb tc σ H Q := h
/-- e if t else e': it comes to what P says -/
theorem ifE_g {tt : TT} {P : V → Hp → Hp → Prop} (h1 : EvT M F H (fun Q => tt σ H Q) a)
    (h2 : a = true → ∀ F1 H1, Gr M F H F1 H1 → ∀ Q : VK, (∀ v F' H', Gr M F1 H1 F' H' → P v F' H' → Q v H') → ta σ H1 Q)
    (h3 : a = false → ∀ F1 H1, Gr M F H F1 H1 → ∀ Q : VK, (∀ v F' H', Gr M F1 H1 F' H' → P v F' H' → Q v H') → tb σ H1 Q)
    (q : ∀ v F' H', Gr M F H F' H' → P v F' H' → Q v H') : tIf tt ta tb σ H Q := h1 _ fun F1 H1 g1 => by
  cases e : a with
  | true => exact iteT (h2 e F1 H1 g1 _ fun v F2 H2 g2 => q v F2 H2 (g1.trans g2))
  | false => exact iteF (h3 e F1 H1 g1 _ fun v F2 H2 g2 => q v F2 H2 (g1.trans g2))
end

/-! ### peeling a statement -/
section
variable {D : Ends} {σ : L2.St} {H : Hp} {t u : TS} {te : TE} {g : TG} {c : TT}
theorem p_seq (h : t { D with nx := u D } σ H) : tSeq t u D σ H := h
theorem p_asg (h : te σ H (fun x H1 => g x σ H1 D.nx)) : tAsg te g D σ H := h
theorem p_ret (h : te σ H D.rt) : tRet te D σ H := h
theorem p_if (h : c σ H (fun b H1 => if b = true then t D σ H1 else u D σ H1)) : tIfS c t u D σ H := h
theorem p_drop (h : te σ H (fun _ H1 => D.nx σ H1)) : tDrop te D σ H := h
/-- a statement, then the rest, with a word between them -/
def tCut (t u : TS) : TS := fun D σ H => ∃ Mid : L2.St → Hp → Prop, t { D with nx := Mid } σ H ∧ ∀ σ' H', Mid σ' H' → u D σ' H'
theorem pss_cut {X : Cx} {st : Stmt} {rest : List Stmt} (h1 : PS X st t) (h2 : PSs X rest u) : PSs X (st :: rest) (tCut t u) := by
  refine ⟨fun pins s σ H D I h => ?_⟩
  obtain ⟨Mid, hm, hu⟩ := h
  refine wpAny_execs_cons (thn (h1.run pins s σ H { D with nx := Mid } I hm) fun f s1 q => ?_)
  cases f with
  | next =>
    obtain ⟨σ', H', I', q⟩ := q
    exact h2.run pins s1 σ' H' D I' (hu σ' H' q)
  | ret v => exact q
  | brk => exact q
  | cont => exact q
end

/-! ### a call by names alone -/
section
variable {X : Cx} {CX : CXT} {k : Nat} {f : Addr} {fd : FuncData} {ps ks : List Str} {sp : Sp} {E : XK} {x : Str} {p pos : Pos} {kws : List Keyword} {tk : TA} {g : List Value → List Value → List Value} {gV : List V → List V → List V}
theorem pe_callK0 (F : FnOk X.prog X.w X.K X.mg X.base CX k f fd ps sp) (hr : Room k X.A) (hg : Gl X x) (hm : X.mg x = some (.ref f)) (hk : PySem.W.keepIn X.K (.ref f) = true) (hb : KBinds X.K fd ps ks g gV) (hx : Passes CX X E)
    (hkw : PK X kws tk) (hall : (backToKw pos (keywordEach kws X.env)).all (·.1.isSome) = true := by rfl) (hks : (backToKw pos (keywordEach kws X.env)).filterMap (·.1) = ks := by rfl)
    (hdb : (x == ("__debug__" : Str)) = false := by decide)
    (hpl : ((backTo pos (starEach [] X.env)).any (·.1) || (backToKw pos (keywordEach kws X.env)).any (·.1.isNone)) = false := by rfl) :
    PE X (.Call (.Name x p) [] kws pos) (tCallK sp gV E tNil tk) := by
  refine ⟨fun pins s σ H Q I h => ?_⟩
  refine wpAny_Call_Name_kw (ld_glob I hg hm ?_ hdb)
  refine PySem.W.callWith_KW0 (h₀ := X.base) I.ok.mod.kin hk hall ?_ hpl
  refine thn (hkw.run pos pins s σ H _ I h) fun ws s2 ⟨zs, H2, I2, rz, q2⟩ => ⟨I2.kIn, ?_⟩
  rw [hks]
  exact run_fnk F hr hb hx I2 .nil rz q2
end

/-! ### texts kept in a written table -/
def dgetS (kvs : List (Str × Str)) (k d : Str) : Str := ((kvs.find? fun kv => decide (kv.1 = k)).map (·.2)).getD d
def kvS (kvs : List (Str × Str)) : List (Key × V) := kvs.map fun kv => (Sum.inr kv.1, V.str kv.2)
theorem valS (k : Str) : ∀ kvs : List (Str × Str), valV (kvS kvs) (Sum.inr k) = ((kvs.find? fun kv => decide (kv.1 = k)).map (·.2)).map V.str
  | [] => rfl
  | kv :: r => by
    unfold valV kvS
    rw [List.map_cons, List.find?_cons, List.find?_cons]
    by_cases h : kv.1 = k
    · have h' : (Sum.inr kv.1 : Key) = Sum.inr k := by rw [h]
      simp only [decide_eq_true h, decide_eq_true h', Option.map_some]
    · have h' : ¬ (Sum.inr kv.1 : Key) = Sum.inr k := fun e => h (Sum.inr.inj e)
      simp only [decide_eq_false h, decide_eq_false h']
      exact valS k r
theorem rd_dgets {ty tx : TE} {σ : L2.St} {H : Hp} {Q : VK} {k d : Str} (trs : List (TE × TE)) (kvs : List (Str × Str)) (he : trs = kvs.map fun kv => (tC (.str kv.1), tC (.str kv.2))) (h15 : kvs.length ≤ 15) (hm : mergeK [] (kvS kvs) = kvS kvs)
    (hy : ∀ H1 Q', Q' (.str k) H1 → ty σ H1 Q') (hx : ∀ H1 Q', Q' (.str d) H1 → tx σ H1 Q') (q : ∀ p, H p = none → Q (.str (dgetS kvs k d)) (upd H p (.dK (kvS kvs)))) : tDGet2 (tDisp trs) ty tx σ H Q := by
  intro p hp
  have walk : ∀ (l : List (Str × Str)) (R : List (V × V) → Hp → Prop) (H1 : Hp), R (l.map fun kv => (V.str kv.1, V.str kv.2)) H1 → tPairs (l.map fun kv => (tC (.str kv.1), tC (.str kv.2))) σ H1 R := by
    intro l
    induction l with
    | nil => intro R H1 h; exact h
    | cons kv l ih => intro R H1 h; exact ih (fun ps H3 => R ((V.str kv.1, V.str kv.2) :: ps) H3) H1 h
  rw [he]
  refine walk kvs _ _ ⟨upd_same, kvS kvs, ?_, ?_, ?_⟩
  · unfold kvS
    rw [List.map_map]
    rfl
  · unfold kvS
    rw [List.length_map]
    exact h15
  · rw [hm, upd_upd]
    refine ⟨p, rfl, .inl ⟨_, .inl upd_same⟩, hy _ _ (hx _ _ ⟨_, DGet.k (k := Sum.inr k) upd_same, ?_⟩)⟩
    rw [valS]
    have e : (((kvs.find? fun kv => decide (kv.1 = k)).map (·.2)).map V.str).getD (.str d) = .str (dgetS kvs k d) := by
      unfold dgetS
      cases (kvs.find? fun kv => decide (kv.1 = k)) <;> rfl
    rw [e]
    exact q p hp
theorem GS.dg {kvs : List (Str × Str)} {k d : Str} (h : ∀ kv ∈ kvs, GS kv.2) (hd : GS d) : GS (dgetS kvs k d) := by
  unfold dgetS
  cases e : (kvs.find? fun kv => decide (kv.1 = k)) with
  | none => exact hd
  | some kv => exact h kv (List.mem_of_find?_eq_some e)
end G
/-! My base, part 4: lists of one's own, the bag. -/
namespace G
open PySem PySem.Spec PyProof.Rows L2 TL

/-- a list of one's own at p: made behind the entry (H0), not among what stays (F) -/
structure Ow (H0 F H : Hp) (p : Addr) (ws : List V) : Prop where
  h : H p = some (.lst ws)
  nF : F p = none
  n0 : H0 p = none
section
variable {M : Addr → Prop} {F0 H0 F H F' H' : Hp} {p q : Addr} {o : HO} {K : PySem.W.Frag} {xs ws us : List V}
theorem Ow.new (g : Gr M F0 H0 F H) (hp : H p = none) : Ow H0 F (upd H p (.lst ws)) p ws := ⟨upd_same, g.noneF hp, g.none0 hp⟩
theorem Ow.frz (w : Ow H0 F H p ws) (hq : H q = none) : Ow H0 (upd F q o) (upd H q o) p ws :=
  have ne := ne_of_none w.h hq
  ⟨(upd_ne ne).trans w.h, (upd_ne ne).trans w.nF, w.n0⟩
theorem Ow.own (w : Ow H0 F H p ws) (hq : H q = none) : Ow H0 F (upd H q o) p ws :=
  have ne := ne_of_none w.h hq
  ⟨(upd_ne ne).trans w.h, w.nF, w.n0⟩
theorem Ow.put (w : Ow H0 F H p ws) : Ow H0 F (upd H p (.lst us)) p us := ⟨upd_same, w.nF, w.n0⟩
theorem Ow.other (w : Ow H0 F H p ws) (ne : p ≠ q) : Ow H0 F (upd H q o) p ws := ⟨(upd_ne ne).trans w.h, w.nF, w.n0⟩
theorem Ow.ne (w : Ow H0 F H p ws) (hq : H q = none) : p ≠ q := ne_of_none w.h hq
theorem Ow.gr (w : Ow H0 F H p ws) (g : Gr M F H F' H') (m : ¬ M p) : Ow H0 F' H' p ws :=
  ⟨g.keep _ _ m w.h, g.new p (by rw [w.h]; simp) w.nF, w.n0⟩
theorem Ow.gr0 (w : Ow H0 F H p ws) (g : Gr M0 F H F' H') : Ow H0 F' H' p ws := w.gr g id
theorem Ow.fz (w : Ow H0 F H p ws) (ne : p ≠ q) : Ow H0 (upd F q o) H p ws := ⟨w.h, (upd_ne ne).trans w.nF, w.n0⟩
theorem Gr.put (g : Gr M F0 H0 F H) (w : Ow H0 F H p ws) : Gr M F0 H0 F (upd H p o) := g.mut w.nF (.inl w.n0)
theorem Gr.fz (g : Gr M F0 H0 F H) (w : Ow H0 F H p ws) : Gr M F0 H0 (upd F p (.lst ws)) H := g.freeze w.h w.n0
theorem Ow.sq (w : Ow H0 F H p ws) : SqL K H p ws := .inl (.inl w.h)
theorem Ow.sf (w : Ow H0 F H p ws) : Same F (upd F p (.lst ws)) := same_new w.nF
theorem fzS : SqL K (upd F p (.lst ws)) p ws := .inl (.inl upd_same)
theorem fzT : SqT K (upd F p (.tup ws)) p ws := .inl (.inl upd_same)
end

/-- the bag of a law: its cells, which is next, the seed, how many were stirred -/
structure Bag where
  cells : List Int
  at_ : Nat
  seed : Int
  cnt : Int
structure BagOk (b : Bag) : Prop where
  lo : 0 ≤ b.seed
  hi : b.seed < 2 ^ 31
abbrev Bc (B C : Addr) : Addr → Prop := fun a => a = B ∨ a = C
structure BagAt (F H : Hp) (B C : Addr) (b : Bag) : Prop where
  hB : H B = some (.lst [.ref C, .int (b.at_ : Nat), .int b.seed, .int b.cnt])
  hC : H C = some (.lst (b.cells.map V.int))
  ne : B ≠ C
  fB : F B = none
  fC : F C = none
section
variable {M : Addr → Prop} {F0 H0 F H F' H' : Hp} {p q B C : Addr} {o : HO} {b b' : Bag} {ws : List V}
theorem BagAt.frz (a : BagAt F H B C b) (hq : H q = none) : BagAt (upd F q o) (upd H q o) B C b :=
  have n1 := ne_of_none a.hB hq
  have n2 := ne_of_none a.hC hq
  ⟨(upd_ne n1).trans a.hB, (upd_ne n2).trans a.hC, a.ne, (upd_ne n1).trans a.fB, (upd_ne n2).trans a.fC⟩
theorem BagAt.own (a : BagAt F H B C b) (hq : H q = none) : BagAt F (upd H q o) B C b :=
  have n1 := ne_of_none a.hB hq
  have n2 := ne_of_none a.hC hq
  ⟨(upd_ne n1).trans a.hB, (upd_ne n2).trans a.hC, a.ne, a.fB, a.fC⟩
theorem BagAt.nb (a : BagAt F H B C b) (hq : H q = none) : ¬ Bc B C q := fun z => by
  rcases z with z | z
  · exact ne_of_none a.hB hq z.symm
  · exact ne_of_none a.hC hq z.symm
theorem BagAt.other (a : BagAt F H B C b) (m : ¬ Bc B C q) : BagAt F (upd H q o) B C b :=
  have n1 : B ≠ q := fun z => m (.inl z.symm)
  have n2 : C ≠ q := fun z => m (.inr z.symm)
  ⟨(upd_ne n1).trans a.hB, (upd_ne n2).trans a.hC, a.ne, a.fB, a.fC⟩
theorem BagAt.fz (a : BagAt F H B C b) (m : ¬ Bc B C q) : BagAt (upd F q o) H B C b :=
  have n1 : B ≠ q := fun z => m (.inl z.symm)
  have n2 : C ≠ q := fun z => m (.inr z.symm)
  ⟨a.hB, a.hC, a.ne, (upd_ne n1).trans a.fB, (upd_ne n2).trans a.fC⟩
theorem BagAt.gr0 (a : BagAt F H B C b) (g : Gr M0 F H F' H') : BagAt F' H' B C b :=
  ⟨g.keep _ _ id a.hB, g.keep _ _ id a.hC, a.ne, g.new _ (by rw [a.hB]; simp) a.fB, g.new _ (by rw [a.hC]; simp) a.fC⟩
/-- a promise over the whole heap as what stays: the caller's own part stays apart -/
theorem Gr.apart (g : Gr M F0 H0 F H) (k : Gr M0 H H F' H') : Gr M F0 H0 F H' :=
  ⟨g.fh.trans fun a o e => k.keep a o id e, g.ff, fun a o m e => k.keep a o id (g.keep a o m e), fun a e => k.there a (g.there a e), g.new⟩
theorem Ow.apart (w : Ow H0 F H p ws) (k : Gr M0 H H F' H') : Ow H0 F H' p ws := ⟨k.keep _ _ id w.h, w.nF, w.n0⟩
theorem BagAt.apart (a : BagAt F H B C b) (k : Gr M0 H H F' H') : BagAt F H' B C b := ⟨k.keep _ _ id a.hB, k.keep _ _ id a.hC, a.ne, a.fB, a.fC⟩
end
end G
namespace G
open PySem PySem.Spec PyProof.Rows L2 TL
/-! ### loops' ends in the makings -/
def lpK {S R T : Type} (l : Lp S R) (f : S → Option T) (g : R → Option T) : Option T := match l with
  | .go s => f s
  | .ret r => g r
def bindL0 {R T : Type} (o : Option (Lp Unit R)) (f : Option T) (g : R → Option T) : Option T := o.bind fun l => lpK l (fun _ => f) g
def bindL1 {α R T : Type} (o : Option (Lp α R)) (f : α → Option T) (g : R → Option T) : Option T := o.bind fun l => lpK l f g
def bindL2 {α β R T : Type} (o : Option (Lp (α × β) R)) (f : α → β → Option T) (g : R → Option T) : Option T := o.bind fun l => lpK l (fun s => f s.1 s.2) g
def bindL3 {α β γ R T : Type} (o : Option (Lp (α × β × γ) R)) (f : α → β → γ → Option T) (g : R → Option T) : Option T := o.bind fun l => lpK l (fun s => f s.1 s.2.1 s.2.2) g
def bindL4 {α β γ δ R T : Type} (o : Option (Lp (α × β × γ × δ) R)) (f : α → β → γ → δ → Option T) (g : R → Option T) : Option T := o.bind fun l => lpK l (fun s => f s.1 s.2.1 s.2.2.1 s.2.2.2) g
section
variable {α β γ δ R T : Type} {g : R → Option T} {r : R} {t : T}
theorem bndL0 {o : Option (Lp Unit R)} {f : Option T} (h : bindL0 o f g = some t) : ∃ l, o = some l ∧ lpK l (fun _ => f) g = some t := Option.bind_eq_some_iff.mp h
theorem bndL1 {o : Option (Lp α R)} {f : α → Option T} (h : bindL1 o f g = some t) : ∃ l, o = some l ∧ lpK l f g = some t := Option.bind_eq_some_iff.mp h
theorem bndL2 {o : Option (Lp (α × β) R)} {f : α → β → Option T} (h : bindL2 o f g = some t) : ∃ l, o = some l ∧ lpK l (fun s => f s.1 s.2) g = some t := Option.bind_eq_some_iff.mp h
theorem bndL3 {o : Option (Lp (α × β × γ) R)} {f : α → β → γ → Option T} (h : bindL3 o f g = some t) : ∃ l, o = some l ∧ lpK l (fun s => f s.1 s.2.1 s.2.2) g = some t := Option.bind_eq_some_iff.mp h
theorem bndL4 {o : Option (Lp (α × β × γ × δ) R)} {f : α → β → γ → δ → Option T} (h : bindL4 o f g = some t) : ∃ l, o = some l ∧ lpK l (fun s => f s.1 s.2.1 s.2.2.1 s.2.2.2) g = some t := Option.bind_eq_some_iff.mp h
theorem bgo0 {f : Option T} (h : lpK (.go ()) (fun _ => f) g = some t) : f = some t := h
theorem bgo1 {f : α → Option T} {a : α} (h : lpK (.go a) f g = some t) : f a = some t := h
theorem bgo2 {f : α → β → Option T} {a : α} {b : β} (h : lpK (.go (a, b)) (fun s => f s.1 s.2) g = some t) : f a b = some t := h
theorem bgo3 {f : α → β → γ → Option T} {a : α} {b : β} {c : γ} (h : lpK (.go (a, b, c)) (fun s => f s.1 s.2.1 s.2.2) g = some t) : f a b c = some t := h
theorem bgo4 {f : α → β → γ → δ → Option T} {a : α} {b : β} {c : γ} {d : δ} (h : lpK (.go (a, b, c, d)) (fun s => f s.1 s.2.1 s.2.2.1 s.2.2.2) g = some t) : f a b c d = some t := h
theorem bret {S : Type} {f : S → Option T} (h : lpK (.ret r) f g = some t) : g r = some t := h
end
/-- ranges -/
def rangeL (lo : Int) (n : Nat) : List Int := (List.range n).map fun k => lo + (k : Nat)
theorem rangeL_at {lo : Int} {n i : Nat} (h : i < n) : (rangeL lo n)[i]? = some (lo + (i : Nat)) := by
  unfold rangeL
  rw [List.getElem?_map, List.getElem?_range h]
  rfl
theorem rangeL_len (lo : Int) (n : Nat) : (rangeL lo n).length = n := by unfold rangeL; simp
def rangeO (lo hi : Int) : Option (List Int) := if (-(2 ^ 62) ≤ lo ∧ lo < 2 ^ 62 ∧ -(2 ^ 62) ≤ hi ∧ hi < 2 ^ 62) ∧ (hi - lo).toNat ≤ sizeLine then some (rangeL lo (hi - lo).toNat) else none
theorem rangeO_ok {lo hi : Int} {l : List Int} (h : rangeO lo hi = some l) : ((-(2 ^ 62) ≤ lo ∧ lo < 2 ^ 62 ∧ -(2 ^ 62) ≤ hi ∧ hi < 2 ^ 62) ∧ (hi - lo).toNat ≤ sizeLine) ∧ rangeL lo (hi - lo).toNat = l := by
  unfold rangeO at h
  split at h
  · exact ⟨by assumption, Option.some.inj h⟩
  · cases h
def appL {α : Type} (xs : List α) (x : α) : Option (List α) := if xs.length < sizeLine then some (xs ++ [x]) else none
theorem appL_ok {α : Type} {xs r : List α} {x : α} (h : appL xs x = some r) : xs.length < sizeLine ∧ xs ++ [x] = r := by
  unfold appL at h
  split at h
  · exact ⟨by assumption, Option.some.inj h⟩
  · cases h
def conL {α : Type} (xs ys : List α) : Option (List α) := if xs.length + ys.length ≤ sizeLine then some (xs ++ ys) else none
theorem conL_ok {α : Type} {xs ys r : List α} (h : conL xs ys = some r) : xs.length + ys.length ≤ sizeLine ∧ xs ++ ys = r := by
  unfold conL at h
  split at h
  · exact ⟨by assumption, Option.some.inj h⟩
  · cases h
def cutL {α : Type} (xs : List α) (lo hi : Option Int) : List α := (xs.drop (HT.sIx xs.length 0 lo)).take (HT.sIx xs.length xs.length hi - HT.sIx xs.length 0 lo)
theorem str_at {x : Str} {i c : Nat} (h : x.cps[i]? = some c) : (tl x)[i]? = some c := by simpa [tl] using h
theorem str_size {x : Str} : x.cps.size = (tl x).length := by simp [tl]
theorem lt_line {a i n : Nat} (h : a ≤ i) (h2 : i < n) (h3 : n ≤ sizeLine) : a < sizeLine := by omega
theorem snoc_rest {α : Type} {ds rest res : List α} {x : α} (h : ds ++ (x :: rest) = res) : (ds ++ [x]) ++ rest = res := by rw [← h, List.append_assoc]; rfl
theorem sjoin {α : Type} {a b : α} (h : some a = some b) : a = b := Option.some.inj h
end G
/-! My base, part 5: more peeling, walks over texts, lists' operations. -/
namespace G
open PySem PySem.Spec PyProof.Rows L2 TL

section
variable {D : Ends} {σ : L2.St} {H : Hp} {t u : TS} {te : TE} {g : TG} {c : TT} {wi : TI} {i : Nat} {v : V} {k : L2.St → Hp → Prop}
theorem p_next (h : D.nx σ H) : tNext D σ H := h
theorem p_cont (h : D.ct σ H) : tCont D σ H := h
theorem p_brk (h : D.bk σ H) : tBreak D σ H := h
theorem p_name (h : k (σ.set i (some v)) H) : gName i v σ H k := h
theorem p_nm {v' : V} (e : v = v') (h : k (σ.set i (some v')) H) : gName i v σ H k := by subst e; exact h
theorem p_nx {f : L2.St → Hp → Prop} {r : VK} {bk ct : L2.St → Hp → Prop} (h : f σ H) : (Ends.mk f r bk ct).nx σ H := h
theorem p_yes {A B : Hp → Prop} (h : A H) : tYes σ H (fun b H3 => if b = true then A H3 else B H3) := h
theorem p_for (h : tFor wi g t D σ H) : tFor wi g t D σ H := h
theorem p_id (h : t D σ H) : t D σ H := h
end
theorem pjoin {α β : Type} {a c : α} {b d : β} (h : some (a, b) = some (c, d)) : a = c ∧ b = d := by
  injection h with h
  injection h with h1 h2
  exact ⟨h1, h2⟩
theorem pjoin3 {α β γ : Type} {a a' : α} {b b' : β} {c c' : γ} (h : some (a, b, c) = some (a', b', c')) : a = a' ∧ b = b' ∧ c = c' := by
  injection h with h
  injection h with h1 h2
  injection h2 with h2 h3
  exact ⟨h1, h2, h3⟩
theorem pjoin4 {α β γ δ : Type} {a a' : α} {b b' : β} {c c' : γ} {d d' : δ} (h : some (a, b, c, d) = some (a', b', c', d')) : a = a' ∧ b = b' ∧ c = c' ∧ d = d' := by
  injection h with h
  injection h with h1 h2
  injection h2 with h2 h3
  injection h3 with h3 h4
  exact ⟨h1, h2, h3, h4⟩
theorem pjoin5 {α β γ δ ε : Type} {a a' : α} {b b' : β} {c c' : γ} {d d' : δ} {e e' : ε} (h : some (a, b, c, d, e) = some (a', b', c', d', e')) : a = a' ∧ b = b' ∧ c = c' ∧ d = d' ∧ e = e' := by
  injection h with h
  injection h with h1 h2
  injection h2 with h2 h3
  injection h3 with h3 h4
  injection h4 with h4 h5
  exact ⟨h1, h2, h3, h4, h5⟩

/-! ### parts whose value is told -/
def tVal (t : TE) : TE := fun σ H Q => ∃ v, (∀ Q' : VK, Q' v H → t σ H Q') ∧ Q v H
def tValT (t : TT) : TT := fun σ H Q => ∃ b, (∀ Q' : Bool → Hp → Prop, Q' b H → t σ H Q') ∧ Q b H
section
variable {X : Cx}
theorem pe_val {e : Expr} {t : TE} (h : PE X e t) : PE X e (tVal t) := ⟨fun pins s σ H Q I q => by
  obtain ⟨v, k, q⟩ := q
  exact h.run pins s σ H Q I (k Q q)⟩
theorem pt_valT {e : Expr} {t : TT} (h : PT X e t) : PT X e (tValT t) := ⟨fun pins s σ H Q I q => by
  obtain ⟨v, k, q⟩ := q
  exact h.run pins s σ H Q I (k Q q)⟩
end
section
variable {a b : Bool} {H : Hp}
theorem qTv {Q : VK} (h : a = true) (q : Q (.bl (a && b)) H) : Q (.bl b) H := by subst h; exact q
theorem qFv {Q : VK} (h : a = false) (q : Q (.bl (a && b)) H) : Q (.bl false) H := by subst h; exact q
theorem qTb {Q : Bool → Hp → Prop} (h : a = true) (q : Q (a && b) H) : Q b H := by subst h; exact q
theorem qFb {Q : Bool → Hp → Prop} (h : a = false) (q : Q (a && b) H) : Q false H := by subst h; exact q
end
section
variable {F H : Hp} {σ : L2.St} {ta tb : TE} {Q : VK} {a b : Bool}
theorem andV_t (h1 : EvB M0 F H (fun Q => ta σ H Q) a) (h2 : a = true → ∀ F1 H1, Gr M0 F H F1 H1 → EvB M0 F1 H1 (fun Q => tb σ H1 Q) b)
    (q : ∀ F' H', Gr M0 F H F' H' → Q (.bl (a && b)) H') : tAndV ta tb σ H Q :=
  andV_g (c := a && b) h1 (fun e F1 H1 g => by rw [e]; exact h2 e F1 H1 g) (fun e => by rw [e]; rfl) q
theorem orV_t (h1 : EvB M0 F H (fun Q => ta σ H Q) a) (h2 : a = false → ∀ F1 H1, Gr M0 F H F1 H1 → EvB M0 F1 H1 (fun Q => tb σ H1 Q) b)
    (q : ∀ F' H', Gr M0 F H F' H' → Q (.bl (a || b)) H') : tOrV ta tb σ H Q :=
  orV_g (c := a || b) h1 (fun e F1 H1 g => by rw [e]; exact h2 e F1 H1 g) (fun e => by rw [e]; rfl) q
theorem andT_t {ta tb : TT} {Q : Bool → Hp → Prop} (h1 : EvT M0 F H (fun Q => ta σ H Q) a) (h2 : a = true → ∀ F1 H1, Gr M0 F H F1 H1 → EvT M0 F1 H1 (fun Q => tb σ H1 Q) b)
    (q : ∀ F' H', Gr M0 F H F' H' → Q (a && b) H') : tAnd ta tb σ H Q :=
  andT_g (c := a && b) h1 (fun e F1 H1 g => by rw [e]; exact h2 e F1 H1 g) (fun e => by rw [e]; rfl) q
theorem orT_t {ta tb : TT} {Q : Bool → Hp → Prop} (h1 : EvT M0 F H (fun Q => ta σ H Q) a) (h2 : a = false → ∀ F1 H1, Gr M0 F H F1 H1 → EvT M0 F1 H1 (fun Q => tb σ H1 Q) b)
    (q : ∀ F' H', Gr M0 F H F' H' → Q (a || b) H') : tOr ta tb σ H Q :=
  orT_g (c := a || b) h1 (fun e F1 H1 g => by rw [e]; exact h2 e F1 H1 g) (fun e => by rw [e]; rfl) q
end

/-! ### e if c else e', behind its test -/
section
variable {M : Addr → Prop} {F H : Hp} {σ : L2.St} {ta tb : TE} {Q : VK} {c : Bool}
theorem ifJ {P : V → Hp → Hp → Prop} (h2 : c = true → ∀ Q : VK, (∀ v F' H', Gr M F H F' H' → P v F' H' → Q v H') → ta σ H Q)
    (h3 : c = false → ∀ Q : VK, (∀ v F' H', Gr M F H F' H' → P v F' H' → Q v H') → tb σ H Q)
    (q : ∀ v F' H', Gr M F H F' H' → P v F' H' → Q v H') : if c = true then ta σ H Q else tb σ H Q := by
  cases e : c with
  | true => exact iteT (h2 e Q q)
  | false => exact iteF (h3 e Q q)
end

section
variable {M : Addr → Prop} {F H : Hp} {σ : L2.St} {tb : TE} {ub : TT} {Q : VK} {U : Bool → Hp → Prop} {a c : Bool} {P : Hp → Hp → Prop}
theorem andJV (h2 : a = true → ∀ Q : VK, (∀ F' H', Gr M F H F' H' → P F' H' → Q (.bl c) H') → tb σ H Q) (h3 : a = false → c = false ∧ P F H) (fh : Same F H)
    (q : ∀ F' H', Gr M F H F' H' → P F' H' → Q (.bl c) H') : if a = true then tb σ H Q else Q (.bl false) H := by
  cases e : a with
  | true => exact iteT (h2 e Q q)
  | false =>
    obtain ⟨ec, p⟩ := h3 e
    subst ec
    exact iteF (q _ _ (Gr.refl fh) p)
theorem orJV (h2 : a = false → ∀ Q : VK, (∀ F' H', Gr M F H F' H' → P F' H' → Q (.bl c) H') → tb σ H Q) (h3 : a = true → c = true ∧ P F H) (fh : Same F H)
    (q : ∀ F' H', Gr M F H F' H' → P F' H' → Q (.bl c) H') : if a = true then Q (.bl true) H else tb σ H Q := by
  cases e : a with
  | false => exact iteF (h2 e Q q)
  | true =>
    obtain ⟨ec, p⟩ := h3 e
    subst ec
    exact iteT (q _ _ (Gr.refl fh) p)
theorem andJT (h2 : a = true → ∀ U : Bool → Hp → Prop, (∀ F' H', Gr M F H F' H' → P F' H' → U c H') → ub σ H U) (h3 : a = false → c = false ∧ P F H) (fh : Same F H)
    (q : ∀ F' H', Gr M F H F' H' → P F' H' → U c H') : if a = true then ub σ H U else U false H := by
  cases e : a with
  | true => exact iteT (h2 e U q)
  | false =>
    obtain ⟨ec, p⟩ := h3 e
    subst ec
    exact iteF (q _ _ (Gr.refl fh) p)
theorem orJT (h2 : a = false → ∀ U : Bool → Hp → Prop, (∀ F' H', Gr M F H F' H' → P F' H' → U c H') → ub σ H U) (h3 : a = true → c = true ∧ P F H) (fh : Same F H)
    (q : ∀ F' H', Gr M F H F' H' → P F' H' → U c H') : if a = true then U true H else ub σ H U := by
  cases e : a with
  | false => exact iteF (h2 e U q)
  | true =>
    obtain ⟨ec, p⟩ := h3 e
    subst ec
    exact iteT (q _ _ (Gr.refl fh) p)
end
theorem qOv {a b : Bool} {H : Hp} {Q : VK} (h : a = false) (q : Q (.bl (a || b)) H) : Q (.bl b) H := by subst h; exact q
theorem qOb {a b : Bool} {H : Hp} {Q : Bool → Hp → Prop} (h : a = false) (q : Q (a || b) H) : Q b H := by subst h; exact q
theorem anF {a b : Bool} (h : a = false) : (a && b) = false := by rw [h]; rfl
theorem orTt {a b : Bool} (h : a = true) : (a || b) = true := by rw [h]; rfl
theorem ifTr {c : Bool} {A B : Prop} (h : c = true) (q : A) : if c = true then A else B := by rw [if_pos h]; exact q
theorem ifFr {c : Bool} {A B : Prop} (h : c = false) (q : B) : if c = true then A else B := by rw [if_neg (by rw [h]; decide)]; exact q

/-! ### None -/
class NN (α : Type) [Enc α] : Prop where
  ne : ∀ x : α, Enc.d x ≠ .none
instance : NN Int := ⟨fun _ => nofun⟩
instance : NN Bool := ⟨fun _ => nofun⟩
instance : NN Str := ⟨fun _ => nofun⟩
instance {α : Type} [Enc α] : NN (List α) := ⟨fun _ => nofun⟩
instance {α : Type} [Enc α] : NN (VT α) := ⟨fun _ => nofun⟩
instance {α β : Type} [Enc α] [Enc β] : NN (α × β) := ⟨fun _ => nofun⟩
instance {α β γ : Type} [Enc α] [Enc β] [Enc γ] : NN (T3 α β γ) := ⟨fun _ => nofun⟩
instance {α β γ δ : Type} [Enc α] [Enc β] [Enc γ] [Enc δ] : NN (T4 α β γ δ) := ⟨fun _ => nofun⟩
instance {α β γ δ ε : Type} [Enc α] [Enc β] [Enc γ] [Enc δ] [Enc ε] : NN (T5 α β γ δ ε) := ⟨fun _ => nofun⟩
theorem isN_eq {α : Type} [Enc α] [NN α] {K : PySem.W.Frag} {F : Hp} {v : V} {o : Option α} (r : R K F v o) : decide (v = .non) = o.isNone := by
  cases o with
  | none =>
    have e := R.non_v r
    subst e
    rfl
  | some x =>
    have r' : Rp K F v (Enc.d x) := r
    have h : v ≠ .non := fun e => by
      subst e
      have n := NN.ne x
      revert r' n
      generalize Enc.d x = d
      intro r' n
      cases r'
      exact n rfl
    exact decide_eq_false h

/-! ### walks over texts -/
theorem str_lt {x : Str} {i c : Nat} (h : x.cps[i]? = some c) : i < x.cps.size := (Array.getElem?_eq_some_iff.mp h).1
theorem for_str {z : Str} {g : TG} {tb : TS} {D : Ends} {σ : L2.St} {H : Hp} (Pv : Nat → L2.St → Hp → Prop) (h0 : Pv 0 σ H)
    (hs : ∀ i c σ H, z.cps[i]? = some c → Pv i σ H → g (.str (sgn c)) σ H fun σ2 H2 => tb { D with nx := Pv (i + 1), ct := Pv (i + 1), bk := D.nx } σ2 H2) (hd : ∀ σ H, Pv z.cps.size σ H → D.nx σ H) :
    ∃ W : Nat → Nat → L2.St → Hp → Prop, (∃ m, W 0 m σ H) ∧ ∀ i m σ H, W i m σ H →
      ((Its z).stop i H ∧ D.nx σ H) ∨ ((Its z).go i H ∧ ∃ N : L2.St → Hp → Prop, (∀ σ' H', N σ' H' → ∃ m', m' < m ∧ W (i + 1) m' σ' H') ∧ ∀ x H', (Its z).yld i H x H' → g x σ H' fun σ2 H2 => tb { D with nx := N, ct := N, bk := D.nx } σ2 H2) :=
  for_it walk_str Pv h0 (fun _ _ _ _ _ => trivial) (fun i x σ H H' _ p y => by
    obtain ⟨rfl, c, hc, rfl⟩ := y
    exact hs i c σ _ hc p) hd
theorem lc_str {z : Str} {g : TG} {tt : TT} {te : TE} {vs : List Nat} {σ : L2.St} {H1 : Hp} {D : Addr} {Qd : Hp → Prop} (Pv : Nat → Hp → Prop) (h0 : Pv 0 (upd H1 D (.lst [])))
    (hs : ∀ i c H, z.cps[i]? = some c → Pv i H → g (.str (sgn c)) (wipe σ vs) H fun σ2 H2 => wipe σ2 vs = wipe σ vs ∧ tt σ2 H2 fun b H3 =>
      if b = true then te σ2 H3 fun y H4 => ∃ acc, H4 D = some (.lst acc) ∧ acc.length < sizeLine ∧ Pv (i + 1) (upd H4 D (.lst (acc ++ [y]))) else Pv (i + 1) H3) (hd : ∀ H, Pv z.cps.size H → Qd H) :
    ∃ W : Nat → Nat → Hp → Prop, (∃ m, W 0 m (upd H1 D (.lst []))) ∧ ∀ i m H, W i m H →
      ((Its z).stop i H ∧ Qd H) ∨ ((Its z).go i H ∧ ∃ Nx : Hp → Prop, (∀ H', Nx H' → ∃ m', m' < m ∧ W (i + 1) m' H') ∧ ∀ x H', (Its z).yld i H x H' → g x (wipe σ vs) H' fun σ2 H2 => wipe σ2 vs = wipe σ vs ∧ tt σ2 H2 fun b H3 =>
        if b = true then te σ2 H3 fun y H4 => ∃ acc, H4 D = some (.lst acc) ∧ acc.length < sizeLine ∧ Nx (upd H4 D (.lst (acc ++ [y]))) else Nx H3) :=
  lc_it walk_str Pv h0 (fun _ _ _ _ => trivial) (fun i x H H' _ p y => by
    obtain ⟨rfl, c, hc, rfl⟩ := y
    exact hs i c _ hc p) hd

/-! ### ranges from nought, lists -/
def rangeO1 (hi : Int) : Option (List Int) := if (-(2 ^ 62) ≤ hi ∧ hi < 2 ^ 62) ∧ hi.toNat ≤ sizeLine then some (rangeL 0 hi.toNat) else none
theorem rangeO1_ok {hi : Int} {l : List Int} (h : rangeO1 hi = some l) : ((-(2 ^ 62) ≤ hi ∧ hi < 2 ^ 62) ∧ hi.toNat ≤ sizeLine) ∧ rangeL 0 hi.toNat = l := by
  unfold rangeO1 at h
  split at h
  · exact ⟨by assumption, Option.some.inj h⟩
  · cases h
def setL {α : Type} (xs : List α) (i : Int) (x : α) : Option (List α) := (ixN xs.length i).map fun j => xs.set j x
theorem setL_ok {α : Type} {xs r : List α} {i : Int} {x : α} (h : setL xs i x = some r) : ∃ j, ixN xs.length i = some j ∧ xs.set j x = r := by
  unfold setL at h
  cases e : ixN xs.length i with
  | none => rw [e] at h; cases h
  | some j =>
    rw [e] at h
    exact ⟨j, rfl, Option.some.inj h⟩
/-- sorted whole numbers -/
def sortI (xs : List Int) : List Int := xs.mergeSort fun a b => decide (a ≤ b)
theorem sortI_perm (xs : List Int) : (sortI xs).Perm xs := List.mergeSort_perm _ _
theorem sortI_sorted (xs : List Int) : (sortI xs).Pairwise (· ≤ ·) := by
  have h := List.pairwise_mergeSort (le := fun a b : Int => decide (a ≤ b)) (fun a b c h1 h2 => decide_eq_true (Int.le_trans (of_decide_eq_true h1) (of_decide_eq_true h2)))
    (fun a b => by
      rcases Int.le_total a b with h | h
      · rw [decide_eq_true h]; rfl
      · rw [decide_eq_true h, Bool.or_true]) xs
  exact h.imp fun h => of_decide_eq_true h
theorem sortI_len (xs : List Int) : (sortI xs).length = xs.length := (sortI_perm xs).length_eq
theorem sorted_uniq : ∀ {xs ys : List Int}, xs.Perm ys → xs.Pairwise (· ≤ ·) → ys.Pairwise (· ≤ ·) → xs = ys
  | xs, ys, h, h1, h2 => h.eq_of_pairwise (le := (· ≤ ·)) (fun a b _ _ h3 h4 => Int.le_antisymm h3 h4) h1 h2
theorem sortI_uniq {ns ys : List Int} (h : ys.Perm ns) (h2 : ys.Pairwise (· ≤ ·)) : sortI ns = ys :=
  sorted_uniq ((sortI_perm ns).trans h.symm) (sortI_sorted ns) h2

/-! ### texts: what is stripped, joined -/
theorem GS.sub {x y : Str} (g : GS x) (h : ∀ c ∈ tl y, c ∈ tl x) (hl : (tl y).length ≤ (tl x).length) : GS y := GS.of (Nat.le_trans hl g.tll) fun c hc => g.mem c (h c hc)
theorem GS.join {sep r : Str} {ys : List Str} (gs : GS sep) (gy : ∀ y ∈ ys, GS y) (h : joinS sep ys = some r) : GS r := by
  obtain ⟨h1, rfl⟩ := joinS_ok h
  refine GS.of ?_ fun c hc => ?_
  · rw [← len_tl]
    have e : Txt.join sep ys = Str.join sep ys := by unfold Txt.join; exact StrLaws.glued_eq_join sep ys
    rw [e]
    refine Nat.le_trans (StrLaws.join_length_le sep ys) ?_
    rw [sizeLine_eq]
    exact h1
  · rw [tl_joinS] at hc
    have mem : ∀ (l : List (List Nat)), c ∈ joinL (tl sep) l → c ∈ tl sep ∨ ∃ p ∈ l, c ∈ p := by
      intro l
      induction l with
      | nil => intro h; cases h
      | cons p r ih =>
        cases r with
        | nil => intro h; exact .inr ⟨p, List.mem_singleton.mpr rfl, h⟩
        | cons q r =>
          intro h
          rcases List.mem_append.mp (show c ∈ p ++ (tl sep ++ joinL (tl sep) (q :: r)) from h) with h | h
          · exact .inr ⟨p, List.mem_cons_self .., h⟩
          · rcases List.mem_append.mp h with h | h
            · exact .inl h
            · rcases ih h with h | ⟨p', hp, h⟩
              · exact .inl h
              · exact .inr ⟨p', List.mem_cons_of_mem _ hp, h⟩
    rcases mem _ hc with h | ⟨p, hp, h⟩
    · exact gs.mem c h
    · obtain ⟨y, hy, rfl⟩ := List.mem_map.mp hp
      exact (gy y hy).mem c h
theorem GS.strip {x : Str} (g : GS x) (y : Str) : GS (Txt.stripChars x y) := by
  unfold Txt.stripChars Txt.stripBy
  split
  · exact g
  · have e : ∀ i j, tl (Builtin.Str.strSub x i j) = ((tl x).take j).drop i := fun i j => by
      show (x.cps.extract i j).toList = _
      rw [List.drop_take]
      simp [tl]
    refine g.sub (fun c hc => ?_) ?_
    · unfold stripped at hc
      rw [e] at hc
      exact List.mem_of_mem_take (List.mem_of_mem_drop hc)
    · unfold stripped
      rw [e, List.length_drop, List.length_take]
      omega
end G
/-! My base, part 6: defs by data. -/
namespace G
open PySem PySem.Spec PyProof.Rows L2 TL
abbrev FnP (K : PySem.W.Frag) (x : Str) (st : Stmt) (f : Addr) (fd : FuncData) : Prop := FunD K x x (defArgs st) (defBody st) (defScope st) [] [] f fd
section
variable {P : Program} {w : World} {K : PySem.W.Frag} {mg : Str → Option Value} {base : Heap} {x qual : Str} {params : Arguments} {body : List Stmt} {scope : Scope} {f : Addr} {fd : FuncData}
theorem fd_ok {N ps : List Str} {k : Nat} {sp : Sp} (F : FunD K x qual params body scope [] [] f fd) (S : FnScope N ps scope) (len : ∀ vs H Q E, sp vs H Q E → vs.length = ps.length)
    (hbody : ∀ (cdv : Value) (A : Around) (outer : List Env) (s : Shared) (H : Hp) (vs : List V) (Q : VK) (E : XK), Room k (A.deeper (envOfC qual scope s.heap.objs.size f cdv)) → sp vs H Q E →
      ∃ t, PSs (cxOf CX0 P w K mg base N qual scope f cdv A outer s H E).nox body t ∧ t { nx := fun _ H' => Q .non H', rt := Q } (start N vs) H) : FnOk P w K mg base CX0 (k + 1) f fd ps sp :=
  FunD.ok F S len fun cdv A outer s H vs Q E hr hsp =>
    let ⟨t, h, q⟩ := hbody cdv A outer s H vs Q E hr hsp
    ⟨t, h.nox, q⟩
theorem fd_plain (F : FunD K x qual params body scope [] [] f fd) : ∃ kV doc pm an cdv ct, fd = PySem.W.fnOf x qual params body scope .none kV doc pm an cdv ct := by
  obtain ⟨oc, od, dV, kV, doc, pm, an, cdv, ct, osl, rfl, lk, hcd, hD, hK⟩ := F.ex
  rcases hD with ⟨_, rfl⟩ | ⟨e, _⟩
  · exact ⟨kV, doc, pm, an, cdv, ct, rfl⟩
  · exact absurd rfl e
end
end G
/-! My base, part 7: a text turned round. -/
namespace G
open PySem PySem.Spec PyProof.Rows L2 TL
def revS (x : Str) : Str := ⟨(tl x).reverse.toArray⟩
theorem tl_revS (x : Str) : tl (revS x) = (tl x).reverse := by unfold revS tl; simp
theorem revS_len (x : Str) : (revS x).length = x.length := by rw [len_tl, tl_revS, List.length_reverse, ← len_tl]
theorem GS.rev {x : Str} (g : GS x) : GS (revS x) := g.sub (fun c hc => by rw [tl_revS] at hc; exact List.mem_reverse.mp hc) (by rw [tl_revS, List.length_reverse]; exact Nat.le_refl _)
theorem rev_pick (z : Str) : (⟨((Builtin.Str.strSliceIndices none none (-1) z.length).filterMap (z.cps[·]?)).toArray⟩ : Str) = revS z := by
  have h := step_rev_list z default
  unfold Txt.sliceBy slicePicked at h
  rw [if_neg (by intro h; exact absurd (Bool.and_eq_true_iff.mp h).1 (by decide))] at h
  unfold revS
  have e2 : (tl z).reverse = (List.range z.length).map fun k => z.cps.getD (z.length - 1 - k) 0 := by
    refine List.ext_getElem (by rw [List.length_reverse, List.length_map, List.length_range, ← len_tl]) fun i h1 h2 => ?_
    rw [List.getElem_reverse, List.getElem_map, List.getElem_range]
    have hi : i < z.length := by rw [List.length_reverse, ← len_tl] at h1; exact h1
    have hz : z.cps.size = z.length := rfl
    simp only [tl, Array.getElem_toList, Array.length_toList]
    rw [Array.getD, dif_pos (show z.length - 1 - i < z.cps.size by omega)]
    rfl
  rw [e2, ← h]
  rfl
def tRevS (te : TE) : TE := fun σ H Q => te σ H fun x H1 => ∃ z, x = .str z ∧ z.length ≤ sizeLine ∧ Q (.str (revS z)) H1
theorem pe_revS {X : Cx} {e : Expr} {te : TE} {k : Nat} {p1 p2 p3 pos : Pos} (he : PE X e te) : PE X (.Subscript e (.Slice none none (some (.UnaryOp .USub (.Constant (.int 1) k p1) p2)) p3) pos) (tRevS te) := by
  refine ⟨fun pins s σ H Q I h => ?_⟩
  refine Subscript_ (thn (he.run pins s σ H _ I h) fun v s1 ⟨x, H1, I1, r1, q1⟩ => ?_)
  obtain ⟨z, ex, hz, q⟩ := q1
  subst ex
  obtain ⟨t, rfl⟩ := r1
  have hst : PO X (some (.UnaryOp .USub (.Constant (.int 1) k p1) p2)) (tPart (tUn (rU fun i => .int (-i)) (tC (.int 1)))) := po_some (pe_un un_neg pe_int)
  refine wpAny_Slice (thn (po_none.run pins s1 σ H1 (fun o H2 => o = none ∧ H2 = H1) I1 ⟨rfl, rfl⟩) fun vl s2 ⟨l, H2, I2, pl, el, e2⟩ => ?_)
  subst el e2
  refine thn (po_none.run pins s2 σ H2 (fun o H3 => o = none ∧ H3 = H2) I2 ⟨rfl, rfl⟩) fun vu s3 ⟨u, H3, I3, pu, eu, e3⟩ => ?_
  subst eu e3
  refine thn (hst.run pins s3 σ H3 (fun o H4 => o = some (-1) ∧ H4 = H3) I3 ⟨1, rfl, -1, rfl, rfl, rfl⟩) fun vs s4 ⟨o, H4, I4, ps, eo, e4⟩ => ?_
  subst eo e4
  have I5 : Inv X pins σ H4 { s4 with heap := s4.heap.push { cls := .type "slice", data := .fields #[vl, vu, vs] } } := I4.kept (t' := s4.toks) fun b ob q => Heap.get?_push_of_some _ q
  cases pl
  cases pu
  cases ps with | int _ t2 => ?_
  show wpAny (model X.prog X.w) X.A (subscriptTail e (.Slice none none (some (.UnaryOp .USub (.Constant (.int 1) k p1) p2)) p3) (.str z t) (.ref s4.heap.objs.size)) (EP X pins σ Q) X.xe { s4 with heap := s4.heap.push { cls := .type "slice", data := .fields #[.none, .none, .int (-1) t2] } }
  refine tail_any (ops := [.str z t, .ref s4.heap.objs.size]) (typeIs_str _ _ _) F.slot_str_getitem.lookup ?_ (by with_unfolding_all rfl)
  obtain ⟨os, hos, hcs, hds⟩ := Heap.IsSliceOf.new s4.heap Value.none Value.none (Value.int (-1) t2)
  refine wpAny_getItem_str_slice (l := none) (u := none) (st := some (-1, t2)) ⟨os, hos, hcs, hds⟩ rfl ?_
  have e1 : sliceMade z t none none (some (-1, t2)) = .str (revS z) := by
    unfold sliceMade
    rw [if_neg (by intro h; exact absurd (show ((-1 : Int) == 1) = true from (Bool.and_eq_true_iff.mp h).1) (by decide))]
    exact congrArg Made.str (rev_pick z)
  rw [e1]
  have hl : (revS z).length ≤ sizeLine := by rw [revS_len]; exact hz
  exact ⟨hl, .str _, _, I5.tok _, ⟨_, rfl⟩, q⟩
end G
/-! My base, part 8: which type a thing is of; alike. -/
namespace G
open PySem PySem.Spec PyProof.Rows L2 TL
def tyD : PyData → String
  | .none => "NoneType"
  | .bool _ => "bool"
  | .int _ => "int"
  | .str _ => "str"
  | .list _ => "list"
  | .tuple _ => "tuple"
  | .dict _ => "dict"
def isSq (d : PyData) : Bool := tyD d == "list" || tyD d == "tuple"
section
variable {K : PySem.W.Frag} {F H : Hp} {v : V} {d : PyData} {a : Addr} {xs : List V}
theorem SqL.ty (h : SqL K H a xs) : TyX K H (.ref a) (.type "list") := by
  rcases h with (h | ⟨o, h⟩) | ⟨o, its, n, e, c, _⟩
  · exact .base (.lst h)
  · exact .base (.frz h)
  · exact .kList e c
theorem SqT.ty (h : SqT K H a xs) : TyX K H (.ref a) (.type "tuple") := by
  rcases h with (h | ⟨o, h⟩) | ⟨o, its, n, e, c, _⟩
  · exact .base (.tup h)
  · exact .fTuple h
  · exact .kTuple e c
theorem Rp.ty (h : Rp K H v d) : TyX K H v (.type (tyD d)) := by
  cases h with
  | non => exact .base .non
  | bl b => exact .base (.bl b)
  | int i => exact .base (.int i)
  | str x _ => exact .base (.str x)
  | lst hs _ _ => exact SqL.ty hs
  | tup hs _ _ => exact SqT.ty hs
/-- the six kinds -/
def Knd (s : String) : Prop := s = "NoneType" ∨ s = "bool" ∨ s = "int" ∨ s = "str" ∨ s = "list" ∨ s = "tuple"
theorem Rp.knd (h : Rp K H v d) : Knd (tyD d) := by
  cases h with
  | non => exact .inl rfl
  | bl _ => exact .inr (.inl rfl)
  | int _ => exact .inr (.inr (.inl rfl))
  | str _ _ => exact .inr (.inr (.inr (.inl rfl)))
  | lst _ _ _ => exact .inr (.inr (.inr (.inr (.inl rfl))))
  | tup _ _ _ => exact .inr (.inr (.inr (.inr (.inr rfl))))
theorem kit_two (s : String) (b c : Bool) (h1 : kitB s "list" = some b) (h2 : kitB s "tuple" = some c) : PySem.W.kitAny K (.type s) [.type "list", .type "tuple"] = some (b || c) := by
  refine kitAny_cons (b := b) (kit_ty h1) (fun hb => ?_) (fun hb => by rw [hb]; rfl)
  refine kitAny_cons (b := c) (kit_ty h2) (fun hc => ?_) (fun hc => by rw [hc, Bool.or_true])
  rw [hb, hc]
  exact kitAny_nil
theorem kit_lt {s : String} (h : Knd s) : PySem.W.kitAny K (.type s) [.type "list", .type "tuple"] = some (s == "list" || s == "tuple") := by
  rcases h with rfl | rfl | rfl | rfl | rfl | rfl <;> exact kit_two _ _ _ (by decide +kernel) (by decide +kernel)
theorem kit_one {s : String} (h : Knd s) (t : String) (ht : t = "list" ∨ t = "bool" ∨ t = "str") : PySem.W.kitOne K (.type s) (.type t) = some (s == t) := by
  rcases ht with rfl | rfl | rfl <;> rcases h with rfl | rfl | rfl | rfl | rfl | rfl <;> exact kit_ty (by decide +kernel)
theorem kit_int {s : String} (h : Knd s) : PySem.W.kitOne K (.type s) (.type "int") = some (s == "int" || s == "bool") := by
  rcases h with rfl | rfl | rfl | rfl | rfl | rfl <;> exact kit_ty (by decide +kernel)
end
/-- no value of the data is deeper than n -/
theorem depth_list {n : Nat} {ds : List PyData} (h : PyData.depthAll ds + 1 ≤ n + 1) {d : PyData} (hd : d ∈ ds) : d.depth ≤ n := by
  have : ∀ (l : List PyData), d ∈ l → d.depth ≤ PyData.depthAll l := by
    intro l
    induction l with
    | nil => intro h; cases h
    | cons x l ih =>
      intro h
      simp only [PyData.depthAll]
      rcases List.mem_cons.mp h with rfl | h
      · omega
      · have := ih h
        omega
  have := this ds hd
  omega
def sp_alike (n : Nat) (K : PySem.W.Frag) : Sp := fun vs H Q _ => ∃ (v1 v2 : V) (d : PyData), vs = [v1, v2] ∧ Rp K H v1 d ∧ Rp K H v2 d ∧ d.depth ≤ n ∧ (∀ F' H', Gr M0 H H F' H' → Q (.bl true) H')
theorem al_sc {K : PySem.W.Frag} {H : Hp} {v1 v2 : V} {d : PyData} (r1 : Rp K H v1 d) (r2 : Rp K H v2 d) (hc : (tyD d == "list" || tyD d == "tuple") = false) : v1 = v2 ∧ scal v1 v2 = true := by
  cases r1 with
  | non => cases r2; exact ⟨rfl, rfl⟩
  | bl b => cases r2; exact ⟨rfl, rfl⟩
  | int i => cases r2; exact ⟨rfl, rfl⟩
  | str x _ => cases r2; exact ⟨rfl, rfl⟩
  | lst h1 h2 h3 => exact absurd hc (by simp [tyD])
  | tup h1 h2 h3 => exact absurd hc (by simp [tyD])
theorem ix_go {K : PySem.W.Frag} {H : Hp} {p : Addr} {xs : List V} {i : Nat} {v : V} {Q : VK} (h : SqL K H p xs ∨ SqT K H p xs) (e : xs[i]? = some v) (q : Q v H) : rIx K (.ref p) (.int (0 + (i : Nat))) H Q := by
  have ha : atI xs (0 + (i : Nat)) = some v := by rw [Int.zero_add]; exact atI_nat e
  rcases h with h | h
  · exact .inl ⟨p, xs, _, v, rfl, rfl, h, ha, q⟩
  · exact .inr (.inl ⟨p, xs, _, v, rfl, rfl, h, ha, q⟩)
theorem sq_up {K : PySem.W.Frag} {H H' : Hp} {p : Addr} {xs : List V} (h : SqL K H p xs ∨ SqT K H p xs) (e : Same H H') : SqL K H' p xs ∨ SqT K H' p xs := by
  rcases h with h | h
  · exact .inl (e.seq h)
  · exact .inr (SqT_mono e h)
def spA : Nat → PySem.W.Frag → Sp
  | 0, _ => fun _ _ _ _ => False
  | n + 1, K => sp_alike n K
theorem al_sq {K : PySem.W.Frag} {H : Hp} {v1 v2 : V} {d : PyData} {n : Nat} (r1 : Rp K H v1 d) (r2 : Rp K H v2 d) (hc : (tyD d == "list" || tyD d == "tuple") = true) (hd : d.depth ≤ n) :
    ∃ a1 ws1 a2 ws2 ds m, v1 = .ref a1 ∧ v2 = .ref a2 ∧ (SqL K H a1 ws1 ∨ SqT K H a1 ws1) ∧ (SqL K H a2 ws2 ∨ SqT K H a2 ws2) ∧ ws1.length ≤ sizeLine ∧ ws2.length ≤ sizeLine ∧ RpA K H ws1 ds ∧ RpA K H ws2 ds ∧ n = m + 1 ∧ ∀ d ∈ ds, d.depth ≤ m := by
  cases r1 with
  | non => exact absurd hc (by decide)
  | bl b => exact absurd hc (by simp [tyD])
  | int i => exact absurd hc (by simp [tyD])
  | str x _ => exact absurd hc (by simp [tyD])
  | lst h1 h2 h3 =>
    cases r2 with
    | lst k1 k2 k3 =>
      cases n with
      | zero => exact absurd hd (Nat.not_succ_le_zero _)
      | succ m => exact ⟨_, _, _, _, _, m, rfl, rfl, .inl h1, .inl k1, h2, k2, h3, k3, rfl, fun d hd2 => depth_list hd hd2⟩
  | tup h1 h2 h3 =>
    cases r2 with
    | tup k1 k2 k3 =>
      cases n with
      | zero => exact absurd hd (Nat.not_succ_le_zero _)
      | succ m => exact ⟨_, _, _, _, _, m, rfl, rfl, .inr h1, .inr k1, h2, k2, h3, k3, rfl, fun d hd2 => depth_list hd hd2⟩
theorem R.of_eq {α : Type} [Enc α] {K : PySem.W.Frag} {F : Hp} {v : V} {x y : α} (h : x = y) (r : R K F v y) : R K F v x := by rw [h]; exact r
theorem retQ {e : Bool} {Q : VK} {H : Hp} (h : e = true) (q : Q (.bl true) H) : Q (.bl e) H := by rw [h]; exact q
def m_l_alike {α : Type} [DecidableEq α] (x y : α) : Option Bool := if x = y then some true else none
theorem alike_ok {α : Type} [DecidableEq α] {x y : α} {r : Bool} (h : m_l_alike x y = some r) : x = y ∧ true = r := by
  unfold m_l_alike at h
  split at h
  · exact ⟨by assumption, Option.some.inj h⟩
  · cases h
theorem op_powW {X : Cx} : OpR X (binaryOp .Pow) (rI (fun i j => 0 ≤ j ∧ (Builtin.Int.intBits i : Int) * j ≤ 2 ^ 27) fun i j => .int (i ^ j.toNat)) := opI fun _ _ _ _ _ _ _ hc q => pow_int hc.1 hc.2 q
end G
/-! Plain laws: how the makings come out. -/
namespace G
open PySem PySem.Spec PyProof.Rows L2 TL
section
variable {α β γ δ S : Type} {I : S → Prop}
def O1 (o : Option α) (P : α → Prop) : Prop := ∃ a, o = some a ∧ P a
def O2 (I : S → Prop) (o : Option (α × S)) (P : α → Prop) : Prop := ∃ a b, o = some (a, b) ∧ I b ∧ P a
theorem O1.ret {a : α} {P : α → Prop} (h : P a) : O1 (some a) P := ⟨a, rfl, h⟩
theorem O1.imp {o : Option α} {P Q : α → Prop} (h : O1 o P) (k : ∀ a, P a → Q a) : O1 o Q := let ⟨a, e, p⟩ := h; ⟨a, e, k a p⟩
theorem O1.bind {o : Option α} {f : α → Option β} {P : α → Prop} {Q : β → Prop} (h : O1 o P) (k : ∀ a, P a → O1 (f a) Q) : O1 (Option.bind o f) Q := by
  obtain ⟨a, rfl, p⟩ := h
  exact k a p
theorem O2.ret {a : α} {b : S} {P : α → Prop} (hb : I b) (h : P a) : O2 I (some (a, b)) P := ⟨a, b, rfl, hb, h⟩
theorem O2.imp {o : Option (α × S)} {P Q : α → Prop} (h : O2 I o P) (k : ∀ a, P a → Q a) : O2 I o Q := let ⟨a, b, e, i, p⟩ := h; ⟨a, b, e, i, k a p⟩
theorem O2.bind1 {o : Option α} {f : α → Option (β × S)} {P : α → Prop} {Q : β → Prop} (h : O1 o P) (k : ∀ a, P a → O2 I (f a) Q) : O2 I (Option.bind o f) Q := by
  obtain ⟨a, rfl, p⟩ := h
  exact k a p
theorem O2.ite {c : Bool} {x y : Option (α × S)} {P : α → Prop} (h1 : c = true → O2 I x P) (h2 : c = false → O2 I y P) : O2 I (if c = true then x else y) P := by
  cases c with
  | true => exact h1 rfl
  | false => exact h2 rfl
theorem O1.ite {c : Bool} {x y : Option α} {P : α → Prop} (h1 : c = true → O1 x P) (h2 : c = false → O1 y P) : O1 (if c = true then x else y) P := by
  cases c with
  | true => exact h1 rfl
  | false => exact h2 rfl
end
section
variable {α β : Type} {S : Type} {I : S → Prop}
theorem O2.bind {o : Option (α × S)} {f : α → S → Option (β × S)} {P : α → Prop} {Q : β → Prop} (h : O2 I o P) (k : ∀ a b, I b → P a → O2 I (f a b) Q) : O2 I (bind2 o f) Q := by
  obtain ⟨a, b, rfl, i, p⟩ := h
  exact k a b i p
end
section
variable {α β γ δ R T S : Type} {I : S → Prop} {Q : T → Prop} {g : R → Option (T × S)}
theorem O2.bL0 {o : Option (Lp Unit R)} {f : Option (T × S)} (e : o = some (.go ())) (k : O2 I f Q) : O2 I (bindL0 o f g) Q := by subst e; exact k
theorem O2.bL1 {o : Option (Lp α R)} {f : α → Option (T × S)} {a : α} (e : o = some (.go a)) (k : O2 I (f a) Q) : O2 I (bindL1 o f g) Q := by subst e; exact k
theorem O2.bL2 {o : Option (Lp (α × β) R)} {f : α → β → Option (T × S)} {a : α} {b : β} (e : o = some (.go (a, b))) (k : O2 I (f a b) Q) : O2 I (bindL2 o f g) Q := by subst e; exact k
theorem O2.bL3 {o : Option (Lp (α × β × γ) R)} {f : α → β → γ → Option (T × S)} {a : α} {b : β} {c : γ} (e : o = some (.go (a, b, c))) (k : O2 I (f a b c) Q) : O2 I (bindL3 o f g) Q := by subst e; exact k
end
theorem O2.true_ {S : Type} {I : S → Prop} {o : Option (Bool × S)} (h : O2 I o (fun r => r = true)) : ∃ b, o = some (true, b) := by
  obtain ⟨r, b, e, _, rfl⟩ := h
  exact ⟨b, e⟩
/-! ### lists and texts -/
theorem atI_O {α : Type} {xs : List α} {i : Int} {P : α → Prop} (h0 : 0 ≤ i) (h1 : i < xs.length) (h : ∀ x ∈ xs, P x) : O1 (atI xs i) P := by
  obtain ⟨n, rfl⟩ := Int.eq_ofNat_of_zero_le h0
  have hn : n < xs.length := by omega
  have e : xs[n]? = some xs[n] := List.getElem?_eq_getElem hn
  exact ⟨_, atI_nat e, h _ (List.getElem_mem hn)⟩
theorem tl_inj {x y : Str} (h : tl x = tl y) : x = y := by
  obtain ⟨⟨l⟩⟩ := x
  obtain ⟨⟨m⟩⟩ := y
  have h' : l = m := h
  rw [h']
theorem eqS_tl {x y : Str} : eqS x y = decide (tl x = tl y) := by
  rw [eqS_iff]
  exact decide_eq_decide.mpr ⟨fun h => by rw [h], tl_inj⟩
theorem tl_cut {z : Str} {lo hi : Option Int} : tl (cutS z lo hi) = ((tl z).drop (HT.sIx (tl z).length 0 lo)).take (HT.sIx (tl z).length (tl z).length hi - HT.sIx (tl z).length 0 lo) := by
  rw [← len_tl]
  unfold cutS tl
  rfl
theorem sIx_neg (n d : Nat) {k : Nat} (hk : 0 < k) : HT.sIx n d (some (-(k : Int))) = n - k := by
  show (if (-(k : Int)) < 0 then (-(k : Int) + (n : Int)).toNat else min (-(k : Int)).toNat n) = n - k
  rw [if_pos (by omega)]
  omega
theorem sIx_neg1 (n d : Nat) : HT.sIx n d (some (-1)) = n - 1 := sIx_neg n d (k := 1) (by decide)
theorem sIx_n (n d : Nat) : HT.sIx n d none = d := rfl
theorem tl_sgn (c : Nat) : tl (sgn c) = [c] := rfl
theorem catS_O {a b : Str} {P : Str → Prop} (h : (tl a).length + (tl b).length ≤ 16777216) (p : P (a ++ b)) : O1 (catS a b) P := by
  refine ⟨a ++ b, ?_, p⟩
  unfold catS
  rw [if_pos (by rw [len_tl, len_tl, sizeLine_eq]; exact h)]
theorem mulS_O {x : Str} {n : Int} {P : Str → Prop} (h1 : -(2 ^ 63 : Int) ≤ n) (h2 : n ≤ 16777216) (h3 : (tl x).length * n.toNat ≤ 16777216) (p : P (Txt.mul x n)) : O1 (mulS x n) P := by
  refine ⟨_, ?_, p⟩
  unfold mulS
  rw [if_pos ⟨h1, h2, by rw [len_tl]; exact h3⟩]
theorem codeAt_O {x : Str} {i : Int} {P : Nat → Prop} (h0 : 0 ≤ i) (h1 : i < (tl x).length) (h : ∀ c ∈ tl x, P c) : O1 (codeAt x i) P := atI_O h0 h1 h
theorem rangeO1_O {n : Int} {P : List Int → Prop} (h : n ≤ 16777216) (h0 : -(2 ^ 62) ≤ n) (p : P (rangeL 0 n.toNat)) : O1 (rangeO1 n) P := by
  refine ⟨_, ?_, p⟩
  unfold rangeO1
  rw [if_pos ⟨⟨h0, by omega⟩, by rw [sizeLine_eq]; omega⟩]
theorem joinS_O {sep : Str} {ys : List Str} {P : Str → Prop} (h : (ys.map fun y => (tl y).length).sum + ys.length * (tl sep).length ≤ 16777216) (p : P (Txt.join sep ys)) : O1 (joinS sep ys) P := by
  refine ⟨_, ?_, p⟩
  unfold joinS
  rw [if_pos]
  have e : (ys.map fun y => y.length) = ys.map fun y => (tl y).length := List.map_congr_left fun y _ => len_tl y
  show (ys.map fun y => y.length).sum + ys.length * sep.length ≤ _
  rw [e, len_tl]
  exact h
theorem tl_empty : tl ("" : Str) = [] := by decide +kernel
theorem joinL_nil : ∀ (ys : List (List Nat)), joinL [] ys = ys.flatten
  | [] => rfl
  | [y] => by show y = [y].flatten; simp
  | y :: z :: r => by
    show y ++ ([] ++ joinL [] (z :: r)) = _
    rw [joinL_nil (z :: r)]
    simp
theorem tl_join0 (ys : List Str) : tl (Txt.join ("" : Str) ys) = (ys.map tl).flatten := by rw [tl_joinS, tl_empty, joinL_nil]
/-- a text of no more than n signs -/
def Sh (n : Nat) (x : Str) : Prop := (tl x).length ≤ n
theorem Sh.mono {n m : Nat} {x : Str} (h : Sh n x) (k : n ≤ m) : Sh m x := Nat.le_trans h k
theorem Sh.cut {n : Nat} {x : Str} {lo hi : Option Int} (h : Sh n x) : Sh n (cutS x lo hi) := by
  unfold Sh at *
  rw [tl_cut, List.length_take, List.length_drop]
  omega
theorem Sh.sgn {c : Nat} : Sh 1 (sgn c) := Nat.le_refl 1
theorem Sh.rev {n : Nat} {x : Str} (h : Sh n x) : Sh n (revS x) := by
  unfold Sh at *
  rw [tl_revS, List.length_reverse]
  exact h
theorem Sh.cat {n m : Nat} {a b : Str} (ha : Sh n a) (hb : Sh m b) : Sh (n + m) (a ++ b) := by
  unfold Sh at *
  rw [tl_append, List.length_append]
  omega
theorem Sh.cat_O {n m : Nat} {a b : Str} (ha : Sh n a) (hb : Sh m b) (h : n + m ≤ 16777216 := by decide) : O1 (catS a b) (Sh (n + m)) :=
  catS_O (Nat.le_trans (Nat.add_le_add ha hb) h) (ha.cat hb)
theorem tl_mul_len (x : Str) (n : Int) : (tl (Txt.mul x n)).length = n.toNat * (tl x).length := by
  rw [tl_mul, List.length_flatten, List.map_replicate, List.sum_replicate_nat]
theorem Sh.mul_O {n m : Nat} {x : Str} {i : Int} (hx : Sh n x) (h0 : -1000000 ≤ i) (h1 : i ≤ (m : Nat)) (h2 : m * n ≤ 16777216) (h3 : m ≤ 16777216) : O1 (mulS x i) (Sh (m * n)) := by
  have h4 : i.toNat ≤ m := by omega
  have h5 : i.toNat * (tl x).length ≤ m * n := Nat.mul_le_mul h4 hx
  refine mulS_O (by omega) (by omega) (by rw [Nat.mul_comm]; omega) ?_
  unfold Sh
  rw [tl_mul_len]
  exact h5
theorem sh_sum {n : Nat} : ∀ {ys : List Str}, (∀ y ∈ ys, Sh n y) → (ys.map fun y => (tl y).length).sum ≤ ys.length * n
  | [], _ => by simp
  | y :: ys, h => by
    have h1 := sh_sum (n := n) (ys := ys) fun z hz => h z (List.mem_cons_of_mem _ hz)
    have h2 : (tl y).length ≤ n := h y (List.mem_cons_self ..)
    rw [List.map_cons, List.sum_cons, List.length_cons, Nat.add_mul, Nat.one_mul]
    omega
theorem Sh.join_O {n m : Nat} {ys : List Str} (h : ∀ y ∈ ys, Sh n y) (hm : ys.length ≤ m) (h2 : m * n ≤ 16777216) : O1 (joinS ("" : Str) ys) (Sh (m * n)) := by
  have h1 := sh_sum h
  have h3 : ys.length * n ≤ m * n := Nat.mul_le_mul_right n hm
  have e : (tl ("" : Str)).length = 0 := by rw [tl_empty]; rfl
  refine joinS_O (by rw [e]; omega) ?_
  unfold Sh
  rw [tl_join0, List.length_flatten, List.map_map]
  exact Nat.le_trans h1 h3
theorem rangeL_length {lo : Int} {n : Nat} : (rangeL lo n).length = n := rangeL_len lo n
/-! ### == of data -/
class EqvD (α : Type) [Enc α] : Prop where
  iff : ∀ x y : α, PyData.eqv (Enc.d x) (Enc.d y) = true ↔ x = y
instance : EqvD Int := ⟨fun x y => by show (x == y) = true ↔ _; exact beq_iff_eq⟩
instance : EqvD Bool := ⟨fun x y => by show (x == y) = true ↔ _; exact beq_iff_eq⟩
instance : EqvD Str := ⟨fun x y => by show (x == y) = true ↔ _; exact beq_iff_eq⟩
instance {α : Type} [Enc α] [EqvD α] [NN α] : EqvD (Option α) := ⟨fun x y => by
  cases x with
  | none =>
    cases y with
    | none => exact ⟨fun _ => rfl, fun _ => rfl⟩
    | some y =>
      have n := NN.ne y
      refine ⟨fun h => ?_, (fun h => nomatch h)⟩
      have h' : PyData.eqv .none (Enc.d y) = true := h
      revert h' n
      generalize Enc.d y = d
      intro n h'
      cases d <;> first | exact absurd rfl n | cases h'
  | some x =>
    cases y with
    | none =>
      have n := NN.ne x
      refine ⟨fun h => ?_, (fun h => nomatch h)⟩
      have h' : PyData.eqv (Enc.d x) .none = true := h
      revert h' n
      generalize Enc.d x = d
      intro n h'
      cases d <;> first | exact absurd rfl n | cases h'
    | some y => exact ⟨fun h => congrArg some ((EqvD.iff x y).mp h), fun h => (EqvD.iff x y).mpr (Option.some.inj h)⟩⟩
theorem eqvAll_iff {α : Type} [Enc α] [EqvD α] : ∀ xs ys : List α, PyData.eqvAll (xs.map Enc.d) (ys.map Enc.d) = true ↔ xs = ys
  | [], [] => ⟨fun _ => rfl, fun _ => rfl⟩
  | [], _ :: _ => ⟨(fun h => nomatch h), (fun h => nomatch h)⟩
  | _ :: _, [] => ⟨(fun h => nomatch h), (fun h => nomatch h)⟩
  | x :: xs, y :: ys => by
    show (PyData.eqv (Enc.d x) (Enc.d y) && PyData.eqvAll (xs.map Enc.d) (ys.map Enc.d)) = true ↔ _
    rw [Bool.and_eq_true, EqvD.iff, eqvAll_iff xs ys, List.cons.injEq]
instance {α : Type} [Enc α] [EqvD α] : EqvD (List α) := ⟨fun x y => eqvAll_iff x y⟩
instance {α : Type} [Enc α] [EqvD α] : EqvD (VT α) := ⟨fun x y => by
  obtain ⟨x⟩ := x
  obtain ⟨y⟩ := y
  rw [VT.mk.injEq]
  exact eqvAll_iff x y⟩
instance {α β : Type} [Enc α] [Enc β] [EqvD α] [EqvD β] : EqvD (α × β) := ⟨fun x y => by
  obtain ⟨a, b⟩ := x
  obtain ⟨c, d⟩ := y
  show (PyData.eqv (Enc.d a) (Enc.d c) && (PyData.eqv (Enc.d b) (Enc.d d) && true)) = true ↔ _
  rw [Bool.and_true, Bool.and_eq_true, EqvD.iff, EqvD.iff, Prod.mk.injEq]⟩
instance {α β γ : Type} [Enc α] [Enc β] [Enc γ] [EqvD α] [EqvD β] [EqvD γ] : EqvD (T3 α β γ) := ⟨fun x y => by
  obtain ⟨a, b, e⟩ := x
  obtain ⟨c, d, f⟩ := y
  show (PyData.eqv (Enc.d a) (Enc.d c) && (PyData.eqv (Enc.d b) (Enc.d d) && (PyData.eqv (Enc.d e) (Enc.d f) && true))) = true ↔ _
  rw [Bool.and_true, Bool.and_eq_true, Bool.and_eq_true, EqvD.iff, EqvD.iff, EqvD.iff, T3.mk.injEq]⟩
instance {α β γ δ : Type} [Enc α] [Enc β] [Enc γ] [Enc δ] [EqvD α] [EqvD β] [EqvD γ] [EqvD δ] : EqvD (T4 α β γ δ) := ⟨fun x y => by
  obtain ⟨a, b, e, g⟩ := x
  obtain ⟨c, d, f, h⟩ := y
  show (PyData.eqv (Enc.d a) (Enc.d c) && (PyData.eqv (Enc.d b) (Enc.d d) && (PyData.eqv (Enc.d e) (Enc.d f) && (PyData.eqv (Enc.d g) (Enc.d h) && true)))) = true ↔ _
  rw [Bool.and_true, Bool.and_eq_true, Bool.and_eq_true, Bool.and_eq_true, EqvD.iff, EqvD.iff, EqvD.iff, EqvD.iff, T4.mk.injEq]⟩
theorem eqD_iff {α : Type} [Enc α] [EqvD α] {x y : α} : eqD x y = true ↔ x = y := EqvD.iff x y
theorem eqD_dec {α : Type} [Enc α] [EqvD α] [DecidableEq α] {x y : α} : eqD x y = decide (x = y) := by
  rw [Bool.eq_iff_iff, eqD_iff, decide_eq_true_iff]
theorem eqD_refl {α : Type} [Enc α] [EqvD α] (x : α) : eqD x x = true := eqD_iff.mpr rfl
theorem eqD_false {α : Type} [Enc α] [EqvD α] {x y : α} (h : x ≠ y) : eqD x y = false := Bool.eq_false_iff.mpr fun e => h (eqD_iff.mp e)
theorem alike_O {α : Type} [DecidableEq α] {x y : α} {P : Bool → Prop} (h : x = y) (p : P true) : O1 (m_l_alike x y) P := by
  refine ⟨true, ?_, p⟩
  unfold m_l_alike
  rw [if_pos h]
end G
namespace K01
open PySem PySem.Spec PyProof.Rows L2 TL G
def topS (i : Nat) : Stmt := PySem.Challenge.pw_wishnet_k01_patterns_or_not.main.body.getD i (.Pass ⟨0, 0, 0, 0⟩)
abbrev s_is_pattern : Stmt := topS 3
abbrev s_l_bag : Stmt := topS 5
abbrev s_l_draw : Stmt := topS 6
abbrev s_l_bits : Stmt := topS 7
abbrev s_l_size : Stmt := topS 8
abbrev s_l_one : Stmt := topS 9
abbrev s_l_alike : Stmt := topS 10
abbrev s_l_line : Stmt := topS 11
abbrev s_l_meant : Stmt := topS 12
abbrev s_law : Stmt := topS 13
structure Txt (K : PySem.W.Frag) (mg : Str → Option Value) where
  a_is_pattern : Addr
  d_is_pattern : FuncData
  F_is_pattern : FnP K "is_pattern" s_is_pattern a_is_pattern d_is_pattern
  g_is_pattern : mg "is_pattern" = some (.ref a_is_pattern)
  a_l_bag : Addr
  d_l_bag : FuncData
  F_l_bag : FnP K "_law_bag" s_l_bag a_l_bag d_l_bag
  g_l_bag : mg "_law_bag" = some (.ref a_l_bag)
  a_l_draw : Addr
  d_l_draw : FuncData
  F_l_draw : FnP K "_law_draw" s_l_draw a_l_draw d_l_draw
  g_l_draw : mg "_law_draw" = some (.ref a_l_draw)
  a_l_bits : Addr
  d_l_bits : FuncData
  F_l_bits : FnP K "_law_bits" s_l_bits a_l_bits d_l_bits
  g_l_bits : mg "_law_bits" = some (.ref a_l_bits)
  a_l_size : Addr
  d_l_size : FuncData
  F_l_size : FnP K "_law_size" s_l_size a_l_size d_l_size
  g_l_size : mg "_law_size" = some (.ref a_l_size)
  a_l_one : Addr
  d_l_one : FuncData
  F_l_one : FnP K "_law_one" s_l_one a_l_one d_l_one
  g_l_one : mg "_law_one" = some (.ref a_l_one)
  a_l_alike : Addr
  d_l_alike : FuncData
  F_l_alike : FnP K "_law_alike" s_l_alike a_l_alike d_l_alike
  g_l_alike : mg "_law_alike" = some (.ref a_l_alike)
  a_l_line : Addr
  d_l_line : FuncData
  F_l_line : FnP K "_law_line" s_l_line a_l_line d_l_line
  g_l_line : mg "_law_line" = some (.ref a_l_line)
  a_l_meant : Addr
  d_l_meant : FuncData
  F_l_meant : FnP K "_law_meant" s_l_meant a_l_meant d_l_meant
  g_l_meant : mg "_law_meant" = some (.ref a_l_meant)
  a_law : Addr
  d_law : FuncData
  F_law : FnP K "law" s_law a_law d_law
  g_law : mg "law" = some (.ref a_law)
  n_abs : mg "abs" = none
  n_all : mg "all" = none
  n_bool : mg "bool" = none
  n_int : mg "int" = none
  n_isinstance : mg "isinstance" = none
  n_len : mg "len" = none
  n_list : mg "list" = none
  n_range : mg "range" = none
  n_str : mg "str" = none
  n_tuple : mg "tuple" = none
  t_BITS : Tok
  k_BITS : mg "BITS" = some (.str "01" t_BITS)
  t_STAR : Tok
  k_STAR : mg "STAR" = some (.str "*" t_STAR)
/-! ### the bag -/
structure BOk (b : Bag) : Prop where
  lo : 0 ≤ b.seed
  hi : b.seed < 2147483648
  len : b.cells.length ≤ 63
abbrev N_l_bag : List Str := ["_law_script", "_law_seed", "_law_cell"]
theorem sc_l_bag : FnScope N_l_bag ["_law_script"] (defScope s_l_bag) := ⟨rfl, rfl, rfl, by decide +kernel, rfl, by decide +kernel, by decide +kernel⟩
def sp_l_bag (K : PySem.W.Frag) : Sp := fun vs H Q _ => ∃ (a : Addr) (ns : List Int), vs = [.ref a] ∧ SqL K H a (ns.map V.int) ∧ ns.length ≤ 63 ∧ (∀ (B C : Addr) (b : Bag) (F H' : Hp), Same F H' → BagAt F H' B C b → BOk b → Q (.ref B) H')
/-! ### the draw -/
def skip0 : List Int → Nat → Nat
  | [], k => k
  | x :: r, k => if x = 0 then skip0 r (k + 1) else k
def stir (s c : Int) : Int := (s ^ 3 + 48271 * s + 2039 * c + 7) % 2147483647
def m_l_draw (b : Bag) (n : Int) : Option (Int × Bag) :=
  if (0 < n ∧ n.natAbs.log2 < 9000) ∧ (0 ≤ b.seed ∧ b.seed < 2147483648 ∧ b.cells.length ≤ sizeLine) then
    match b.cells[skip0 (b.cells.drop b.at_) b.at_]? with
    | some x => some (x % n, { b with at_ := skip0 (b.cells.drop b.at_) b.at_, cells := b.cells.set (skip0 (b.cells.drop b.at_) b.at_) (x / n) })
    | none => some (stir b.seed (b.cnt + 1) / 16 % n, { b with at_ := skip0 (b.cells.drop b.at_) b.at_, seed := stir b.seed (b.cnt + 1), cnt := b.cnt + 1 })
  else none
theorem BagAt.put {F H : Hp} {B C : Addr} {b b' : Bag} (a : BagAt F H B C b) (e : b'.cells = b.cells) : BagAt F (upd H B (.lst [.ref C, .int (b'.at_ : Nat), .int b'.seed, .int b'.cnt])) B C b' :=
  ⟨upd_same, by rw [upd_ne a.ne.symm, a.hC, e], a.ne, a.fB, a.fC⟩
theorem BagAt.cell {F H : Hp} {B C : Addr} {b : Bag} (a : BagAt F H B C b) (cs : List Int) : BagAt F (upd H C (.lst (cs.map V.int))) B C { b with cells := cs } :=
  ⟨by rw [upd_ne a.ne, a.hB], upd_same, a.ne, a.fB, a.fC⟩
theorem atI_map {xs : List Int} {k : Nat} {x : Int} (h : xs[k]? = some x) : atI (xs.map V.int) (k : Nat) = some (.int x) := atI_nat (by rw [List.getElem?_map, h]; rfl)
theorem ixN_nat {n k : Nat} (h : k < n) : ixN n (k : Nat) = some k := by unfold ixN; simp; omega
abbrev N_l_draw : List Str := ["_law_bag_here", "_law_many", "_law_left"]
theorem sc_l_draw : FnScope N_l_draw ["_law_bag_here", "_law_many"] (defScope s_l_draw) := ⟨rfl, rfl, rfl, by decide +kernel, rfl, by decide +kernel, by decide +kernel⟩
def sp_l_draw (K : PySem.W.Frag) : Sp := fun vs H Q _ => ∃ (F : Hp) (B C : Addr) (b : Bag) (y_many : Int) (r : Int) (b' : Bag), vs = [.ref B, .int y_many] ∧ Same F H ∧ BagAt F H B C b ∧ m_l_draw b y_many = some (r, b') ∧ (∀ F' H', Gr (Bc B C) F H F' H' → BagAt F' H' B C b' → Q (.int r) H')
/-! ### alike -/
abbrev N_l_alike : List Str := ["_law_found", "_law_due", "_law_k"]
theorem sc_l_alike : FnScope N_l_alike ["_law_found", "_law_due"] (defScope s_l_alike) := ⟨rfl, rfl, rfl, by decide +kernel, rfl, by decide +kernel, by decide +kernel⟩

/-! ### is_pattern -/
def m_is_pattern_c1  : List Nat → List Str
  | [] => []
  | e14 :: xs_ => if (!decide (e14 ∈ (("01" : Str)).cps.toList)) then (sgn e14) :: m_is_pattern_c1  xs_ else m_is_pattern_c1  xs_
def m_is_pattern (x_text : Str) (x_width : Int) : Option Bool :=
  Option.bind (some (eqS (cutS x_text (some (-(1 : Int))) none) ("*" : Str))) fun x_is_open1 =>
  Option.bind (some (cutS x_text none (some (((x_text.length : Nat) : Int) - (toI x_is_open1))))) fun x_bits4 =>
  if (!eqD (m_is_pattern_c1  (x_bits4).cps.toList) ([] : (List Str))) then (some false) else (some (if x_is_open1 then (decide (((x_bits4.length : Nat) : Int) < x_width)) else (eqI ((x_bits4.length : Nat) : Int) x_width)))
abbrev N_is_pattern : List Str := ["text", "width", "is_open", "bits", "sign"]
theorem sc_is_pattern : FnScope N_is_pattern ["text", "width"] (defScope s_is_pattern) := ⟨rfl, rfl, rfl, by decide +kernel, rfl, by decide +kernel, by decide +kernel⟩
def sp_is_pattern (K : PySem.W.Frag) : Sp := fun vs H Q _ => ∃ (x_text : Str) (x_width : Int) (r : Bool), vs = [.str x_text, .int x_width] ∧ GS x_text ∧ m_is_pattern x_text x_width = some r ∧ (∀ F' H', Gr M0 H H F' H' → Q (.bl r) H')
/-! ### l_bits -/
def m_l_bits_c1  : List Int → Bag → Option (List Str × Bag)
  | [], b => some ([], b)
  | e66 :: xs_, b =>
    bind2 (m_l_draw b (2 : Int)) fun r68 b69 =>
    Option.bind (codeAt ("01" : Str) r68) fun c78 =>
    bind2 (m_l_bits_c1  xs_ b69) fun rest81 b82 => some ((sgn c78) :: rest81, b82)
def m_l_bits (b : Bag) (y_size_here : Int) : Option (Str × Bag) :=
  bind2 (m_l_draw b (4 : Int)) fun r1 b2 =>
  if (eqI r1 (0 : Int)) then (bind2 (m_l_draw b2 (2 : Int)) fun r10 b11 =>
 Option.bind (codeAt ("01" : Str) r10) fun c19 =>
 bind2 (if (decide ((0 : Int) < y_size_here)) then (Option.bind (mulS (sgn c19) y_size_here) fun t26 => bind2 (m_l_draw b11 (2 : Int)) fun r29 b30 => Option.bind (codeAt ("01" : Str) r29) fun c39 => Option.bind (catS t26 (sgn c39)) fun t41 => some ((cutS t41 (some (1 : Int)) (some (y_size_here + (1 : Int)))), b30)) else ( some (("" : Str), b11))) fun c21 b22 =>
 some (c21, b22)) else (Option.bind (rangeO1 y_size_here) fun l53 =>
 bind2 (m_l_bits_c1  l53 b2) fun l62 b63 =>
 Option.bind (joinS ("" : Str) l62) fun t102 =>
 some (t102, b63))
abbrev N_l_bits : List Str := ["_law_bag_here", "_law_size_here", "_law_sign", "_law_k"]
theorem sc_l_bits : FnScope N_l_bits ["_law_bag_here", "_law_size_here"] (defScope s_l_bits) := ⟨rfl, rfl, rfl, by decide +kernel, rfl, by decide +kernel, by decide +kernel⟩
def sp_l_bits (K : PySem.W.Frag) : Sp := fun vs H Q _ => ∃ (F : Hp) (B C : Addr) (b : Bag) (y_size_here : Int) (r : Str) (b' : Bag), vs = [.ref B, .int y_size_here] ∧ Same F H ∧ BagAt F H B C b ∧ m_l_bits b y_size_here = some (r, b') ∧ (∀ F' H', Gr (Bc B C) F H F' H' → BagAt F' H' B C b' → GS r → Q (.str r) H')
/-! ### l_size -/
def m_l_size (b : Bag)  : Option (Int × Bag) :=
  bind2 (m_l_draw b (6 : Int)) fun r1 b2 =>
  bind2 (m_l_draw b2 (30 : Int)) fun r10 b11 =>
  bind2 (m_l_draw b11 (3 : Int)) fun r19 b20 =>
  bind2 (m_l_draw b20 (4 : Int)) fun r35 b36 =>
  Option.bind (atI ([((1 : Int) + r1), ((1 : Int) + r10), (30 : Int), ((1 : Int) + r19)] : List Int) r35) fun t45 =>
  some (t45, b36)
abbrev N_l_size : List Str := ["_law_bag_here"]
theorem sc_l_size : FnScope N_l_size ["_law_bag_here"] (defScope s_l_size) := ⟨rfl, rfl, rfl, by decide +kernel, rfl, by decide +kernel, by decide +kernel⟩
def sp_l_size (K : PySem.W.Frag) : Sp := fun vs H Q _ => ∃ (F : Hp) (B C : Addr) (b : Bag) (r : Int) (b' : Bag), vs = [.ref B] ∧ Same F H ∧ BagAt F H B C b ∧ m_l_size b  = some (r, b') ∧ (∀ F' H', Gr (Bc B C) F H F' H' → BagAt F' H' B C b' → Q (.int r) H')
/-! ### l_one -/
def m_l_one (b : Bag) (y_size_here : Int) (y_some : (List Str)) : Option (Str × Bag) :=
  bind2 (m_l_draw b (y_size_here + (1 : Int))) fun r1 b2 =>
  bind2 (m_l_bits b2 r1) fun r10 b11 =>
  bind2 (m_l_draw b11 (5 : Int)) fun r19 b20 =>
  bind2 (if ((!eqD y_some ([] : (List Str))) && (decide (r19 < (3 : Int)))) then (bind2 (m_l_draw b20 (((y_some).length : Nat) : Int)) fun r52 b53 =>
 Option.bind (atI y_some r52) fun t62 =>
 Option.bind (some (Txt.stripChars t62 ("*" : Str))) fun y_near68 =>
 Option.bind (some (dgetS [(("0" : Str), ("1" : Str)), (("1" : Str), ("0" : Str))] (cutS y_near68 (some (-(1 : Int))) none) ("" : Str))) fun y_turned79 =>
 bind2 (m_l_draw b53 (((y_near68.length : Nat) : Int) + (1 : Int))) fun r83 b84 =>
 bind2 (m_l_draw b84 (2 : Int)) fun r93 b94 =>
 Option.bind (codeAt ("01" : Str) r93) fun c103 =>
 Option.bind (catS y_near68 (sgn c103)) fun t105 =>
 Option.bind (catS (cutS y_near68 none (some (-(1 : Int)))) y_turned79) fun t108 =>
 Option.bind (atI ([(cutS y_near68 none (some r83)), t105, t108] : List Str) r19) fun t120 =>
 some (t120, b94)) else (some (r10, b20))) fun y_bits_here28 b29 =>
  bind2 (if (eqI r19 (4 : Int)) then (bind2 (m_l_bits b29 (y_size_here - ((y_bits_here28.length : Nat) : Int))) fun r140 b141 =>
 Option.bind (catS y_bits_here28 r140) fun t149 =>
 some (t149, b141)) else (some (y_bits_here28, b29))) fun y_bits_here137 b138 =>
  Option.bind (some (cutS y_bits_here137 none (some y_size_here))) fun y_bits_here163 =>
  Option.bind (mulS ("*" : Str) (toI (decide (((y_bits_here163.length : Nat) : Int) < y_size_here)))) fun t167 =>
  Option.bind (catS y_bits_here163 t167) fun t170 =>
  some (t170, b138)
abbrev N_l_one : List Str := ["_law_bag_here", "_law_size_here", "_law_some", "_law_bits_here", "_law_pick", "_law_near", "_law_turned", "_law_cut"]
theorem sc_l_one : FnScope N_l_one ["_law_bag_here", "_law_size_here", "_law_some"] (defScope s_l_one) := ⟨rfl, rfl, rfl, by decide +kernel, rfl, by decide +kernel, by decide +kernel⟩
def sp_l_one (K : PySem.W.Frag) : Sp := fun vs H Q _ => ∃ (F : Hp) (B C : Addr) (b : Bag) (y_size_here : Int) (p_y_some : Addr) (ws_y_some : List V) (y_some : (List Str)) (r : Str) (b' : Bag), vs = [.ref B, .int y_size_here, .ref p_y_some] ∧ Same F H ∧ BagAt F H B C b ∧ SqL K H p_y_some ws_y_some ∧ ws_y_some.length ≤ sizeLine ∧ RL K F ws_y_some y_some ∧ ¬ (Bc B C) p_y_some ∧ m_l_one b y_size_here y_some = some (r, b') ∧ (∀ F' H', Gr (Bc B C) F H F' H' → BagAt F' H' B C b' → GS r → Q (.str r) H')
/-! ### l_line -/
def m_l_line_c1 (y_signs : Str) : List Int → Bag → Option (List Str × Bag)
  | [], b => some ([], b)
  | e223 :: xs_, b =>
    bind2 (m_l_draw b ((y_signs.length : Nat) : Int)) fun r225 b226 =>
    Option.bind (codeAt y_signs r225) fun c237 =>
    bind2 (m_l_line_c1 y_signs xs_ b226) fun rest240 b241 => some ((sgn c237) :: rest240, b241)
def m_l_line (b : Bag) (y_size_here : Int) : Option (Str × Bag) :=
  Option.bind (some (" !\"#$&'()*+,-./0123456789:;<=>?@ABCDEFGHIJKLMNOPQRSTUVWXYZ[\\]^_`" : Str)) fun y_signs1 =>
  Option.bind (catS y_signs1 ("abcdefghijklmnopqrstuvwxyz{|}~\n" : Str)) fun t5 =>
  bind2 (m_l_one b y_size_here ([] : (List Str))) fun r18 b19 =>
  bind2 (m_l_draw b19 (((r18.length : Nat) : Int) + (1 : Int))) fun r28 b29 =>
  bind2 (m_l_draw b29 ((t5.length : Nat) : Int)) fun r38 b39 =>
  Option.bind (codeAt t5 r38) fun c48 =>
  bind2 (m_l_draw b39 (3 : Int)) fun r50 b51 =>
  Option.bind (codeAt ("01*" : Str) r50) fun c60 =>
  bind2 (m_l_draw b51 (2 : Int)) fun r71 b72 =>
  Option.bind (atI ([(sgn c48), (sgn c60)] : List Str) r71) fun t82 =>
  bind2 (m_l_draw b72 (8 : Int)) fun r88 b89 =>
  if (decide (r88 < (3 : Int))) then (Option.bind (atI ([t82, t82, ("" : Str)] : List Str) r88) fun t110 =>
 Option.bind (catS (cutS r18 none (some r28)) t110) fun t116 =>
 Option.bind (atI ([(0 : Int), (1 : Int), (1 : Int)] : List Int) r88) fun t132 =>
 Option.bind (catS t116 (cutS r18 (some (r28 + t132)) none)) fun t137 =>
 some (t137, b89)) else (if (eqI r88 (3 : Int)) then (bind2 (m_l_draw b89 (3 : Int)) fun r140 b141 =>
 Option.bind (mulS ("*" : Str) r140) fun t151 =>
 Option.bind (catS (cutS r18 none (some r28)) t151) fun t154 =>
 Option.bind (catS t154 (cutS r18 (some r28) none)) fun t157 =>
 some (t157, b141)) else (if (eqI r88 (4 : Int)) then (Option.bind (catS t82 r18) fun t160 =>
 Option.bind (catS r18 t82) fun t163 =>
 bind2 (m_l_draw b89 (3 : Int)) fun r177 b178 =>
 Option.bind (atI ([(revS r18), t160, t163] : List Str) r177) fun t189 =>
 some (t189, b178)) else (if (eqI r88 (5 : Int)) then (bind2 (m_l_draw b89 (9 : Int)) fun r195 b196 =>
 Option.bind (rangeO1 r195) fun l206 =>
 bind2 (m_l_line_c1 t5 l206 b196) fun l219 b220 =>
 Option.bind (joinS ("" : Str) l219) fun t265 =>
 some (t265, b220)) else (some (r18, b89)))))
abbrev N_l_line : List Str := ["_law_bag_here", "_law_size_here", "_law_signs", "_law_line_here", "_law_at", "_law_sign", "_law_pick", "_law_k"]
theorem sc_l_line : FnScope N_l_line ["_law_bag_here", "_law_size_here"] (defScope s_l_line) := ⟨rfl, rfl, rfl, by decide +kernel, rfl, by decide +kernel, by decide +kernel⟩
def sp_l_line (K : PySem.W.Frag) : Sp := fun vs H Q _ => ∃ (F : Hp) (B C : Addr) (b : Bag) (y_size_here : Int) (r : Str) (b' : Bag), vs = [.ref B, .int y_size_here] ∧ Same F H ∧ BagAt F H B C b ∧ m_l_line b y_size_here = some (r, b') ∧ (∀ F' H', Gr (Bc B C) F H F' H' → BagAt F' H' B C b' → GS r → Q (.str r) H')
/-! ### l_meant -/
def m_l_meant_l1 (y_line_here : Str) : Nat → Int → (Option (Int))
  | 0, _ => none
  | n_ + 1, y_k =>
    Option.bind (if (decide (y_k < ((y_line_here.length : Nat) : Int))) then (Option.bind (codeAt y_line_here y_k) fun c15 => some ((decide (c15 ∈ (("01" : Str)).cps.toList)))) else some false) fun c10 => if c10 then (Option.bind (some (y_k + (1 : Int))) fun y_k22 =>
    m_l_meant_l1 y_line_here n_ y_k22) else some y_k
def m_l_meant (y_line_here : Str) (y_size_here : Int) : Option Bool :=
  Option.bind (m_l_meant_l1 y_line_here ((y_line_here.length : Nat) + 1) (0 : Int)) fun y_k1 =>
  Option.bind (if (decide (y_k1 ≤ y_size_here)) then (Option.bind (mulS ("*" : Str) (toI (decide (y_k1 < y_size_here)))) fun t30 => some ((eqS (cutS y_line_here (some y_k1) none) t30))) else some false) fun c25 =>
  some c25
abbrev N_l_meant : List Str := ["_law_line_here", "_law_size_here", "_law_k"]
theorem sc_l_meant : FnScope N_l_meant ["_law_line_here", "_law_size_here"] (defScope s_l_meant) := ⟨rfl, rfl, rfl, by decide +kernel, rfl, by decide +kernel, by decide +kernel⟩
def sp_l_meant (K : PySem.W.Frag) : Sp := fun vs H Q _ => ∃ (y_line_here : Str) (y_size_here : Int) (r : Bool), vs = [.str y_line_here, .int y_size_here] ∧ GS y_line_here ∧ m_l_meant y_line_here y_size_here = some r ∧ (∀ F' H', Gr M0 H H F' H' → Q (.bl r) H')
/-! ### law -/
def m_law_l1 (y_size_here : Int) : List Int → Bag → (Option (Lp (Bag) (Bool × Bag)))
  | [], b => some (.go b)
  | e14 :: xs_, b =>
    bind2 (m_l_line b y_size_here) fun r16 b17 =>
    Option.bind (m_l_meant r16 y_size_here) fun r25 =>
    Option.bind (m_is_pattern r16 y_size_here) fun r33 =>
    Option.bind (m_is_pattern r16 y_size_here) fun r41 =>
    Option.bind (some ([r33, r41] : List Bool)) fun y_told56 =>
    Option.bind (m_l_alike y_told56 ([r25, r25] : List Bool)) fun r71 =>
    if (!r71) then (some (.ret (false, b17))) else (m_law_l1 y_size_here xs_ b17)
def m_law_c2  : List Str → Option (List Bool)
  | [] => some []
  | e116 :: xs_ =>
    Option.bind (m_is_pattern e116 (1 : Int)) fun r120 =>
    Option.bind (m_law_c2  xs_) fun rest131 => some (r120 :: rest131)
def m_law_c3  : List Str → Option (List Bool)
  | [] => some []
  | e234 :: xs_ =>
    Option.bind (m_is_pattern e234 (30 : Int)) fun r238 =>
    Option.bind (m_law_c3  xs_) fun rest252 => some (r238 :: rest252)
def m_law (b : Bag)  : Option (Bool × Bag) :=
  bind2 (m_l_size b ) fun r1 b2 =>
  bindL1 (m_law_l1 r1 (rangeL (0 : Int) 8) b2) (fun b10 => Option.bind (some ([("" : Str), ("*" : Str), ("0*" : Str), ("1" : Str)] : List Str)) fun y_some101 =>
 Option.bind (m_law_c2  y_some101) fun l113 =>
 if (!eqD l113 ([false, true, false, true] : List Bool)) then (some (false, b10)) else (Option.bind (mulS ("0" : Str) (30 : Int)) fun t167 =>
 Option.bind (mulS ("0" : Str) (30 : Int)) fun t170 =>
 Option.bind (catS t170 ("*" : Str)) fun t173 =>
 Option.bind (mulS ("1" : Str) (29 : Int)) fun t176 =>
 Option.bind (catS t176 ("*" : Str)) fun t179 =>
 Option.bind (mulS ("1" : Str) (31 : Int)) fun t182 =>
 Option.bind (mulS ("0" : Str) (4000 : Int)) fun t185 =>
 Option.bind (mulS ("0" : Str) (29 : Int)) fun t188 =>
 Option.bind (catS t188 ("*" : Str)) fun t191 =>
 Option.bind (mulS ("0" : Str) (3000 : Int)) fun t194 =>
 Option.bind (catS t191 t194) fun t197 =>
 Option.bind (some ([t167, t173, t179, t182, t185, t197] : List Str)) fun y_some213 =>
 Option.bind (m_law_c3  y_some213) fun l231 =>
 some ((eqD l231 ([true, false, true, false, false, false] : List Bool)), b10))) (fun r_ => some r_)
abbrev N_law : List Str := ["_law_script", "_law_bag_here", "_law_size_here", "_law_k", "_law_line_here", "_law_due", "_law_told", "_law_some"]
theorem sc_law : FnScope N_law ["_law_script"] (defScope s_law) := ⟨rfl, rfl, rfl, by decide +kernel, rfl, by decide +kernel, by decide +kernel⟩
def sp_law (K : PySem.W.Frag) : Sp := fun vs H Q _ => ∃ (a : Addr) (ns : List Int), vs = [.ref a] ∧ SqL K H a (ns.map V.int) ∧ ns.length ≤ 63 ∧ (∀ H', Q (.bl true) H')
def kb_is_pattern_0_g {α : Type} : List α → List α → List α
  | [], [w0, w1] => [w1, w0]
  | _, _ => []
theorem kb_is_pattern_0 {K : PySem.W.Frag} {f : Addr} {fd : FuncData} (F : FnP K "is_pattern" s_is_pattern f fd) : KBinds K fd ["text", "width"] ["width", "text"] kb_is_pattern_0_g kb_is_pattern_0_g := by
  obtain ⟨kV, doc, pm, an, cdv, ct, rfl⟩ := fd_plain F
  refine ⟨fun s us ws _ hl => ?_, fun {vs us zs ws} h1 h2 => ?_⟩
  · unfold kb_is_pattern_0_g at hl ⊢
    split at hl
    · exact BindsTo.of_eq rfl
    · cases hl
  · rcases h1 with _ | ⟨_, _⟩ <;> rcases h2 with _ | ⟨r_w0, _ | ⟨r_w1, _ | ⟨_, _⟩⟩⟩ <;> first | exact (.cons r_w1 (.cons r_w0 .nil)) | exact .nil
end K01
namespace K01
open PySem PySem.Spec PyProof.Rows L2 TL G
theorem ok_is_pattern {P : Program} {w : World} {K : PySem.W.Frag} {mg : Str → Option Value} {base : Heap} (T : Txt K mg) : FnOk P w K mg base CX0 1 T.a_is_pattern T.d_is_pattern ["text", "width"] (sp_is_pattern K) := by
  refine fd_ok T.F_is_pattern sc_is_pattern (fun vs H Q E h => ?_) (fun cdv A outer s H0 vs Q E hr h => ?_)
  · obtain ⟨_, _, _, rfl, _⟩ := h
    rfl
  · obtain ⟨x_text, x_width, r, rfl, gs_x_text, hm, hQ⟩ := h
    refine ⟨_, (pss_cons (ps_set (i := 2) sc_is_pattern.nd rfl (.inl rfl) (pe_cmpR op_eq (pe_slice sl_str (pv 0) (po_some (pe_un un_neg pe_int)) po_none) (pe_glob (v := (V.str ("*" : Str))) rfl T.k_STAR ⟨_, rfl⟩) (nomark _))) (pss_cons (ps_set (i := 3) sc_is_pattern.nd rfl (.inl rfl) (pe_slice sl_str (pv 0) po_none (po_some (pe_op op_sub (pe_callB call_len_str (by rfl) T.n_len (by decide +kernel) (pa_cons (pv 0) pa_nil)) (pe_callTy call_toI (by rfl) T.n_int (by decide +kernel) (pa_cons (pv 2) pa_nil)))))) (pss_cons (ps_if (pt_cmpR (op_neD hr.units) (pe_lc (own := [("sign", 4)]) rfl sc_is_pattern.nd (pi_str (pv 3)) (blkOk_by (own := [("sign", 4)]) (N := N_is_pattern) (sc := defScope s_is_pattern) (by decide +kernel)) (fun _ _ _ _ _ => (pg_name (i := 4) sc_is_pattern.nd rfl (Or.inl rfl))) (fun _ _ _ _ _ => (pts_one (pt_cmpR op_notIn_sign (pv 4) (pe_glob (v := (V.str ("01" : Str))) rfl T.k_BITS ⟨_, rfl⟩) rfl))) (fun _ _ _ _ _ => (pv 4))) (pe_lst pa_nil) (nomark _)) (pss_one (ps_ret pe_bl)) pss_nil) (pss_one (ps_ret (pe_ifExp (pt_val (pv 2)) (pe_cmpR op_lt (pe_callB call_len_str (by rfl) T.n_len (by decide +kernel) (pa_cons (pv 3) pa_nil)) (pv 1) (nomark _)) (pe_cmpR op_eq (pe_callB call_len_str (by rfl) T.n_len (by decide +kernel) (pa_cons (pv 3) pa_nil)) (pv 1) (nomark _)))))))), ?_⟩
    have g0 : Gr M0 H0 H0 H0 H0 := Gr.refl (Same.refl _)
    unfold m_is_pattern at hm
    refine p_seq ?_
    refine p_asg ?_
    refine ⟨(V.str x_text), rfl, _, rfl, _, rfl, _, rfl, (gs_x_text : GS x_text).len, rfl, ?_⟩
    obtain ⟨x_is_open1, hb2, hm⟩ := bnd hm
    have hx3 : (eqS (cutS x_text (some (-(1 : Int))) none) ("*" : Str)) = x_is_open1 := sjoin hb2
    refine p_nm (v' := (V.bl x_is_open1)) (congrArg V.bl hx3) ?_
    refine p_nx ?_
    refine p_seq ?_
    refine p_asg ?_
    refine ⟨(V.str x_text), rfl, (V.str x_text), rfl, _, rfl, (gs_x_text : GS x_text).len, (V.bl x_is_open1), rfl, _, rfl, _, _, rfl, rfl, _, rfl, _, rfl, (gs_x_text : GS x_text).len, ?_⟩
    obtain ⟨x_bits4, hb5, hm⟩ := bnd hm
    have hx6 : (cutS x_text none (some (((x_text.length : Nat) : Int) - (toI x_is_open1)))) = x_bits4 := sjoin hb5
    have gs7 : GS x_bits4 := hx6 ▸ ((GS.cut gs_x_text none (some (((x_text.length : Nat) : Int) - (toI x_is_open1)))) : GS (cutS x_text none (some (((x_text.length : Nat) : Int) - (toI x_is_open1)))))
    refine p_nm (v' := (V.str x_bits4)) (congrArg V.str hx6) ?_
    refine p_nx ?_
    refine p_seq ?_
    refine p_if ?_
    refine ⟨(V.str x_bits4), rfl, x_bits4, rfl, fun D8 nD9 => ?_⟩
    have g10 := g0.own (o := (.lst [])) nD9
    have ow11 : Ow H0 H0 (upd H0 D8 (.lst [])) D8 [] := Ow.new g0 nD9
    refine lc_str (z := x_bits4) (fun i H' => ∃ (F' : Hp) (acc : List V) (ds : List Str), Gr M0 H0 H0 F' H' ∧ Same H0 F' ∧ Ow H0 F' H' D8 acc ∧ RL K F' acc ds ∧ acc.length ≤ i ∧ ds ++ m_is_pattern_c1  ((x_bits4).cps.toList.drop i) = (m_is_pattern_c1  (x_bits4).cps.toList)) ?_ ?_ ?_
    · exact ⟨H0, [], [], g10, Same.refl _, ow11, RpA.nil, Nat.le_refl _, rfl⟩
    · intro i xv13 H' hx hP
      obtain ⟨F', acc, ds, g0_, sm_, owD_, hA_, hi_, hr_⟩ := hP
      have he15 := str_at hx
      rw [drop_at he15, m_is_pattern_c1.eq_2] at hr_
      refine ⟨rfl, (V.str (sgn xv13)), rfl, xv13, ("01" : Str), rfl, rfl, _, rfl, (iteB (fun hc => ?_) (fun hc => ?_))⟩
      · rw [if_pos hc] at hr_
        have hA16 : RL K F' (acc ++ [(V.str (sgn xv13))]) (ds ++ [((sgn xv13) : Str)]) := RL.snoc hA_ (Rp.str (sgn xv13) (GS.sg gs7 (List.mem_of_getElem? he15)))
        refine ⟨(V.str (sgn xv13)), rfl, acc, owD_.h, (lt_line hi_ (str_lt hx) (gs7 : GS x_bits4).len), ?_⟩
        have g17 := g0_.put (o := (.lst (acc ++ [(V.str (sgn xv13))]))) owD_
        have ow18 := owD_.put (us := (acc ++ [(V.str (sgn xv13))]))
        exact ⟨F', (acc ++ [(V.str (sgn xv13))]), (ds ++ [(sgn xv13)]), g17, sm_, ow18, hA16, (by rw [List.length_append]; exact Nat.succ_le_succ hi_), (snoc_rest hr_)⟩
      · rw [if_neg (ne_true_of_eq_false hc)] at hr_
        exact ⟨F', acc, ds, g0_, sm_, owD_, hA_, (Nat.le_succ_of_le hi_), hr_⟩
    intro H19 hP
    obtain ⟨F20, acc21, ds22, g024, sm25, owD26, hA27, hi28, hr29⟩ := hP
    rw [drop_end str_size] at hr29
    rw [m_is_pattern_c1.eq_1, List.append_nil] at hr29
    obtain rfl := hr29
    have hl30 : acc21.length ≤ sizeLine := Nat.le_trans hi28 (gs7 : GS x_bits4).len
    refine ⟨(by show 0 ≤ sizeLine; decide), fun p31 np32 => ?_⟩
    have ne33 := owD26.ne np32
    have g34 := g024.own (o := (.lst [])) np32
    have ow35 := owD26.own (o := (.lst [])) np32
    have ow36 : Ow H0 F20 (upd H19 p31 (.lst [])) p31 [] := Ow.new g024 np32
    have rH38 : R K (upd H19 p31 (.lst [])) (V.ref D8) (m_is_pattern_c1  (x_bits4).cps.toList) := (R.mkl ow35.sq hl30 (RpA.up hA27 g34.fh))
    have rH39 : R K (upd H19 p31 (.lst [])) (V.ref p31) ([] : (List Str)) := (R.mkl ow36.sq (by show 0 ≤ sizeLine; decide) (RpA.up RpA.nil g34.fh))
    refine ⟨_, _, (Rp.dp _ _ rH38), (Rp.dp _ _ rH39), (R.shaped rH38), (R.shaped rH39), _, rfl, (iteB (fun hc => ?_) (fun hc => ?_))⟩
    · have hm := ifT hc hm
      refine p_ret ?_
      obtain rfl := sjoin hm
      exact (hQ _ _ g34)
    · have hm := ifF hc hm
      refine p_next ?_
      refine p_nx ?_
      refine p_ret ?_
      refine ⟨(V.bl x_is_open1), rfl, _, rfl, ?_⟩
      refine ifJ (M := M0) (F := F20) (P := fun v' F' H' => v' = V.bl ((if x_is_open1 then (decide (((x_bits4.length : Nat) : Int) < x_width)) else (eqI ((x_bits4.length : Nat) : Int) x_width)) : Bool)) (fun ha => ?_) (fun ha => ?_) ?_
      · intro Q42 q43
        refine ⟨(V.str x_bits4), rfl, _, rfl, (gs7 : GS x_bits4).len, (V.int x_width), rfl, _, _, rfl, rfl, (q43 _ _ _ (Gr.refl (M := M0) g34.fh) (congrArg V.bl (if_pos ha).symm))⟩
      · intro Q44 q45
        refine ⟨(V.str x_bits4), rfl, _, rfl, (gs7 : GS x_bits4).len, (V.int x_width), rfl, rfl, (q45 _ _ _ (Gr.refl (M := M0) g34.fh) (congrArg V.bl (if_neg (ne_true_of_eq_false ha)).symm))⟩
      intro v49 F46 H47 g48 hp50
      have g52 := Gr.trans g34 g48
      have ow53 := ow35.gr0 g48
      have ow54 := ow36.gr0 g48
      obtain rfl := hp50
      obtain rfl := sjoin hm
      exact (hQ _ _ g52)
end K01
namespace K01
open PySem PySem.Spec PyProof.Rows L2 TL G
theorem ok_l_draw {P : Program} {w : World} {K : PySem.W.Frag} {mg : Str → Option Value} {base : Heap} (T : Txt K mg) : FnOk P w K mg base CX0 1 T.a_l_draw T.d_l_draw ["_law_bag_here", "_law_many"] (sp_l_draw K) := by
  refine fd_ok T.F_l_draw sc_l_draw (fun vs H Q E h => ?_) (fun cdv A outer s H0 vs Q E hr h => ?_)
  · obtain ⟨_, _, _, _, _, _, _, rfl, _⟩ := h
    rfl
  · obtain ⟨F0, B, C, b, n, r, b', rfl, hS0, hB, hm, hQ⟩ := h
    refine ⟨_, (pss_cons (ps_while PassesOwn.never (PW.pt (pw_and (pt_cmpR op_lt (pe_ix ix_list (pv 0) pe_int (fun _ _ => rfl)) (pe_callB call_lenL (by rfl) T.n_len (by decide +kernel) (pa_cons (pe_ix ix_list (pv 0) pe_int (fun _ _ => rfl)) pa_nil)) (nomark _))
        (pw_and1 (pt_cmpR op_eq (pe_ix ix_list (pe_ix ix_list (pv 0) pe_int (fun _ _ => rfl)) (pe_ix ix_list (pv 0) pe_int (fun _ _ => rfl)) (fun _ _ => rfl)) pe_int (nomark _)))))
        (pss_one (ps_asg (pe_op op_add (pe_ix ix_list (pv 0) pe_int (fun _ _ => rfl)) pe_int) (pg_sub (pv 0) pe_int set_list))))
      (pss_cons (ps_if (pt_cmpR op_lt (pe_ix ix_list (pv 0) pe_int (fun _ _ => rfl)) (pe_callB call_lenL (by rfl) T.n_len (by decide +kernel) (pa_cons (pe_ix ix_list (pv 0) pe_int (fun _ _ => rfl)) pa_nil)) (nomark _))
          (pss_cons (ps_set (i := 2) sc_l_draw.nd rfl (.inl rfl) (pe_ix ix_list (pe_ix ix_list (pv 0) pe_int (fun _ _ => rfl)) (pe_ix ix_list (pv 0) pe_int (fun _ _ => rfl)) (fun _ _ => rfl)))
            (pss_cons (ps_asg (pe_op op_fdivW (pv 2) (pv 1)) (pg_sub (pe_ix ix_list (pv 0) pe_int (fun _ _ => rfl)) (pe_ix ix_list (pv 0) pe_int (fun _ _ => rfl)) set_list))
              (pss_one (ps_ret (pe_op op_mod (pv 2) (pv 1)))))) pss_nil)
      (pss_cons (ps_asg (pe_op op_add (pe_ix ix_list (pv 0) pe_int (fun _ _ => rfl)) pe_int) (pg_sub (pv 0) pe_int set_list))
      (pss_cons (ps_asg (pe_op op_mod (pe_op op_add (pe_op op_add (pe_op op_add (pe_op op_pow (pe_ix ix_list (pv 0) pe_int (fun _ _ => rfl)) pe_int) (pe_op op_mul pe_int (pe_ix ix_list (pv 0) pe_int (fun _ _ => rfl)))) (pe_op op_mul pe_int (pe_ix ix_list (pv 0) pe_int (fun _ _ => rfl)))) pe_int) pe_int) (pg_sub (pv 0) pe_int set_list))
      (pss_one (ps_ret (pe_op op_mod (pe_op op_fdiv (pe_ix ix_list (pv 0) pe_int (fun _ _ => rfl)) pe_int) (pv 1)))))))), ?_⟩
    have g0 : Gr (Bc B C) F0 H0 F0 H0 := Gr.refl hS0
    unfold m_l_draw at hm
    have hc : (0 < n ∧ n.natAbs.log2 < 9000) ∧ (0 ≤ b.seed ∧ b.seed < 2147483648 ∧ b.cells.length ≤ sizeLine) := by
      by_cases hc : (0 < n ∧ n.natAbs.log2 < 9000) ∧ (0 ≤ b.seed ∧ b.seed < 2147483648 ∧ b.cells.length ≤ sizeLine)
      · exact hc
      · rw [if_neg hc] at hm; cases hm
    rw [if_pos hc] at hm
    obtain ⟨⟨hn, hn2⟩, hs0, hs1, hsz⟩ := hc
    obtain ⟨cs, a0, sd, ct⟩ := b
    simp only at hm hs0 hs1 hsz
    generalize hK : skip0 (cs.drop a0) a0 = k at hm
    have hpow : CPow sd 3 := ⟨by decide, by decide, by omega⟩
    have lB : ∀ {H : Hp} {a : Nat} {z c : Int}, BagAt F0 H B C ⟨cs, a, z, c⟩ → SqL K H B [V.ref C, .int (a : Nat), .int z, .int c] := fun h => .inl (.inl h.hB)
    have lC : ∀ {H : Hp} {b1 : Bag}, BagAt F0 H B C b1 → SqL K H C (b1.cells.map V.int) := fun h => .inl (.inl h.hC)
    have hz : (cs.map V.int).length = cs.length := List.length_map ..
    refine p_seq ?_
    refine ⟨fun i σ' H' => ∃ a : Nat, σ' = [some (.ref B), some (.int n), none] ∧ Gr (Bc B C) F0 H0 F0 H' ∧ BagAt F0 H' B C ⟨cs, a, sd, ct⟩ ∧ skip0 (cs.drop a) a = k ∧ cs.length - a ≤ i, ⟨cs.length, a0, rfl, g0, hB, hK, Nat.sub_le _ _⟩, ?_⟩
    intro i σ1 H1 hP
    obtain ⟨a, rfl, g, hB, hK, hi⟩ := hP
    refine ⟨_, rfl, _, _, 1, .int (a : Nat), rfl, rfl, lB hB, rfl, _, rfl, _, _, 0, .ref C, rfl, rfl, lB hB, rfl, C, _, _, rfl, .inl (lC hB), hz, _, _, rfl, rfl, _, rfl, ?_⟩
    by_cases hl : a < cs.length
    · obtain ⟨x, hx⟩ : ∃ x, cs[a]? = some x := ⟨_, List.getElem?_eq_getElem hl⟩
      rw [drop_at hx] at hK
      refine ifTr (decide_eq_true (Int.ofNat_lt.mpr hl)) ?_
      refine ⟨_, rfl, _, _, 0, .ref C, rfl, rfl, lB hB, rfl, _, rfl, _, _, 1, .int (a : Nat), rfl, rfl, lB hB, rfl, _, _, (a : Nat), .int x, rfl, rfl, lC hB, atI_map hx, rfl, _, rfl, ?_⟩
      by_cases h0 : x = 0
      · subst h0
        refine ifTr (decide_eq_true rfl) ?_
        refine ⟨fun σ' H' => ∃ a : Nat, σ' = [some (.ref B), some (.int n), none] ∧ Gr (Bc B C) F0 H0 F0 H' ∧ BagAt F0 H' B C ⟨cs, a, sd, ct⟩ ∧ skip0 (cs.drop a) a = k ∧ cs.length - a ≤ i - 1, fun _ _ ⟨z1, z2, z3, z4, z5, z6⟩ => ⟨i - 1, by omega, z1, z2, z3, z4, z5, z6⟩, ?_⟩
        refine p_asg ?_
        refine ⟨_, rfl, _, _, 1, .int (a : Nat), rfl, rfl, lB hB, rfl, _, _, rfl, rfl, _, rfl, B, _, 1, 1, rfl, rfl, hB.hB, rfl, ?_⟩
        exact ⟨a + 1, rfl, g.mut hB.fB (.inr (.inl rfl)), BagAt.put (b' := ⟨cs, a + 1, sd, ct⟩) hB rfl, by rw [skip0, if_pos rfl] at hK; exact hK, by omega⟩
      · refine ifFr (decide_eq_false fun e => h0 (V.int.inj e)) ?_
        rw [skip0, if_neg h0] at hK
        subst hK
        rw [hx] at hm
        obtain ⟨rfl, rfl⟩ := pjoin hm
        refine p_nx ?_
        refine p_seq ?_
        refine p_if ?_
        refine ⟨_, rfl, _, _, 1, .int (a : Nat), rfl, rfl, lB hB, rfl, _, rfl, _, _, 0, .ref C, rfl, rfl, lB hB, rfl, C, _, _, rfl, .inl (lC hB), hz, _, _, rfl, rfl, _, rfl, ?_⟩
        refine ifTr (decide_eq_true (Int.ofNat_lt.mpr hl)) ?_
        refine p_seq ?_
        refine p_asg ?_
        refine ⟨_, rfl, _, _, 0, .ref C, rfl, rfl, lB hB, rfl, _, rfl, _, _, 1, .int (a : Nat), rfl, rfl, lB hB, rfl, _, _, (a : Nat), .int x, rfl, rfl, lC hB, atI_map hx, ?_⟩
        refine p_name ?_
        refine p_nx ?_
        refine p_seq ?_
        refine p_asg ?_
        refine ⟨.int x, rfl, .int n, rfl, x, n, rfl, rfl, ⟨hn, hn2⟩, _, rfl, _, _, 0, .ref C, rfl, rfl, lB hB, rfl, _, rfl, _, _, 1, .int (a : Nat), rfl, rfl, lB hB, rfl, C, _, (a : Nat), a, rfl, rfl, hB.hC, ixN_nat (by rw [hz]; exact hl), ?_⟩
        refine p_nx ?_
        refine p_ret ?_
        refine ⟨.int x, rfl, .int n, rfl, x, n, rfl, rfl, hn, ?_⟩
        have e : (cs.map V.int).set a (V.int (x / n)) = (cs.set a (x / n)).map V.int := List.map_set.symm
        rw [e]
        exact hQ _ _ (g.mut hB.fC (.inr (.inr rfl))) (BagAt.cell hB _)
    · refine ifFr (decide_eq_false fun e => hl (Int.ofNat_lt.mp e)) ?_
      have hd : cs.drop a = [] := List.drop_eq_nil_of_le (by omega)
      rw [hd, skip0] at hK
      subst hK
      rw [List.getElem?_eq_none (by omega)] at hm
      obtain ⟨rfl, rfl⟩ := pjoin hm
      refine p_nx ?_
      refine p_seq ?_
      refine p_if ?_
      refine ⟨_, rfl, _, _, 1, .int (a : Nat), rfl, rfl, lB hB, rfl, _, rfl, _, _, 0, .ref C, rfl, rfl, lB hB, rfl, C, _, _, rfl, .inl (lC hB), hz, _, _, rfl, rfl, _, rfl, ?_⟩
      refine ifFr (decide_eq_false fun e => hl (Int.ofNat_lt.mp e)) ?_
      refine p_next ?_
      refine p_nx ?_
      refine p_seq ?_
      refine p_asg ?_
      refine ⟨_, rfl, _, _, 3, .int ct, rfl, rfl, lB hB, rfl, _, _, rfl, rfl, _, rfl, B, _, 3, 3, rfl, rfl, hB.hB, rfl, ?_⟩
      have hB2 := BagAt.put (b' := ⟨cs, a, sd, ct + 1⟩) hB rfl
      have g2 := g.mut (o := .lst [.ref C, .int (a : Nat), .int sd, .int (ct + 1)]) hB.fB (.inr (.inl rfl))
      refine p_nx ?_
      refine p_seq ?_
      refine p_asg ?_
      refine ⟨_, rfl, _, _, 2, .int sd, rfl, rfl, lB hB2, rfl, _, _, rfl, rfl, hpow, _, rfl, _, _, 2, .int sd, rfl, rfl, lB hB2, rfl, _, _, rfl, rfl, (.inl ⟨by decide, by decide⟩), _, _, rfl, rfl, _, rfl, _, _, 3, .int (ct + 1), rfl, rfl, lB hB2, rfl, _, _, rfl, rfl, (.inl ⟨by decide, by decide⟩), _, _, rfl, rfl, _, _, rfl, rfl, _, _, rfl, rfl, (show (0 : Int) < 2147483647 by decide), _, rfl, B, _, 2, 2, rfl, rfl, hB2.hB, rfl, ?_⟩
      have hB3 := BagAt.put (b' := ⟨cs, a, stir sd (ct + 1), ct + 1⟩) hB2 rfl
      have g3 := g2.mut (o := .lst [.ref C, .int (a : Nat), .int (stir sd (ct + 1)), .int (ct + 1)]) hB2.fB (.inr (.inl rfl))
      refine p_nx ?_
      refine p_ret ?_
      refine ⟨_, rfl, _, _, 2, .int (stir sd (ct + 1)), rfl, rfl, lB hB3, rfl, _, _, rfl, rfl, ⟨by decide, by decide⟩, .int n, rfl, _, _, rfl, rfl, hn, ?_⟩
      exact hQ _ _ g3 hB3

end K01
namespace K01
open PySem PySem.Spec PyProof.Rows L2 TL G
theorem ok_l_bag {P : Program} {w : World} {K : PySem.W.Frag} {mg : Str → Option Value} {base : Heap} (T : Txt K mg) : FnOk P w K mg base CX0 1 T.a_l_bag T.d_l_bag ["_law_script"] (sp_l_bag K) := by
  refine fd_ok T.F_l_bag sc_l_bag (fun vs H Q E h => ?_) (fun cdv A outer s H0 vs Q E hr h => ?_)
  · obtain ⟨_, _, rfl, _⟩ := h
    rfl
  · obtain ⟨a, ns, rfl, hS, hl, hQ⟩ := h
    refine ⟨_, (pss_cons (ps_set (i := 1) sc_l_bag.nd rfl (.inl rfl) pe_int)
      (pss_cons (ps_for PassesOwn.never rfl (pi_list (pe_slice sl_list (pv 0) po_none (po_some pe_int))) (pg_name (i := 2) sc_l_bag.nd rfl (Or.inl rfl))
          (pss_one (ps_set (i := 1) sc_l_bag.nd rfl (.inl rfl) (pe_op op_mod (pe_op op_add (pe_op op_add (pe_op op_mul (pv 1) pe_int) (pe_op op_mod (pv 2) pe_int)) pe_int) pe_int))))
      (pss_one (ps_ret (pe_lst (pa_cons (pe_lc (own := [("_law_cell", 2)]) rfl sc_l_bag.nd (pi_list (pe_slice sl_list (pv 0) po_none (po_some pe_int)))
          (blkOk_by (own := [("_law_cell", 2)]) (N := N_l_bag) (sc := defScope s_l_bag) (by decide +kernel)) (fun _ _ _ _ _ => pg_name (i := 2) sc_l_bag.nd rfl (Or.inl rfl)) (fun _ _ _ _ _ => pts_nil)
          (fun _ _ _ _ _ => pe_op op_mod (pe_callB call_abs (by rfl) T.n_abs (by decide +kernel) (pa_cons (pv 2) pa_nil)) (pe_op op_powW (pe_op op_pow pe_int pe_int) pe_int)))
        (pa_cons pe_int (pa_cons (pv 1) (pa_cons pe_int pa_nil))))))))), ?_⟩
    have g0 : Gr M0 (fun _ => none) H0 (fun _ => none) H0 := Gr.refl (fun _ _ h => nomatch h)
    have hcut : ∀ (lo hi : Option Int), cutV (ns.map V.int) lo hi = (cutL ns lo hi).map V.int := fun lo hi => by
      unfold cutV cutL
      rw [List.length_map, List.map_take, List.map_drop]
    have hcl : ∀ (lo hi : Option Int), (cutL ns lo hi).length ≤ 63 := fun lo hi => by
      unfold cutL
      rw [List.length_take, List.length_drop]
      omega
    refine p_seq ?_
    refine p_asg ?_
    refine p_name ?_
    refine p_nx ?_
    refine p_seq ?_
    refine p_for ?_
    refine ⟨.ref a, rfl, 60, rfl, a, ns.map V.int, rfl, hS, fun p np => ?_⟩
    rw [hcut]
    generalize hcs : cutL ns none (some 60) = cs
    have hc1 : cs.length ≤ 63 := by rw [← hcs]; exact hcl _ _
    have hc2 : (cs.map V.int).length = cs.length := List.length_map ..
    have g1 := g0.own (o := .lst (cs.map V.int)) np
    have ow1 : Ow H0 (fun _ => none) _ p (cs.map V.int) := Ow.new g0 np
    generalize hH1 : upd H0 p (.lst (cs.map V.int)) = H1 at g1 ow1 ⊢
    refine ⟨p, rfl, ⟨_, ow1.sq⟩, ?_⟩
    refine for_list (xs := cs.map V.int) (fun i σ' H' => ∃ (z : Int) (c : Option V), σ' = [some (.ref a), some (.int z), c] ∧ 0 ≤ z ∧ z < 2147483648 ∧ H' = H1) ⟨29, none, rfl, by decide, by decide, rfl⟩ (fun i σ' H' _ hP => ?_) (fun i x σ' H' hx hP => ?_) (fun σ' H' hP => ?_)
    · obtain ⟨z, c, _, _, _, rfl⟩ := hP
      exact ow1.sq
    · obtain ⟨z, c, rfl, h1, h2, rfl⟩ := hP
      obtain ⟨x, rfl⟩ : ∃ x', x = V.int x' := by
        rw [List.getElem?_map] at hx
        obtain ⟨y, _, e⟩ := Option.map_eq_some_iff.mp hx
        exact ⟨y, e.symm⟩
      refine p_asg ?_
      refine ⟨.int z, rfl, _, _, rfl, rfl, (.inr ⟨by decide, by decide⟩), .int x, rfl, _, _, rfl, rfl, (show (0 : Int) < 2147483629 by decide), _, _, rfl, rfl, _, _, rfl, rfl, _, _, rfl, rfl, (show (0 : Int) < 2147483647 by decide), ?_⟩
      refine ⟨_, _, rfl, Int.emod_nonneg _ (by decide), ?_, rfl⟩
      have := Int.emod_lt_of_pos (z * 69621 + x % 2147483629 + 1) (show (0 : Int) < 2147483647 by decide)
      omega
    · obtain ⟨z, c, rfl, h1, h2, rfl⟩ := hP
      refine p_nx ?_
      refine p_ret ?_
      have hS1 : SqL K H' a (ns.map V.int) := g1.seq id hS
      refine ⟨.ref a, rfl, 60, rfl, a, ns.map V.int, rfl, hS1, fun p2 np2 => ?_⟩
      rw [hcut, hcs]
      have g2 := g1.own (o := .lst (cs.map V.int)) np2
      have ow2 : Ow H0 (fun _ => none) _ p2 (cs.map V.int) := Ow.new g1 np2
      generalize hH2 : upd H' p2 (.lst (cs.map V.int)) = H2 at g2 ow2 ⊢
      refine ⟨p2, rfl, ⟨_, ow2.sq⟩, fun D nD => ?_⟩
      refine lc_list (xs := cs.map V.int) (fun i H' => ∃ ds : List Int, ds.length = i ∧ H' = upd H2 D (.lst (ds.map V.int))) ⟨[], rfl, rfl⟩ (fun i H' _ hP => ?_) (fun i x H' hx hP => ?_) (fun H' hP => ?_)
      · obtain ⟨ds, _, rfl⟩ := hP
        exact (ow2.own nD).sq
      · obtain ⟨ds, hds, rfl⟩ := hP
        have hi : i < cs.length := by rw [← hc2]; exact (List.getElem?_eq_some_iff.mp hx).1
        obtain ⟨x, rfl⟩ : ∃ x', x = V.int x' := by
          rw [List.getElem?_map] at hx
          obtain ⟨y, _, e⟩ := Option.map_eq_some_iff.mp hx
          exact ⟨y, e.symm⟩
        refine ⟨rfl, p_yes ?_⟩
        refine ⟨.int x, rfl, x, rfl, _, _, rfl, rfl, ⟨by decide, by decide, by decide⟩, _, _, rfl, rfl, ⟨by decide, by decide +kernel⟩, _, _, rfl, rfl, (show (0 : Int) < ((10 : Int) ^ (60 : Int).toNat) ^ (10 : Int).toNat by decide +kernel), ?_⟩
        refine ⟨_, upd_same, ?_, ds ++ [(if x < 0 then -x else x) % ((10 : Int) ^ (60 : Int).toNat) ^ (10 : Int).toNat], ?_, ?_⟩
        · rw [List.length_map, sizeLine_eq]; omega
        · rw [List.length_append, hds]; rfl
        · rw [upd_upd, List.map_append]; rfl
      · obtain ⟨ds, hds, rfl⟩ := hP
        rw [hc2] at hds
        refine ⟨.int z, rfl, (by show 4 ≤ sizeLine; decide), fun B nB => ?_⟩
        have hne : D ≠ B := fun e => by rw [← e, upd_same] at nB; cases nB
        exact hQ B D ⟨ds, 0, z, 0⟩ (fun _ => none) _ (fun _ _ h => nomatch h) ⟨upd_same, by rw [upd_ne hne, upd_same], hne.symm, rfl, rfl⟩ ⟨h1, h2, by show ds.length ≤ 63; omega⟩

end K01
namespace K01
open PySem PySem.Spec PyProof.Rows L2 TL G
theorem ok_al1 {P : Program} {w : World} {K : PySem.W.Frag} {mg : Str → Option Value} {base : Heap} (T : Txt K mg) (n : Nat) (ih : FnOk P w K mg base CX0 n T.a_l_alike T.d_l_alike ["_law_found", "_law_due"] (spA n K)) : FnOk P w K mg base CX0 (n + 1) T.a_l_alike T.d_l_alike ["_law_found", "_law_due"] (sp_alike n K) := by
  have b_l_alike := T.F_l_alike.bindsN (ps := ["_law_found", "_law_due"]) fun _ _ _ _ _ _ us hl => match us, hl with | [_, _], _ => rfl
  refine fd_ok T.F_l_alike sc_l_alike (fun vs H Q E h => ?_) (fun cdv A outer s H0 vs Q E hr h => ?_)
  · obtain ⟨_, _, _, rfl, _⟩ := h
    rfl
  · obtain ⟨v1, v2, d, rfl, r1, r2, hd, hQ⟩ := h
    refine ⟨_, (pss_cons (ps_if (pt_val (pe_callB call_isiT (by rfl) T.n_isinstance (by decide +kernel) (pa_cons (pv 1) (pa_cons (pe_tup (pa_cons (pe_bltn (v := .ty "list") (by rfl) T.n_list (by decide +kernel) rfl) (pa_cons (pe_bltn (v := .ty "tuple") (by rfl) T.n_tuple (by decide +kernel) rfl) pa_nil))) pa_nil))))
        (pss_cons (ps_if (PW.pt (pw_or (pt_not (pt_val (pe_callB call_isiT (by rfl) T.n_isinstance (by decide +kernel) (pa_cons (pv 0) (pa_cons (pe_tup (pa_cons (pe_bltn (v := .ty "list") (by rfl) T.n_list (by decide +kernel) rfl) (pa_cons (pe_bltn (v := .ty "tuple") (by rfl) T.n_tuple (by decide +kernel) rfl) pa_nil))) pa_nil)))))
            (pw_or1 (pt_cmpR op_ne (pe_callB call_isi (by rfl) T.n_isinstance (by decide +kernel) (pa_cons (pv 0) (pa_cons (pe_bltn (v := .ty "list") (by rfl) T.n_list (by decide +kernel) rfl) pa_nil))) (pe_callB call_isi (by rfl) T.n_isinstance (by decide +kernel) (pa_cons (pv 1) (pa_cons (pe_bltn (v := .ty "list") (by rfl) T.n_list (by decide +kernel) rfl) pa_nil))) (nomark _))))) (pss_one (ps_ret pe_bl)) pss_nil)
          (pss_one (ps_ret (pe_and (pe_cmpR op_eq (pe_callB call_lenL (by rfl) T.n_len (by decide +kernel) (pa_cons (pv 0) pa_nil)) (pe_callB call_lenL (by rfl) T.n_len (by decide +kernel) (pa_cons (pv 1) pa_nil)) (nomark _))
            (pe_one (pe_callB (cr_all rfl) (by rfl) T.n_all (by decide +kernel) (pa_cons (pe_lc (own := [("_law_k", 2)]) rfl sc_l_alike.nd (pi_range1 (by rfl) T.n_range (pa_cons (pe_callB call_lenL (by rfl) T.n_len (by decide +kernel) (pa_cons (pv 1) pa_nil)) pa_nil))
              (blkOk_by (own := [("_law_k", 2)]) (N := N_l_alike) (sc := defScope s_l_alike) (by decide +kernel)) (fun _ _ _ _ _ => pg_name (i := 2) sc_l_alike.nd rfl (Or.inl rfl)) (fun _ _ _ _ _ => pts_nil)
              (fun _ _ _ _ _ => pe_call ih hr (by rfl) T.g_l_alike T.F_l_alike.kp b_l_alike .nil pass0 (pa_cons (pe_ix (r := rIx K) ix_seq (pv 0) (pv 2) (fun _ _ => rfl)) (pa_cons (pe_ix (r := rIx K) ix_seq (pv 1) (pv 2) (fun _ _ => rfl)) pa_nil)))) pa_nil))))))) pss_nil)
      (pss_cons (ps_if (PW.pt (pw_or (pt_val (pe_callB call_isi (by rfl) T.n_isinstance (by decide +kernel) (pa_cons (pv 1) (pa_cons (pe_bltn (v := .ty "bool") (by rfl) T.n_bool (by decide +kernel) rfl) pa_nil)))) (pw_or1 (pt_val (pe_callB call_isi (by rfl) T.n_isinstance (by decide +kernel) (pa_cons (pv 0) (pa_cons (pe_bltn (v := .ty "bool") (by rfl) T.n_bool (by decide +kernel) rfl) pa_nil)))))))
          (pss_one (ps_ret (pe_and (pe_callB call_isi (by rfl) T.n_isinstance (by decide +kernel) (pa_cons (pv 1) (pa_cons (pe_bltn (v := .ty "bool") (by rfl) T.n_bool (by decide +kernel) rfl) pa_nil))) (pe_and (pe_callB call_isi (by rfl) T.n_isinstance (by decide +kernel) (pa_cons (pv 0) (pa_cons (pe_bltn (v := .ty "bool") (by rfl) T.n_bool (by decide +kernel) rfl) pa_nil))) (pe_one (pe_cmpR op_eq (pv 0) (pv 1) (nomark _))))))) pss_nil)
        (pss_one (ps_ret (pe_and (pe_cmpR op_eq (pe_callB call_isi (by rfl) T.n_isinstance (by decide +kernel) (pa_cons (pv 0) (pa_cons (pe_bltn (v := .ty "str") (by rfl) T.n_str (by decide +kernel) rfl) pa_nil))) (pe_callB call_isi (by rfl) T.n_isinstance (by decide +kernel) (pa_cons (pv 1) (pa_cons (pe_bltn (v := .ty "str") (by rfl) T.n_str (by decide +kernel) rfl) pa_nil))) (nomark _)) (pe_one (pe_cmpR op_eq (pv 0) (pv 1) (nomark _)))))))), ?_⟩
    have g0 : Gr M0 H0 H0 H0 H0 := Gr.refl (Same.refl _)
    refine p_seq ?_
    refine p_if ?_
    refine ⟨v2, rfl, (by show 2 ≤ sizeLine; decide), fun p1 np1 => ?_⟩
    refine ⟨v2, p1, [.ty "list", .ty "tuple"], _, [.type "list", .type "tuple"], _, rfl, upd_same, .cons (.ty _) (.cons (.ty _) .nil), (r2.up (same_new np1)).ty, kit_lt r2.knd, _, rfl, ?_⟩
    have g1 := g0.frz (o := .tup [.ty "list", .ty "tuple"]) np1
    have q1 := r1.up (same_new (o := .tup [.ty "list", .ty "tuple"]) np1)
    have q2 := r2.up (same_new (o := .tup [.ty "list", .ty "tuple"]) np1)
    generalize upd H0 p1 (.tup [.ty "list", .ty "tuple"]) = H1 at g1 q1 q2 ⊢
    refine iteB (fun hc => ?_) (fun hc => ?_)
    · refine p_seq ?_
      refine p_if ?_
      refine ⟨v1, rfl, (by show 2 ≤ sizeLine; decide), fun p2 np2 => ?_⟩
      refine ⟨v1, p2, [.ty "list", .ty "tuple"], _, [.type "list", .type "tuple"], _, rfl, upd_same, .cons (.ty _) (.cons (.ty _) .nil), (q1.up (same_new np2)).ty, kit_lt q1.knd, _, rfl, ?_⟩
      have g2 := g1.frz (o := .tup [.ty "list", .ty "tuple"]) np2
      have t1 := q1.up (same_new (o := .tup [.ty "list", .ty "tuple"]) np2)
      have t2 := q2.up (same_new (o := .tup [.ty "list", .ty "tuple"]) np2)
      generalize upd H1 p2 (.tup [.ty "list", .ty "tuple"]) = H2 at g2 t1 t2 ⊢
      refine ifFr (by rw [hc]; rfl) ?_
      refine ⟨v1, rfl, v1, .ty "list", _, .type "list", _, rfl, .ty _, t1.ty, kit_one t1.knd "list" (.inl rfl), v2, rfl, v2, .ty "list", _, .type "list", _, rfl, .ty _, t2.ty, kit_one t2.knd "list" (.inl rfl), rfl, _, rfl, ?_⟩
      refine ifFr (by simp) ?_
      refine p_next ?_
      refine p_nx ?_
      refine p_ret ?_
      obtain ⟨a1, ws1, a2, ws2, ds, m, rfl, rfl, s1, s2, l1, l2, e1, e2, hn, hdp⟩ := al_sq t1 t2 hc hd
      subst hn
      refine ⟨_, rfl, a1, ws1, _, rfl, s1, rfl, _, rfl, a2, ws2, _, rfl, s2, rfl, rfl, _, rfl, ?_⟩
      refine ifTr (decide_eq_true (by rw [e1.length, e2.length])) ?_
      have hl2 : (ws2.length : Int) < 2 ^ 62 := by
        have := l2
        rw [sizeLine_eq] at this
        omega
      refine ⟨_, rfl, a2, ws2, _, rfl, s2, rfl, _, rfl, (by omega), hl2, fun D nD => ?_⟩
      refine lc_range (lo := 0) (n := ((ws2.length : Nat) : Int).toNat) (fun i H' => Gr M0 H0 H0 H2 H' ∧ Ow H0 H2 H' D (List.replicate i (.bl true))) ⟨g2.own nD, Ow.new g2 nD⟩ (fun i H' hi hP => ?_) (fun H' hP => ?_)
      · obtain ⟨g, ow⟩ := hP
        refine ⟨rfl, p_yes ?_⟩
        have hi2 : i < ws2.length := by simpa using hi
        obtain ⟨u2, hu2⟩ : ∃ u, ws2[i]? = some u := ⟨_, List.getElem?_eq_getElem hi2⟩
        obtain ⟨di, hdi, ru2⟩ := e2.get hu2
        obtain ⟨u1, hu1, ru1⟩ := e1.back hdi
        refine ⟨_, rfl, _, rfl, ix_go (sq_up s1 g.fh) hu1 ⟨_, rfl, _, rfl, ix_go (sq_up s2 g.fh) hu2 ?_⟩⟩
        refine ⟨u1, u2, di, rfl, ru1.up g.fh, ru2.up g.fh, hdp di (List.mem_of_getElem? hdi), fun F1 H3 g3 => ?_⟩
        have g4 := Gr.apart g g3
        have ow4 := ow.apart g3
        refine ⟨_, ow4.h, ?_, ?_⟩
        · rw [List.length_replicate]; omega
        · have e : List.replicate i (V.bl true) ++ [V.bl true] = List.replicate (i + 1) (V.bl true) := List.replicate_succ'.symm
          rw [e]
          exact ⟨g4.put ow4, ow4.put⟩
      · obtain ⟨g, ow⟩ := hP
        refine ⟨D, List.replicate (((ws2.length : Nat) : Int).toNat) true, rfl, ?_, ?_⟩
        · rw [List.map_replicate]; exact ow.sq
        · rw [show (List.replicate (((ws2.length : Nat) : Int).toNat) true).all id = true by simp]
          exact hQ _ _ g
    · refine p_next ?_
      refine p_nx ?_
      have hv : v1 = v2 ∧ scal v1 v2 = true := al_sc q1 q2 hc
      refine p_seq ?_
      refine p_if ?_
      refine ⟨v2, rfl, v2, .ty _, _, .type _, _, rfl, .ty _, q2.ty, kit_one q2.knd _ (.inr (.inl rfl)), _, rfl, ?_⟩
      by_cases hb : (tyD d == "bool") = true
      · refine ifTr hb ?_
        refine ifTr rfl ?_
        refine p_ret ?_
        refine ⟨v2, rfl, v2, .ty _, _, .type _, _, rfl, .ty _, q2.ty, kit_one q2.knd _ (.inr (.inl rfl)), _, rfl, ifTr hb ?_⟩
        refine ⟨v1, rfl, v1, .ty _, _, .type _, _, rfl, .ty _, q1.ty, kit_one q1.knd _ (.inr (.inl rfl)), _, rfl, ifTr hb ?_⟩
        refine ⟨v1, rfl, v2, rfl, hv.2, ?_⟩
        rw [decide_eq_true hv.1]
        exact hQ _ _ g1
      · have hb : (tyD d == "bool") = false := Bool.eq_false_iff.mpr hb
        refine ifFr hb ?_
        refine ⟨v1, rfl, v1, .ty _, _, .type _, _, rfl, .ty _, q1.ty, kit_one q1.knd _ (.inr (.inl rfl)), _, rfl, ifFr hb ?_⟩
        refine p_next ?_
        refine p_nx ?_
        refine p_ret ?_
        refine ⟨v1, rfl, v1, .ty _, _, .type _, _, rfl, .ty _, q1.ty, kit_one q1.knd _ (.inr (.inr rfl)), v2, rfl, v2, .ty _, _, .type _, _, rfl, .ty _, q2.ty, kit_one q2.knd _ (.inr (.inr rfl)), rfl, ?_⟩
        refine ⟨_, rfl, ifTr (decide_eq_true rfl) ?_⟩
        refine ⟨v1, rfl, v2, rfl, hv.2, ?_⟩
        rw [decide_eq_true hv.1]
        exact hQ _ _ g1
theorem ok_l_alike {P : Program} {w : World} {K : PySem.W.Frag} {mg : Str → Option Value} {base : Heap} (T : Txt K mg) : ∀ n : Nat, FnOk P w K mg base CX0 n T.a_l_alike T.d_l_alike ["_law_found", "_law_due"] (spA n K)
  | 0 => ⟨fun _ _ _ _ h => h.elim, fun _ _ _ _ _ _ _ _ _ _ _ _ _ h => h.elim⟩
  | n + 1 => ok_al1 T n (ok_l_alike T n)

end K01
namespace K01
open PySem PySem.Spec PyProof.Rows L2 TL G
theorem ok_l_bits {P : Program} {w : World} {K : PySem.W.Frag} {mg : Str → Option Value} {base : Heap} (T : Txt K mg) : FnOk P w K mg base CX0 2 T.a_l_bits T.d_l_bits ["_law_bag_here", "_law_size_here"] (sp_l_bits K) := by
  have G_l_draw : FnOk P w K mg base CX0 1 T.a_l_draw T.d_l_draw ["_law_bag_here", "_law_many"] (sp_l_draw K) := ok_l_draw T
  have b_l_draw := T.F_l_draw.bindsN (ps := ["_law_bag_here", "_law_many"]) fun _ _ _ _ _ _ us hl => match us, hl with | [_, _], _ => rfl
  refine fd_ok T.F_l_bits sc_l_bits (fun vs H Q E h => ?_) (fun cdv A outer s H0 vs Q E hr h => ?_)
  · obtain ⟨_, _, _, _, _, _, _, rfl, _⟩ := h
    rfl
  · obtain ⟨F0, B, C, b, y_size_here, r, b', rfl, hS0, hB, hm, hQ⟩ := h
    refine ⟨_, (pss_cons (ps_if (pt_cmpR op_eq (pe_call G_l_draw (hr.mono (by decide)) (by rfl) T.g_l_draw T.F_l_draw.kp b_l_draw .nil pass0 (pa_cons (pv 0) (pa_cons pe_int pa_nil))) pe_int (nomark _)) (pss_cons (ps_set (i := 2) sc_l_bits.nd rfl (.inl rfl) (pe_ix ix_str pe_str (pe_call G_l_draw (hr.mono (by decide)) (by rfl) T.g_l_draw T.F_l_draw.kp b_l_draw .nil pass0 (pa_cons (pv 0) (pa_cons pe_int pa_nil))) (fun _ _ => rfl))) (pss_one (ps_ret (pe_ifExp (pt_cmpR op_gt (pv 1) pe_int (nomark _)) (pe_slice sl_str (pe_op op_add_str (pe_op op_mulS (pv 2) (pv 1)) (pe_ix ix_str pe_str (pe_call G_l_draw (hr.mono (by decide)) (by rfl) T.g_l_draw T.F_l_draw.kp b_l_draw .nil pass0 (pa_cons (pv 0) (pa_cons pe_int pa_nil))) (fun _ _ => rfl))) (po_some pe_int) (po_some (pe_op op_add (pv 1) pe_int))) pe_str)))) pss_nil) (pss_one (ps_ret (pe_join pe_str (pe_lc (own := [("_law_k", 3)]) rfl sc_l_bits.nd (pi_range1 (by rfl) T.n_range (pa_cons (pv 1) pa_nil)) (blkOk_by (own := [("_law_k", 3)]) (N := N_l_bits) (sc := defScope s_l_bits) (by decide +kernel)) (fun _ _ _ _ _ => (pg_name (i := 3) sc_l_bits.nd rfl (Or.inl rfl))) (fun _ _ _ _ _ => pts_nil) (fun _ _ _ _ _ => (pe_ix ix_str pe_str (pe_call G_l_draw (hr.mono (by decide)) (by rfl) T.g_l_draw T.F_l_draw.kp b_l_draw .nil pass0 (pa_cons (pv 0) (pa_cons pe_int pa_nil))) (fun _ _ => rfl)))))))), ?_⟩
    have g0 : Gr (Bc B C) F0 H0 F0 H0 := Gr.refl hS0
    unfold m_l_bits at hm
    refine p_seq ?_
    refine p_if ?_
    obtain ⟨r1, b2, hb3, hm⟩ := bnd2 hm
    refine ⟨(V.ref B), rfl, F0, B, C, b, (4 : Int), r1, b2, rfl, g0.fh, hB, hb3, fun F4 H5 g6 hB7 => ?_⟩
    have g9 := Gr.trans g0 g6
    refine ⟨rfl, _, rfl, (iteB (fun hc => ?_) (fun hc => ?_))⟩
    · have hm := ifT hc hm
      refine p_seq ?_
      refine p_asg ?_
      obtain ⟨r10, b11, hb12, hm⟩ := bnd2 hm
      refine ⟨(V.ref B), rfl, F4, B, C, b2, (2 : Int), r10, b11, rfl, g9.fh, hB7, hb12, fun F13 H14 g15 hB16 => ?_⟩
      have g18 := Gr.trans g9 g15
      obtain ⟨c19, hb20, hm⟩ := bnd hm
      refine ⟨_, _, c19, rfl, rfl, (⟨by decide +kernel, by decide +kernel⟩ : GS ("01" : Str)).len, hb20, ?_⟩
      refine p_name ?_
      refine p_nx ?_
      refine p_ret ?_
      refine ⟨(V.int y_size_here), rfl, _, _, rfl, rfl, _, rfl, ?_⟩
      obtain ⟨c21, b22, hc23, hm⟩ := bnd2 hm
      refine ifJ (M := (Bc B C)) (F := F13) (P := fun v' F' H' => v' = V.str (c21 : Str) ∧ GS (c21 : Str) ∧ BagAt F' H' B C b22) (fun ha => ?_) (fun ha => ?_) ?_
      · intro Q24 q25
        have hc23 := ifT ha hc23
        obtain ⟨t26, hb27, hc23⟩ := bnd hc23
        obtain ⟨hk28, rfl⟩ := mulS_ok hb27
        obtain ⟨r29, b30, hb31, hc23⟩ := bnd2 hc23
        refine ⟨(V.str (sgn c19)), rfl, (V.int y_size_here), rfl, _, _, rfl, rfl, hk28, (V.ref B), rfl, F13, B, C, b11, (2 : Int), r29, b30, rfl, g18.fh, hB16, hb31, fun F32 H33 g34 hB35 => ?_⟩
        have g37 := Gr.trans g18 g34
        have g38 := Gr.trans (Gr.refl (M := (Bc B C)) g18.fh) g34
        obtain ⟨c39, hb40, hc23⟩ := bnd hc23
        obtain ⟨t41, hb42, hc23⟩ := bnd hc23
        obtain ⟨hk43, rfl⟩ := catS_ok hb42
        obtain ⟨rfl, rfl⟩ := pjoin hc23
        refine ⟨_, _, c39, rfl, rfl, (⟨by decide +kernel, by decide +kernel⟩ : GS ("01" : Str)).len, hb40, _, _, rfl, rfl, hk43, _, rfl, (V.int y_size_here), rfl, _, _, rfl, rfl, _, rfl, _, rfl, ((GS.cat (GS.mul (GS.sg ⟨by decide +kernel, by decide +kernel⟩ (codeAt_mem hb20)) hb27) (GS.sg ⟨by decide +kernel, by decide +kernel⟩ (codeAt_mem hb40)) hb42) : GS ((Txt.mul (sgn c19) y_size_here) ++ (sgn c39))).len, (q25 _ _ _ g38 ⟨rfl, (GS.cut (GS.cat (GS.mul (GS.sg ⟨by decide +kernel, by decide +kernel⟩ (codeAt_mem hb20)) hb27) (GS.sg ⟨by decide +kernel, by decide +kernel⟩ (codeAt_mem hb40)) hb42) (some (1 : Int)) (some (y_size_here + (1 : Int)))), hB35⟩)⟩
      · intro Q44 q45
        have hc23 := ifF ha hc23
        obtain ⟨rfl, rfl⟩ := pjoin hc23
        exact (q45 _ _ _ (Gr.refl (M := (Bc B C)) g18.fh) ⟨rfl, ⟨by decide +kernel, by decide +kernel⟩, hB16⟩)
      intro v49 F46 H47 g48 hp50
      obtain ⟨hp50, hp50g, hB51⟩ := hp50
      have g52 := Gr.trans g18 g48
      obtain rfl := hp50
      obtain ⟨rfl, rfl⟩ := pjoin hm
      exact (hQ _ _ g52 hB51 hp50g)
    · have hm := ifF hc hm
      refine p_next ?_
      refine p_nx ?_
      refine p_ret ?_
      obtain ⟨l53, hb55, hm⟩ := bnd hm
      obtain ⟨hk54, rfl⟩ := rangeO1_ok hb55
      refine ⟨⟨_, rfl⟩, (V.int y_size_here), rfl, _, rfl, hk54.1.1, hk54.1.2, fun D56 nD57 => ?_⟩
      have nb58 := hB7.nb nD57
      have g59 := g9.own (o := (.lst [])) nD57
      have hB60 := hB7.own (o := (.lst [])) nD57
      have ow61 : Ow H0 F4 (upd H5 D56 (.lst [])) D56 [] := Ow.new g9 nD57
      obtain ⟨l62, b63, hb64, hm⟩ := bnd2 hm
      refine lc_range (lo := (0 : Int)) (n := (y_size_here).toNat) (fun i H' => ∃ (F' : Hp) (acc : List V) (ds : List Str) (rest : List Str) (b : Bag), Gr (Bc B C) F0 H0 F' H' ∧ Same F4 F' ∧ Ow H0 F' H' D56 acc ∧ RL K F' acc ds ∧ acc.length ≤ i ∧ BagAt F' H' B C b ∧ m_l_bits_c1  ((rangeL (0 : Int) (y_size_here).toNat).drop i) b = some (rest, b63) ∧ ds ++ rest = l62) ?_ ?_ ?_
      · exact ⟨F4, [], [], l62, b2, g59, Same.refl _, ow61, RpA.nil, Nat.le_refl _, hB60, hb64, rfl⟩
      · intro i H' hx hP
        obtain ⟨F', acc, ds, rest, b, g0_, sm_, owD_, hA_, hi_, hB_, hm_, hr_⟩ := hP
        have he67 := rangeL_at (lo := (0 : Int)) hx
        rw [drop_at he67, m_l_bits_c1.eq_2] at hm_
        refine ⟨rfl, (p_yes ?_)⟩
        obtain ⟨r68, b69, hb70, hm_⟩ := bnd2 hm_
        refine ⟨(V.ref B), rfl, F', B, C, b, (2 : Int), r68, b69, rfl, g0_.fh, hB_, hb70, fun F71 H72 g73 hB74 => ?_⟩
        have g76 := Gr.trans g0_ g73
        have ow77 := owD_.gr g73 nb58
        obtain ⟨c78, hb79, hm_⟩ := bnd hm_
        have hA80 : RL K F71 (acc ++ [(V.str (sgn c78))]) (ds ++ [((sgn c78) : Str)]) := RL.snoc (hA_.up g73.ff) (Rp.str (sgn c78) (GS.sg ⟨by decide +kernel, by decide +kernel⟩ (codeAt_mem hb79)))
        obtain ⟨rest81, b82, h83, h84⟩ := bnd2 hm_
        obtain ⟨rfl, rfl⟩ := pjoin h84
        refine ⟨_, _, c78, rfl, rfl, (⟨by decide +kernel, by decide +kernel⟩ : GS ("01" : Str)).len, hb79, acc, ow77.h, (lt_line hi_ hx hk54.2), ?_⟩
        have g85 := g76.put (o := (.lst (acc ++ [(V.str (sgn c78))]))) ow77
        have hB86 := hB74.other (o := (.lst (acc ++ [(V.str (sgn c78))]))) nb58
        have ow87 := ow77.put (us := (acc ++ [(V.str (sgn c78))]))
        exact ⟨F71, (acc ++ [(V.str (sgn c78))]), (ds ++ [(sgn c78)]), rest81, b69, g85, (Same.trans sm_ g73.ff), ow87, hA80, (by rw [List.length_append]; exact Nat.succ_le_succ hi_), hB86, h83, (snoc_rest hr_)⟩
      intro H88 hP
      obtain ⟨F89, acc90, ds91, _rest, b92, g093, sm94, owD95, hA96, hi97, hB98, hm99, hr100⟩ := hP
      rw [drop_end (rangeL_len _ _).symm] at hm99
      rw [m_l_bits_c1.eq_1] at hm99
      obtain ⟨rfl, rfl⟩ := pjoin hm99
      rw [List.append_nil] at hr100
      obtain rfl := hr100
      have hl101 : acc90.length ≤ sizeLine := Nat.le_trans hi97 hk54.2
      obtain ⟨t102, hb103, hm⟩ := bnd hm
      obtain ⟨hk104, rfl⟩ := joinS_ok hb103
      obtain ⟨rfl, rfl⟩ := pjoin hm
      refine ⟨_, D56, ds91, rfl, rfl, (.inl (by rw [← (RL.strs hA96).1]; exact owD95.sq)), hk104, (hQ _ _ g093 hB98 (GS.join ⟨by decide +kernel, by decide +kernel⟩ (RL.strs hA96).2 hb103))⟩
end K01
namespace K01
open PySem PySem.Spec PyProof.Rows L2 TL G
theorem ok_l_size {P : Program} {w : World} {K : PySem.W.Frag} {mg : Str → Option Value} {base : Heap} (T : Txt K mg) : FnOk P w K mg base CX0 2 T.a_l_size T.d_l_size ["_law_bag_here"] (sp_l_size K) := by
  have G_l_draw : FnOk P w K mg base CX0 1 T.a_l_draw T.d_l_draw ["_law_bag_here", "_law_many"] (sp_l_draw K) := ok_l_draw T
  have b_l_draw := T.F_l_draw.bindsN (ps := ["_law_bag_here", "_law_many"]) fun _ _ _ _ _ _ us hl => match us, hl with | [_, _], _ => rfl
  refine fd_ok T.F_l_size sc_l_size (fun vs H Q E h => ?_) (fun cdv A outer s H0 vs Q E hr h => ?_)
  · obtain ⟨_, _, _, _, _, _, rfl, _⟩ := h
    rfl
  · obtain ⟨F0, B, C, b, r, b', rfl, hS0, hB, hm, hQ⟩ := h
    refine ⟨_, (pss_one (ps_ret (pe_ix ix_list (pe_lst (pa_cons (pe_op op_add pe_int (pe_call G_l_draw (hr.mono (by decide)) (by rfl) T.g_l_draw T.F_l_draw.kp b_l_draw .nil pass0 (pa_cons (pv 0) (pa_cons pe_int pa_nil)))) (pa_cons (pe_op op_add pe_int (pe_call G_l_draw (hr.mono (by decide)) (by rfl) T.g_l_draw T.F_l_draw.kp b_l_draw .nil pass0 (pa_cons (pv 0) (pa_cons pe_int pa_nil)))) (pa_cons pe_int (pa_cons (pe_op op_add pe_int (pe_call G_l_draw (hr.mono (by decide)) (by rfl) T.g_l_draw T.F_l_draw.kp b_l_draw .nil pass0 (pa_cons (pv 0) (pa_cons pe_int pa_nil)))) pa_nil))))) (pe_call G_l_draw (hr.mono (by decide)) (by rfl) T.g_l_draw T.F_l_draw.kp b_l_draw .nil pass0 (pa_cons (pv 0) (pa_cons pe_int pa_nil))) (fun _ _ => rfl)))), ?_⟩
    have g0 : Gr (Bc B C) F0 H0 F0 H0 := Gr.refl hS0
    unfold m_l_size at hm
    refine p_ret ?_
    obtain ⟨r1, b2, hb3, hm⟩ := bnd2 hm
    refine ⟨(V.ref B), rfl, F0, B, C, b, (6 : Int), r1, b2, rfl, g0.fh, hB, hb3, fun F4 H5 g6 hB7 => ?_⟩
    have g9 := Gr.trans g0 g6
    obtain ⟨r10, b11, hb12, hm⟩ := bnd2 hm
    refine ⟨_, _, rfl, rfl, (V.ref B), rfl, F4, B, C, b2, (30 : Int), r10, b11, rfl, g9.fh, hB7, hb12, fun F13 H14 g15 hB16 => ?_⟩
    have g18 := Gr.trans g9 g15
    obtain ⟨r19, b20, hb21, hm⟩ := bnd2 hm
    refine ⟨_, _, rfl, rfl, (V.ref B), rfl, F13, B, C, b11, (3 : Int), r19, b20, rfl, g18.fh, hB16, hb21, fun F22 H23 g24 hB25 => ?_⟩
    have g27 := Gr.trans g18 g24
    refine ⟨_, _, rfl, rfl, (by show 4 ≤ sizeLine; decide), fun p28 np29 => ?_⟩
    have nb30 := hB25.nb np29
    have g31 := g27.own (o := (.lst [(V.int ((1 : Int) + r1)), (V.int ((1 : Int) + r10)), (V.int (30 : Int)), (V.int ((1 : Int) + r19))])) np29
    have hB32 := hB25.own (o := (.lst [(V.int ((1 : Int) + r1)), (V.int ((1 : Int) + r10)), (V.int (30 : Int)), (V.int ((1 : Int) + r19))])) np29
    have ow33 : Ow H0 F22 (upd H23 p28 (.lst [(V.int ((1 : Int) + r1)), (V.int ((1 : Int) + r10)), (V.int (30 : Int)), (V.int ((1 : Int) + r19))])) p28 [(V.int ((1 : Int) + r1)), (V.int ((1 : Int) + r10)), (V.int (30 : Int)), (V.int ((1 : Int) + r19))] := Ow.new g27 np29
    have hA34 : RL K F22 [(V.int ((1 : Int) + r1)), (V.int ((1 : Int) + r10)), (V.int (30 : Int)), (V.int ((1 : Int) + r19))] ([((1 : Int) + r1), ((1 : Int) + r10), (30 : Int), ((1 : Int) + r19)] : List Int) := (RpA.cons (Rp.int ((1 : Int) + r1)) (RpA.cons (Rp.int ((1 : Int) + r10)) (RpA.cons (Rp.int (30 : Int)) (RpA.cons (Rp.int ((1 : Int) + r19)) RpA.nil))))
    obtain ⟨r35, b36, hb37, hm⟩ := bnd2 hm
    refine ⟨(V.ref B), rfl, F22, B, C, b20, (4 : Int), r35, b36, rfl, g31.fh, hB32, hb37, fun F38 H39 g40 hB41 => ?_⟩
    have g43 := Gr.trans g31 g40
    have ow44 := ow33.gr g40 nb30
    obtain ⟨t45, hb46, hm⟩ := bnd hm
    obtain ⟨v47, ha48, r49⟩ := RL.at (hA34.up g40.ff) hb46
    obtain rfl := R.int_v r49
    obtain ⟨rfl, rfl⟩ := pjoin hm
    refine ⟨p28, [(V.int ((1 : Int) + r1)), (V.int ((1 : Int) + r10)), (V.int (30 : Int)), (V.int ((1 : Int) + r19))], _, (V.int t45), rfl, rfl, ow44.sq, ha48, (hQ _ _ g43 hB41)⟩
end K01
namespace K01
open PySem PySem.Spec PyProof.Rows L2 TL G
theorem ok_l_one {P : Program} {w : World} {K : PySem.W.Frag} {mg : Str → Option Value} {base : Heap} (T : Txt K mg) : FnOk P w K mg base CX0 3 T.a_l_one T.d_l_one ["_law_bag_here", "_law_size_here", "_law_some"] (sp_l_one K) := by
  have G_l_bits : FnOk P w K mg base CX0 2 T.a_l_bits T.d_l_bits ["_law_bag_here", "_law_size_here"] (sp_l_bits K) := ok_l_bits T
  have b_l_bits := T.F_l_bits.bindsN (ps := ["_law_bag_here", "_law_size_here"]) fun _ _ _ _ _ _ us hl => match us, hl with | [_, _], _ => rfl
  have G_l_draw : FnOk P w K mg base CX0 1 T.a_l_draw T.d_l_draw ["_law_bag_here", "_law_many"] (sp_l_draw K) := ok_l_draw T
  have b_l_draw := T.F_l_draw.bindsN (ps := ["_law_bag_here", "_law_many"]) fun _ _ _ _ _ _ us hl => match us, hl with | [_, _], _ => rfl
  refine fd_ok T.F_l_one sc_l_one (fun vs H Q E h => ?_) (fun cdv A outer s H0 vs Q E hr h => ?_)
  · obtain ⟨_, _, _, _, _, _, _, _, _, _, rfl, _⟩ := h
    rfl
  · obtain ⟨F0, B, C, b, y_size_here, p_y_some, ws_y_some, y_some, r, b', rfl, hS0, hB, hS_y_some, hl_y_some, hA_y_some, nm_y_some, hm, hQ⟩ := h
    refine ⟨_, (pss_cons (ps_set (i := 3) sc_l_one.nd rfl (.inl rfl) (pe_call G_l_bits (hr.mono (by decide)) (by rfl) T.g_l_bits T.F_l_bits.kp b_l_bits .nil pass0 (pa_cons (pv 0) (pa_cons (pe_call G_l_draw (hr.mono (by decide)) (by rfl) T.g_l_draw T.F_l_draw.kp b_l_draw .nil pass0 (pa_cons (pv 0) (pa_cons (pe_op op_add (pv 1) pe_int) pa_nil))) pa_nil)))) (pss_cons (ps_set (i := 4) sc_l_one.nd rfl (.inl rfl) (pe_call G_l_draw (hr.mono (by decide)) (by rfl) T.g_l_draw T.F_l_draw.kp b_l_draw .nil pass0 (pa_cons (pv 0) (pa_cons pe_int pa_nil)))) (pss_cut (ps_if (PW.pt (pw_and (pt_cmpR (op_neD hr.units) (pv 2) (pe_lst pa_nil) (nomark _)) (pw_and1 (pt_cmpR op_lt (pv 4) pe_int (nomark _))))) (pss_cons (ps_set (i := 5) sc_l_one.nd rfl (.inl rfl) (pe_bm PySem.F.plainAttrs_str PySem.F.slot_str_strip PySem.F.type_str_strip mt_stripChars (pe_ix ix_list (pv 2) (pe_call G_l_draw (hr.mono (by decide)) (by rfl) T.g_l_draw T.F_l_draw.kp b_l_draw .nil pass0 (pa_cons (pv 0) (pa_cons (pe_callB call_lenL (by rfl) T.n_len (by decide +kernel) (pa_cons (pv 2) pa_nil)) pa_nil))) (fun _ _ => rfl)) (pa_cons pe_str pa_nil))) (pss_cons (ps_set (i := 6) sc_l_one.nd rfl (.inl rfl) (pe_dget2 (hu_of hr) (pe_disp (pps_cons pe_str pe_str (pps_cons pe_str pe_str pps_nil)) (by rfl) (by rfl) (fun z => by cases z) (by decide)) (pe_slice sl_str (pv 5) (po_some (pe_un un_neg pe_int)) po_none) pe_str ⟨by rfl, by rfl, by rfl, by rfl⟩)) (pss_cons (ps_set (i := 7) sc_l_one.nd rfl (.inl rfl) (pe_call G_l_draw (hr.mono (by decide)) (by rfl) T.g_l_draw T.F_l_draw.kp b_l_draw .nil pass0 (pa_cons (pv 0) (pa_cons (pe_op op_add (pe_callB call_len_str (by rfl) T.n_len (by decide +kernel) (pa_cons (pv 5) pa_nil)) pe_int) pa_nil)))) (pss_one (ps_set (i := 3) sc_l_one.nd rfl (.inl rfl) (pe_ix ix_list (pe_lst (pa_cons (pe_slice sl_str (pv 5) po_none (po_some (pv 7))) (pa_cons (pe_op op_add_str (pv 5) (pe_ix ix_str pe_str (pe_call G_l_draw (hr.mono (by decide)) (by rfl) T.g_l_draw T.F_l_draw.kp b_l_draw .nil pass0 (pa_cons (pv 0) (pa_cons pe_int pa_nil))) (fun _ _ => rfl))) (pa_cons (pe_op op_add_str (pe_slice sl_str (pv 5) po_none (po_some (pe_un un_neg pe_int))) (pv 6)) pa_nil)))) (pv 4) (fun _ _ => rfl))))))) pss_nil) (pss_cut (ps_if (pt_cmpR op_eq (pv 4) pe_int (nomark _)) (pss_one (ps_set (i := 3) sc_l_one.nd rfl (.inl rfl) (pe_op op_add_str (pv 3) (pe_call G_l_bits (hr.mono (by decide)) (by rfl) T.g_l_bits T.F_l_bits.kp b_l_bits .nil pass0 (pa_cons (pv 0) (pa_cons (pe_op op_sub (pv 1) (pe_callB call_len_str (by rfl) T.n_len (by decide +kernel) (pa_cons (pv 3) pa_nil))) pa_nil)))))) pss_nil) (pss_cons (ps_set (i := 3) sc_l_one.nd rfl (.inl rfl) (pe_slice sl_str (pv 3) po_none (po_some (pv 1)))) (pss_one (ps_ret (pe_op op_add_str (pv 3) (pe_op op_mulS pe_str (pe_callTy call_toI (by rfl) T.n_int (by decide +kernel) (pa_cons (pe_cmpR op_lt (pe_callB call_len_str (by rfl) T.n_len (by decide +kernel) (pa_cons (pv 3) pa_nil)) (pv 1) (nomark _)) pa_nil))))))))))), ?_⟩
    have g0 : Gr (Bc B C) F0 H0 F0 H0 := Gr.refl hS0
    unfold m_l_one at hm
    refine p_seq ?_
    refine p_asg ?_
    obtain ⟨r1, b2, hb3, hm⟩ := bnd2 hm
    refine ⟨(V.ref B), rfl, (V.ref B), rfl, (V.int y_size_here), rfl, _, _, rfl, rfl, F0, B, C, b, (y_size_here + (1 : Int)), r1, b2, rfl, g0.fh, hB, hb3, fun F4 H5 g6 hB7 => ?_⟩
    have g9 := Gr.trans g0 g6
    obtain ⟨r10, b11, hb12, hm⟩ := bnd2 hm
    refine ⟨F4, B, C, b2, r1, r10, b11, rfl, g9.fh, hB7, hb12, fun F13 H14 g15 hB16 gs17 => ?_⟩
    have g18 := Gr.trans g9 g15
    refine p_name ?_
    refine p_nx ?_
    refine p_seq ?_
    refine p_asg ?_
    obtain ⟨r19, b20, hb21, hm⟩ := bnd2 hm
    refine ⟨(V.ref B), rfl, F13, B, C, b11, (5 : Int), r19, b20, rfl, g18.fh, hB16, hb21, fun F22 H23 g24 hB25 => ?_⟩
    have g27 := Gr.trans g18 g24
    refine p_name ?_
    refine p_nx ?_
    obtain ⟨y_bits_here28, b29, hj30, hm⟩ := bnd2 hm
    refine ⟨fun σ' H' => ∃ (F' : Hp) (o_y_near : Option V) (o_y_turned : Option V) (o_y_cut : Option V), σ' = [(some (V.ref B)), (some (V.int y_size_here)), (some (V.ref p_y_some)), (some (V.str y_bits_here28)), (some (V.int r19)), o_y_near, o_y_turned, o_y_cut] ∧ Gr (Bc B C) F0 H0 F' H' ∧ Same F22 F' ∧ GS y_bits_here28 ∧ BagAt F' H' B C b29, ?_, ?_⟩
    · refine p_if ?_
      refine ⟨(V.ref p_y_some), rfl, (by show 0 ≤ sizeLine; decide), fun p31 np32 => ?_⟩
      have nb33 := hB25.nb np32
      have g34 := g27.own (o := (.lst [])) np32
      have hB35 := hB25.own (o := (.lst [])) np32
      have ow36 : Ow H0 F22 (upd H23 p31 (.lst [])) p31 [] := Ow.new g27 np32
      have rH38 : R K (upd H23 p31 (.lst [])) (V.ref p_y_some) y_some := (R.mkl (g34.seq nm_y_some hS_y_some) hl_y_some (RpA.up (hA_y_some.up (Same.trans g6.ff (Same.trans g15.ff g24.ff))) g34.fh))
      have rH39 : R K (upd H23 p31 (.lst [])) (V.ref p31) ([] : (List Str)) := (R.mkl ow36.sq (by show 0 ≤ sizeLine; decide) (RpA.up RpA.nil g34.fh))
      refine ⟨_, _, (Rp.dp _ _ rH38), (Rp.dp _ _ rH39), (R.shaped rH38), (R.shaped rH39), _, rfl, ?_⟩
      refine andJT (M := M0) (F := F22) (c := ((!eqD y_some ([] : (List Str))) && (decide (r19 < (3 : Int))))) (P := fun _ _ => True) (fun ha => ?_) (fun ha => ⟨(anF ha), trivial⟩) g34.fh ?_
      · intro Q43 q44
        refine ⟨(V.int r19), rfl, _, _, rfl, rfl, _, rfl, (qTb ha (q44 _ _ (Gr.refl (M := M0) g34.fh) trivial))⟩
      intro F45 H46 g47 hB48
      have g49 := Gr.trans g34 (Gr.of0 g47)
      have ow50 := ow36.gr0 g47
      have hB51 := hB35.gr0 g47
      refine (iteB (fun hc => ?_) (fun hc => ?_))
      · have hj30 := ifT hc hj30
        refine p_seq ?_
        refine p_asg ?_
        obtain ⟨r52, b53, hb54, hj30⟩ := bnd2 hj30
        refine ⟨(V.ref p_y_some), rfl, (V.ref B), rfl, (V.ref p_y_some), rfl, p_y_some, ws_y_some, _, rfl, (.inl (g49.seq nm_y_some hS_y_some)), (RL.len (hA_y_some.up (Same.trans g6.ff (Same.trans g15.ff (Same.trans g24.ff g47.ff))))), F45, B, C, b20, (((y_some).length : Nat) : Int), r52, b53, rfl, g49.fh, hB51, hb54, fun F55 H56 g57 hB58 => ?_⟩
        have g60 := Gr.trans g49 g57
        have ow61 := ow50.gr g57 nb33
        obtain ⟨t62, hb63, hj30⟩ := bnd hj30
        obtain ⟨v64, ha65, r66⟩ := RL.at (hA_y_some.up (Same.trans g6.ff (Same.trans g15.ff (Same.trans g24.ff (Same.trans g47.ff g57.ff))))) hb63
        obtain ⟨rfl, gs67⟩ := R.str_v r66
        refine ⟨p_y_some, ws_y_some, _, (V.str t62), rfl, rfl, (g60.seq nm_y_some hS_y_some), ha65, rfl, _, _, rfl, rfl, (gs67 : GS t62).len, ?_⟩
        obtain ⟨y_near68, hb69, hj30⟩ := bnd hj30
        have hx70 : (Txt.stripChars t62 ("*" : Str)) = y_near68 := sjoin hb69
        have gs71 : GS y_near68 := hx70 ▸ ((GS.strip (gs67 : GS t62) ("*" : Str)) : GS (Txt.stripChars t62 ("*" : Str)))
        refine p_nm (v' := (V.str y_near68)) (congrArg V.str hx70) ?_
        refine p_nx ?_
        refine p_seq ?_
        refine p_asg ?_
        refine rd_dgets (k := (cutS y_near68 (some (-(1 : Int))) none)) (d := ("" : Str)) _ [(("0" : Str), ("1" : Str)), (("1" : Str), ("0" : Str))] rfl (by decide) (by decide +kernel) (fun H1 Q q => ⟨(V.str y_near68), rfl, _, rfl, _, rfl, _, rfl, (gs71 : GS y_near68).len, q⟩) (fun H1 Q q => q) (fun p72 np73 => ?_)
        have ne74 := ow61.ne np73
        have nb75 := hB58.nb np73
        have g76 := g60.own (o := (.dK (kvS [(("0" : Str), ("1" : Str)), (("1" : Str), ("0" : Str))]))) np73
        have ow77 := ow61.own (o := (.dK (kvS [(("0" : Str), ("1" : Str)), (("1" : Str), ("0" : Str))]))) np73
        have hB78 := hB58.own (o := (.dK (kvS [(("0" : Str), ("1" : Str)), (("1" : Str), ("0" : Str))]))) np73
        obtain ⟨y_turned79, hb80, hj30⟩ := bnd hj30
        have hx81 : (dgetS [(("0" : Str), ("1" : Str)), (("1" : Str), ("0" : Str))] (cutS y_near68 (some (-(1 : Int))) none) ("" : Str)) = y_turned79 := sjoin hb80
        have gs82 : GS y_turned79 := hx81 ▸ ((GS.dg (fun kv h => by simp only [List.mem_cons, List.not_mem_nil, or_false] at h; rcases h with rfl | rfl <;> exact ⟨by decide +kernel, by decide +kernel⟩) ⟨by decide +kernel, by decide +kernel⟩) : GS (dgetS [(("0" : Str), ("1" : Str)), (("1" : Str), ("0" : Str))] (cutS y_near68 (some (-(1 : Int))) none) ("" : Str)))
        refine p_nm (v' := (V.str y_turned79)) (congrArg V.str hx81) ?_
        refine p_nx ?_
        refine p_seq ?_
        refine p_asg ?_
        obtain ⟨r83, b84, hb85, hj30⟩ := bnd2 hj30
        refine ⟨(V.ref B), rfl, (V.str y_near68), rfl, _, rfl, (gs71 : GS y_near68).len, _, _, rfl, rfl, F55, B, C, b53, (((y_near68.length : Nat) : Int) + (1 : Int)), r83, b84, rfl, g76.fh, hB78, hb85, fun F86 H87 g88 hB89 => ?_⟩
        have g91 := Gr.trans g76 g88
        have ow92 := ow77.gr g88 nb33
        refine p_name ?_
        refine p_nx ?_
        refine p_asg ?_
        obtain ⟨r93, b94, hb95, hj30⟩ := bnd2 hj30
        refine ⟨(V.str y_near68), rfl, (V.int r83), rfl, _, rfl, _, rfl, (gs71 : GS y_near68).len, (V.str y_near68), rfl, (V.ref B), rfl, F86, B, C, b84, (2 : Int), r93, b94, rfl, g91.fh, hB89, hb95, fun F96 H97 g98 hB99 => ?_⟩
        have g101 := Gr.trans g91 g98
        have ow102 := ow92.gr g98 nb33
        obtain ⟨c103, hb104, hj30⟩ := bnd hj30
        obtain ⟨t105, hb106, hj30⟩ := bnd hj30
        obtain ⟨hk107, rfl⟩ := catS_ok hb106
        obtain ⟨t108, hb109, hj30⟩ := bnd hj30
        obtain ⟨hk110, rfl⟩ := catS_ok hb109
        refine ⟨_, _, c103, rfl, rfl, (⟨by decide +kernel, by decide +kernel⟩ : GS ("01" : Str)).len, hb104, _, _, rfl, rfl, hk107, (V.str y_near68), rfl, _, rfl, _, rfl, _, rfl, (gs71 : GS y_near68).len, (V.str y_turned79), rfl, _, _, rfl, rfl, hk110, (by show 3 ≤ sizeLine; decide), fun p111 np112 => ?_⟩
        have ne113 := ow102.ne np112
        have nb114 := hB99.nb np112
        have g115 := g101.own (o := (.lst [(V.str (cutS y_near68 none (some r83))), (V.str (y_near68 ++ (sgn c103))), (V.str ((cutS y_near68 none (some (-(1 : Int)))) ++ y_turned79))])) np112
        have ow116 := ow102.own (o := (.lst [(V.str (cutS y_near68 none (some r83))), (V.str (y_near68 ++ (sgn c103))), (V.str ((cutS y_near68 none (some (-(1 : Int)))) ++ y_turned79))])) np112
        have hB117 := hB99.own (o := (.lst [(V.str (cutS y_near68 none (some r83))), (V.str (y_near68 ++ (sgn c103))), (V.str ((cutS y_near68 none (some (-(1 : Int)))) ++ y_turned79))])) np112
        have ow118 : Ow H0 F96 (upd H97 p111 (.lst [(V.str (cutS y_near68 none (some r83))), (V.str (y_near68 ++ (sgn c103))), (V.str ((cutS y_near68 none (some (-(1 : Int)))) ++ y_turned79))])) p111 [(V.str (cutS y_near68 none (some r83))), (V.str (y_near68 ++ (sgn c103))), (V.str ((cutS y_near68 none (some (-(1 : Int)))) ++ y_turned79))] := Ow.new g101 np112
        have hA119 : RL K F96 [(V.str (cutS y_near68 none (some r83))), (V.str (y_near68 ++ (sgn c103))), (V.str ((cutS y_near68 none (some (-(1 : Int)))) ++ y_turned79))] ([(cutS y_near68 none (some r83)), (y_near68 ++ (sgn c103)), ((cutS y_near68 none (some (-(1 : Int)))) ++ y_turned79)] : List Str) := (RpA.cons (Rp.str (cutS y_near68 none (some r83)) (GS.cut gs71 none (some r83))) (RpA.cons (Rp.str (y_near68 ++ (sgn c103)) (GS.cat gs71 (GS.sg ⟨by decide +kernel, by decide +kernel⟩ (codeAt_mem hb104)) hb106)) (RpA.cons (Rp.str ((cutS y_near68 none (some (-(1 : Int)))) ++ y_turned79) (GS.cat (GS.cut gs71 none (some (-(1 : Int)))) gs82 hb109)) RpA.nil)))
        obtain ⟨t120, hb121, hj30⟩ := bnd hj30
        obtain ⟨v122, ha123, r124⟩ := RL.at hA119 hb121
        obtain ⟨rfl, gs125⟩ := R.str_v r124
        refine ⟨(V.int r19), rfl, p111, [(V.str (cutS y_near68 none (some r83))), (V.str (y_near68 ++ (sgn c103))), (V.str ((cutS y_near68 none (some (-(1 : Int)))) ++ y_turned79))], _, (V.str t120), rfl, rfl, ow118.sq, ha123, ?_⟩
        refine p_name ?_
        obtain ⟨rfl, rfl⟩ := pjoin hj30
        exact ⟨F96, (some (V.str y_near68)), (some (V.str y_turned79)), (some (V.int r83)), rfl, g115, (Same.trans g47.ff (Same.trans g57.ff (Same.trans g88.ff g98.ff))), gs125, hB117⟩
      · have hj30 := ifF hc hj30
        refine p_next ?_
        obtain ⟨rfl, rfl⟩ := pjoin hj30
        exact ⟨F45, none, none, none, rfl, g49, g47.ff, gs17, hB51⟩
    intro σ126 H127 hMid
    obtain ⟨F128, o_y_near134, o_y_turned135, o_y_cut136, rfl, g129, sm130, gs_y_bits_here28131, hB132⟩ := hMid
    obtain ⟨y_bits_here137, b138, hj139, hm⟩ := bnd2 hm
    refine ⟨fun σ' H' => ∃ (F' : Hp), σ' = [(some (V.ref B)), (some (V.int y_size_here)), (some (V.ref p_y_some)), (some (V.str y_bits_here137)), (some (V.int r19)), o_y_near134, o_y_turned135, o_y_cut136] ∧ Gr (Bc B C) F0 H0 F' H' ∧ Same F128 F' ∧ GS y_bits_here137 ∧ BagAt F' H' B C b138, ?_, ?_⟩
    · refine p_if ?_
      refine ⟨(V.int r19), rfl, rfl, _, rfl, (iteB (fun hc => ?_) (fun hc => ?_))⟩
      · have hj139 := ifT hc hj139
        refine p_asg ?_
        obtain ⟨r140, b141, hb142, hj139⟩ := bnd2 hj139
        refine ⟨(V.str y_bits_here28), rfl, (V.ref B), rfl, (V.int y_size_here), rfl, (V.str y_bits_here28), rfl, _, rfl, (gs_y_bits_here28131 : GS y_bits_here28).len, _, _, rfl, rfl, F128, B, C, b29, (y_size_here - ((y_bits_here28.length : Nat) : Int)), r140, b141, rfl, g129.fh, hB132, hb142, fun F143 H144 g145 hB146 gs147 => ?_⟩
        have g148 := Gr.trans g129 g145
        obtain ⟨t149, hb150, hj139⟩ := bnd hj139
        obtain ⟨hk151, rfl⟩ := catS_ok hb150
        refine ⟨_, _, rfl, rfl, hk151, ?_⟩
        obtain ⟨y_bits_here152, hx153⟩ : ∃ z_, (y_bits_here28 ++ r140) = z_ := ⟨_, rfl⟩
        try rw [hx153] at hj139
        have gs154 : GS y_bits_here152 := hx153 ▸ ((GS.cat gs_y_bits_here28131 gs147 hb150) : GS (y_bits_here28 ++ r140))
        refine p_nm (v' := (V.str y_bits_here152)) (congrArg V.str hx153) ?_
        obtain ⟨rfl, rfl⟩ := pjoin hj139
        exact ⟨F143, rfl, g148, g145.ff, gs154, hB146⟩
      · have hj139 := ifF hc hj139
        refine p_next ?_
        obtain ⟨rfl, rfl⟩ := pjoin hj139
        exact ⟨F128, rfl, g129, (Same.refl _), gs_y_bits_here28131, hB132⟩
    intro σ155 H156 hMid
    obtain ⟨F157, rfl, g158, sm159, gs_y_bits_here137160, hB161⟩ := hMid
    refine p_seq ?_
    refine p_asg ?_
    refine ⟨(V.str y_bits_here137), rfl, (V.int y_size_here), rfl, _, rfl, _, rfl, (gs_y_bits_here137160 : GS y_bits_here137).len, ?_⟩
    obtain ⟨y_bits_here163, hb164, hm⟩ := bnd hm
    have hx165 : (cutS y_bits_here137 none (some y_size_here)) = y_bits_here163 := sjoin hb164
    have gs166 : GS y_bits_here163 := hx165 ▸ ((GS.cut gs_y_bits_here137160 none (some y_size_here)) : GS (cutS y_bits_here137 none (some y_size_here)))
    refine p_nm (v' := (V.str y_bits_here163)) (congrArg V.str hx165) ?_
    refine p_nx ?_
    refine p_ret ?_
    obtain ⟨t167, hb168, hm⟩ := bnd hm
    obtain ⟨hk169, rfl⟩ := mulS_ok hb168
    obtain ⟨t170, hb171, hm⟩ := bnd hm
    obtain ⟨hk172, rfl⟩ := catS_ok hb171
    obtain ⟨rfl, rfl⟩ := pjoin hm
    refine ⟨(V.str y_bits_here163), rfl, (V.str y_bits_here163), rfl, _, rfl, (gs166 : GS y_bits_here163).len, (V.int y_size_here), rfl, _, _, rfl, rfl, _, rfl, _, _, rfl, rfl, hk169, _, _, rfl, rfl, hk172, (hQ _ _ g158 hB161 (GS.cat gs166 (GS.mul ⟨by decide +kernel, by decide +kernel⟩ hb168) hb171))⟩
end K01
namespace K01
open PySem PySem.Spec PyProof.Rows L2 TL G
theorem ok_l_line {P : Program} {w : World} {K : PySem.W.Frag} {mg : Str → Option Value} {base : Heap} (T : Txt K mg) : FnOk P w K mg base CX0 4 T.a_l_line T.d_l_line ["_law_bag_here", "_law_size_here"] (sp_l_line K) := by
  have G_l_one : FnOk P w K mg base CX0 3 T.a_l_one T.d_l_one ["_law_bag_here", "_law_size_here", "_law_some"] (sp_l_one K) := ok_l_one T
  have b_l_one := T.F_l_one.bindsN (ps := ["_law_bag_here", "_law_size_here", "_law_some"]) fun _ _ _ _ _ _ us hl => match us, hl with | [_, _, _], _ => rfl
  have G_l_draw : FnOk P w K mg base CX0 1 T.a_l_draw T.d_l_draw ["_law_bag_here", "_law_many"] (sp_l_draw K) := ok_l_draw T
  have b_l_draw := T.F_l_draw.bindsN (ps := ["_law_bag_here", "_law_many"]) fun _ _ _ _ _ _ us hl => match us, hl with | [_, _], _ => rfl
  refine fd_ok T.F_l_line sc_l_line (fun vs H Q E h => ?_) (fun cdv A outer s H0 vs Q E hr h => ?_)
  · obtain ⟨_, _, _, _, _, _, _, rfl, _⟩ := h
    rfl
  · obtain ⟨F0, B, C, b, y_size_here, r, b', rfl, hS0, hB, hm, hQ⟩ := h
    refine ⟨_, (pss_cons (ps_set (i := 2) sc_l_line.nd rfl (.inr rfl) pe_str) (pss_cons (ps_set (i := 2) sc_l_line.nd rfl (.inr rfl) (pe_op op_add_str (pv 2) pe_str)) (pss_cons (ps_set (i := 3) sc_l_line.nd rfl (.inl rfl) (pe_call G_l_one (hr.mono (by decide)) (by rfl) T.g_l_one T.F_l_one.kp b_l_one .nil pass0 (pa_cons (pv 0) (pa_cons (pv 1) (pa_cons (pe_lst pa_nil) pa_nil))))) (pss_cons (ps_set (i := 4) sc_l_line.nd rfl (.inl rfl) (pe_call G_l_draw (hr.mono (by decide)) (by rfl) T.g_l_draw T.F_l_draw.kp b_l_draw .nil pass0 (pa_cons (pv 0) (pa_cons (pe_op op_add (pe_callB call_len_str (by rfl) T.n_len (by decide +kernel) (pa_cons (pv 3) pa_nil)) pe_int) pa_nil)))) (pss_cons (ps_set (i := 5) sc_l_line.nd rfl (.inl rfl) (pe_ix ix_list (pe_lst (pa_cons (pe_ix ix_str (pv 2) (pe_call G_l_draw (hr.mono (by decide)) (by rfl) T.g_l_draw T.F_l_draw.kp b_l_draw .nil pass0 (pa_cons (pv 0) (pa_cons (pe_callB call_len_str (by rfl) T.n_len (by decide +kernel) (pa_cons (pv 2) pa_nil)) pa_nil))) (fun _ _ => rfl)) (pa_cons (pe_ix ix_str pe_str (pe_call G_l_draw (hr.mono (by decide)) (by rfl) T.g_l_draw T.F_l_draw.kp b_l_draw .nil pass0 (pa_cons (pv 0) (pa_cons pe_int pa_nil))) (fun _ _ => rfl)) pa_nil))) (pe_call G_l_draw (hr.mono (by decide)) (by rfl) T.g_l_draw T.F_l_draw.kp b_l_draw .nil pass0 (pa_cons (pv 0) (pa_cons pe_int pa_nil))) (fun _ _ => rfl))) (pss_cons (ps_set (i := 6) sc_l_line.nd rfl (.inl rfl) (pe_call G_l_draw (hr.mono (by decide)) (by rfl) T.g_l_draw T.F_l_draw.kp b_l_draw .nil pass0 (pa_cons (pv 0) (pa_cons pe_int pa_nil)))) (pss_cons (ps_if (pt_cmpR op_lt (pv 6) pe_int (nomark _)) (pss_one (ps_ret (pe_op op_add_str (pe_op op_add_str (pe_slice sl_str (pv 3) po_none (po_some (pv 4))) (pe_ix ix_list (pe_lst (pa_cons (pv 5) (pa_cons (pv 5) (pa_cons pe_str pa_nil)))) (pv 6) (fun _ _ => rfl))) (pe_slice sl_str (pv 3) (po_some (pe_op op_add (pv 4) (pe_ix ix_list (pe_lst (pa_cons pe_int (pa_cons pe_int (pa_cons pe_int pa_nil)))) (pv 6) (fun _ _ => rfl)))) po_none)))) pss_nil) (pss_cons (ps_if (pt_cmpR op_eq (pv 6) pe_int (nomark _)) (pss_one (ps_ret (pe_op op_add_str (pe_op op_add_str (pe_slice sl_str (pv 3) po_none (po_some (pv 4))) (pe_op op_mulS pe_str (pe_call G_l_draw (hr.mono (by decide)) (by rfl) T.g_l_draw T.F_l_draw.kp b_l_draw .nil pass0 (pa_cons (pv 0) (pa_cons pe_int pa_nil))))) (pe_slice sl_str (pv 3) (po_some (pv 4)) po_none)))) pss_nil) (pss_cons (ps_if (pt_cmpR op_eq (pv 6) pe_int (nomark _)) (pss_one (ps_ret (pe_ix ix_list (pe_lst (pa_cons (pe_revS (pv 3)) (pa_cons (pe_op op_add_str (pv 5) (pv 3)) (pa_cons (pe_op op_add_str (pv 3) (pv 5)) pa_nil)))) (pe_call G_l_draw (hr.mono (by decide)) (by rfl) T.g_l_draw T.F_l_draw.kp b_l_draw .nil pass0 (pa_cons (pv 0) (pa_cons pe_int pa_nil))) (fun _ _ => rfl)))) pss_nil) (pss_cons (ps_if (pt_cmpR op_eq (pv 6) pe_int (nomark _)) (pss_one (ps_ret (pe_join pe_str (pe_lc (own := [("_law_k", 7)]) rfl sc_l_line.nd (pi_range1 (by rfl) T.n_range (pa_cons (pe_call G_l_draw (hr.mono (by decide)) (by rfl) T.g_l_draw T.F_l_draw.kp b_l_draw .nil pass0 (pa_cons (pv 0) (pa_cons pe_int pa_nil))) pa_nil)) (blkOk_by (own := [("_law_k", 7)]) (N := N_l_line) (sc := defScope s_l_line) (by decide +kernel)) (fun _ _ _ _ _ => (pg_name (i := 7) sc_l_line.nd rfl (Or.inl rfl))) (fun _ _ _ _ _ => pts_nil) (fun _ _ _ _ _ => (pe_ix ix_str (pv 2) (pe_call G_l_draw (hr.mono (by decide)) (by rfl) T.g_l_draw T.F_l_draw.kp b_l_draw .nil pass0 (pa_cons (pv 0) (pa_cons (pe_callB call_len_str (by rfl) T.n_len (by decide +kernel) (pa_cons (pv 2) pa_nil)) pa_nil))) (fun _ _ => rfl))))))) pss_nil) (pss_one (ps_ret (pv 3))))))))))))), ?_⟩
    have g0 : Gr (Bc B C) F0 H0 F0 H0 := Gr.refl hS0
    unfold m_l_line at hm
    refine p_seq ?_
    refine p_asg ?_
    obtain ⟨y_signs1, hb2, hm⟩ := bnd hm
    have hx3 : (" !\"#$&'()*+,-./0123456789:;<=>?@ABCDEFGHIJKLMNOPQRSTUVWXYZ[\\]^_`" : Str) = y_signs1 := sjoin hb2
    have gs4 : GS y_signs1 := hx3 ▸ (⟨by decide +kernel, by decide +kernel⟩ : GS (" !\"#$&'()*+,-./0123456789:;<=>?@ABCDEFGHIJKLMNOPQRSTUVWXYZ[\\]^_`" : Str))
    refine p_nm (v' := (V.str y_signs1)) (congrArg V.str hx3) ?_
    refine p_nx ?_
    refine p_seq ?_
    refine p_asg ?_
    obtain ⟨t5, hb6, hm⟩ := bnd hm
    obtain ⟨hk7, rfl⟩ := catS_ok hb6
    refine ⟨(V.str y_signs1), rfl, _, _, rfl, rfl, hk7, ?_⟩
    obtain ⟨y_signs8, hx9⟩ : ∃ z_, (y_signs1 ++ ("abcdefghijklmnopqrstuvwxyz{|}~\n" : Str)) = z_ := ⟨_, rfl⟩
    try rw [hx9] at hm
    have gs10 : GS y_signs8 := hx9 ▸ ((GS.cat gs4 ⟨by decide +kernel, by decide +kernel⟩ hb6) : GS (y_signs1 ++ ("abcdefghijklmnopqrstuvwxyz{|}~\n" : Str)))
    refine p_nm (v' := (V.str y_signs8)) (congrArg V.str hx9) ?_
    refine p_nx ?_
    refine p_seq ?_
    refine p_asg ?_
    refine ⟨(V.ref B), rfl, (V.int y_size_here), rfl, (by show 0 ≤ sizeLine; decide), fun p11 np12 => ?_⟩
    have nb13 := hB.nb np12
    have g14 := g0.own (o := (.lst [])) np12
    have hB15 := hB.own (o := (.lst [])) np12
    have ow16 : Ow H0 F0 (upd H0 p11 (.lst [])) p11 [] := Ow.new g0 np12
    obtain ⟨r18, b19, hb20, hm⟩ := bnd2 hm
    refine ⟨F0, B, C, b, y_size_here, p11, [], ([] : (List Str)), r18, b19, rfl, g14.fh, hB15, ow16.sq, (by show 0 ≤ sizeLine; decide), RpA.nil, nb13, hb20, fun F21 H22 g23 hB24 gs25 => ?_⟩
    have g26 := Gr.trans g14 g23
    have ow27 := ow16.gr g23 nb13
    refine p_name ?_
    refine p_nx ?_
    refine p_seq ?_
    refine p_asg ?_
    obtain ⟨r28, b29, hb30, hm⟩ := bnd2 hm
    refine ⟨(V.ref B), rfl, (V.str r18), rfl, _, rfl, (gs25 : GS r18).len, _, _, rfl, rfl, F21, B, C, b19, (((r18.length : Nat) : Int) + (1 : Int)), r28, b29, rfl, g26.fh, hB24, hb30, fun F31 H32 g33 hB34 => ?_⟩
    have g36 := Gr.trans g26 g33
    have ow37 := ow27.gr g33 nb13
    refine p_name ?_
    refine p_nx ?_
    refine p_seq ?_
    refine p_asg ?_
    obtain ⟨r38, b39, hb40, hm⟩ := bnd2 hm
    refine ⟨(V.str y_signs8), rfl, (V.ref B), rfl, (V.str y_signs8), rfl, _, rfl, (gs10 : GS y_signs8).len, F31, B, C, b29, ((y_signs8.length : Nat) : Int), r38, b39, rfl, g36.fh, hB34, hb40, fun F41 H42 g43 hB44 => ?_⟩
    have g46 := Gr.trans g36 g43
    have ow47 := ow37.gr g43 nb13
    obtain ⟨c48, hb49, hm⟩ := bnd hm
    obtain ⟨r50, b51, hb52, hm⟩ := bnd2 hm
    refine ⟨_, _, c48, rfl, rfl, (gs10 : GS y_signs8).len, hb49, (V.ref B), rfl, F41, B, C, b39, (3 : Int), r50, b51, rfl, g46.fh, hB44, hb52, fun F53 H54 g55 hB56 => ?_⟩
    have g58 := Gr.trans g46 g55
    have ow59 := ow47.gr g55 nb13
    obtain ⟨c60, hb61, hm⟩ := bnd hm
    refine ⟨_, _, c60, rfl, rfl, (⟨by decide +kernel, by decide +kernel⟩ : GS ("01*" : Str)).len, hb61, (by show 2 ≤ sizeLine; decide), fun p62 np63 => ?_⟩
    have ne64 := ow59.ne np63
    have nb65 := hB56.nb np63
    have g66 := g58.own (o := (.lst [(V.str (sgn c48)), (V.str (sgn c60))])) np63
    have ow67 := ow59.own (o := (.lst [(V.str (sgn c48)), (V.str (sgn c60))])) np63
    have hB68 := hB56.own (o := (.lst [(V.str (sgn c48)), (V.str (sgn c60))])) np63
    have ow69 : Ow H0 F53 (upd H54 p62 (.lst [(V.str (sgn c48)), (V.str (sgn c60))])) p62 [(V.str (sgn c48)), (V.str (sgn c60))] := Ow.new g58 np63
    have hA70 : RL K F53 [(V.str (sgn c48)), (V.str (sgn c60))] ([(sgn c48), (sgn c60)] : List Str) := (RpA.cons (Rp.str (sgn c48) (GS.sg gs10 (codeAt_mem hb49))) (RpA.cons (Rp.str (sgn c60) (GS.sg ⟨by decide +kernel, by decide +kernel⟩ (codeAt_mem hb61))) RpA.nil))
    obtain ⟨r71, b72, hb73, hm⟩ := bnd2 hm
    refine ⟨(V.ref B), rfl, F53, B, C, b51, (2 : Int), r71, b72, rfl, g66.fh, hB68, hb73, fun F74 H75 g76 hB77 => ?_⟩
    have g79 := Gr.trans g66 g76
    have ow80 := ow67.gr g76 nb13
    have ow81 := ow69.gr g76 nb65
    obtain ⟨t82, hb83, hm⟩ := bnd hm
    obtain ⟨v84, ha85, r86⟩ := RL.at (hA70.up g76.ff) hb83
    obtain ⟨rfl, gs87⟩ := R.str_v r86
    refine ⟨p62, [(V.str (sgn c48)), (V.str (sgn c60))], _, (V.str t82), rfl, rfl, ow81.sq, ha85, ?_⟩
    refine p_name ?_
    refine p_nx ?_
    refine p_seq ?_
    refine p_asg ?_
    obtain ⟨r88, b89, hb90, hm⟩ := bnd2 hm
    refine ⟨(V.ref B), rfl, F74, B, C, b72, (8 : Int), r88, b89, rfl, g79.fh, hB77, hb90, fun F91 H92 g93 hB94 => ?_⟩
    have g96 := Gr.trans g79 g93
    have ow97 := ow80.gr g93 nb13
    have ow98 := ow81.gr g93 nb65
    refine p_name ?_
    refine p_nx ?_
    refine p_seq ?_
    refine p_if ?_
    refine ⟨(V.int r88), rfl, _, _, rfl, rfl, _, rfl, (iteB (fun hc => ?_) (fun hc => ?_))⟩
    · have hm := ifT hc hm
      refine p_ret ?_
      refine ⟨(V.str r18), rfl, (V.int r28), rfl, _, rfl, _, rfl, (gs25 : GS r18).len, (V.str t82), rfl, (V.str t82), rfl, (by show 3 ≤ sizeLine; decide), fun p99 np100 => ?_⟩
      have ne101 := ow97.ne np100
      have ne102 := ow98.ne np100
      have nb103 := hB94.nb np100
      have g104 := g96.own (o := (.lst [(V.str t82), (V.str t82), (V.str ("" : Str))])) np100
      have ow105 := ow97.own (o := (.lst [(V.str t82), (V.str t82), (V.str ("" : Str))])) np100
      have ow106 := ow98.own (o := (.lst [(V.str t82), (V.str t82), (V.str ("" : Str))])) np100
      have hB107 := hB94.own (o := (.lst [(V.str t82), (V.str t82), (V.str ("" : Str))])) np100
      have ow108 : Ow H0 F91 (upd H92 p99 (.lst [(V.str t82), (V.str t82), (V.str ("" : Str))])) p99 [(V.str t82), (V.str t82), (V.str ("" : Str))] := Ow.new g96 np100
      have hA109 : RL K F91 [(V.str t82), (V.str t82), (V.str ("" : Str))] ([t82, t82, ("" : Str)] : List Str) := (RpA.cons (Rp.str t82 gs87) (RpA.cons (Rp.str t82 gs87) (RpA.cons (Rp.str ("" : Str) ⟨by decide +kernel, by decide +kernel⟩) RpA.nil)))
      obtain ⟨t110, hb111, hm⟩ := bnd hm
      obtain ⟨v112, ha113, r114⟩ := RL.at hA109 hb111
      obtain ⟨rfl, gs115⟩ := R.str_v r114
      obtain ⟨t116, hb117, hm⟩ := bnd hm
      obtain ⟨hk118, rfl⟩ := catS_ok hb117
      refine ⟨(V.int r88), rfl, p99, [(V.str t82), (V.str t82), (V.str ("" : Str))], _, (V.str t110), rfl, rfl, ow108.sq, ha113, _, _, rfl, rfl, hk118, (V.str r18), rfl, (V.int r28), rfl, (by show 3 ≤ sizeLine; decide), fun p119 np120 => ?_⟩
      have ne121 := ow105.ne np120
      have ne122 := ow106.ne np120
      have ne123 := ow108.ne np120
      have nb124 := hB107.nb np120
      have g125 := g104.own (o := (.lst [(V.int (0 : Int)), (V.int (1 : Int)), (V.int (1 : Int))])) np120
      have ow126 := ow105.own (o := (.lst [(V.int (0 : Int)), (V.int (1 : Int)), (V.int (1 : Int))])) np120
      have ow127 := ow106.own (o := (.lst [(V.int (0 : Int)), (V.int (1 : Int)), (V.int (1 : Int))])) np120
      have ow128 := ow108.own (o := (.lst [(V.int (0 : Int)), (V.int (1 : Int)), (V.int (1 : Int))])) np120
      have hB129 := hB107.own (o := (.lst [(V.int (0 : Int)), (V.int (1 : Int)), (V.int (1 : Int))])) np120
      have ow130 : Ow H0 F91 (upd (upd H92 p99 (.lst [(V.str t82), (V.str t82), (V.str ("" : Str))])) p119 (.lst [(V.int (0 : Int)), (V.int (1 : Int)), (V.int (1 : Int))])) p119 [(V.int (0 : Int)), (V.int (1 : Int)), (V.int (1 : Int))] := Ow.new g104 np120
      have hA131 : RL K F91 [(V.int (0 : Int)), (V.int (1 : Int)), (V.int (1 : Int))] ([(0 : Int), (1 : Int), (1 : Int)] : List Int) := (RpA.cons (Rp.int (0 : Int)) (RpA.cons (Rp.int (1 : Int)) (RpA.cons (Rp.int (1 : Int)) RpA.nil)))
      obtain ⟨t132, hb133, hm⟩ := bnd hm
      obtain ⟨v134, ha135, r136⟩ := RL.at hA131 hb133
      obtain rfl := R.int_v r136
      obtain ⟨t137, hb138, hm⟩ := bnd hm
      obtain ⟨hk139, rfl⟩ := catS_ok hb138
      obtain ⟨rfl, rfl⟩ := pjoin hm
      refine ⟨(V.int r88), rfl, p119, [(V.int (0 : Int)), (V.int (1 : Int)), (V.int (1 : Int))], _, (V.int t132), rfl, rfl, ow130.sq, ha135, _, _, rfl, rfl, _, rfl, _, rfl, (gs25 : GS r18).len, _, _, rfl, rfl, hk139, (hQ _ _ g125 hB129 (GS.cat (GS.cat (GS.cut gs25 none (some r28)) gs115 hb117) (GS.cut gs25 (some (r28 + t132)) none) hb138))⟩
    · have hm := ifF hc hm
      refine p_next ?_
      refine p_nx ?_
      refine p_seq ?_
      refine p_if ?_
      refine ⟨(V.int r88), rfl, rfl, _, rfl, (iteB (fun hc => ?_) (fun hc => ?_))⟩
      · have hm := ifT hc hm
        refine p_ret ?_
        obtain ⟨r140, b141, hb142, hm⟩ := bnd2 hm
        refine ⟨(V.str r18), rfl, (V.int r28), rfl, _, rfl, _, rfl, (gs25 : GS r18).len, (V.ref B), rfl, F91, B, C, b89, (3 : Int), r140, b141, rfl, g96.fh, hB94, hb142, fun F143 H144 g145 hB146 => ?_⟩
        have g148 := Gr.trans g96 g145
        have ow149 := ow97.gr g145 nb13
        have ow150 := ow98.gr g145 nb65
        obtain ⟨t151, hb152, hm⟩ := bnd hm
        obtain ⟨hk153, rfl⟩ := mulS_ok hb152
        obtain ⟨t154, hb155, hm⟩ := bnd hm
        obtain ⟨hk156, rfl⟩ := catS_ok hb155
        obtain ⟨t157, hb158, hm⟩ := bnd hm
        obtain ⟨hk159, rfl⟩ := catS_ok hb158
        obtain ⟨rfl, rfl⟩ := pjoin hm
        refine ⟨_, _, rfl, rfl, hk153, _, _, rfl, rfl, hk156, (V.str r18), rfl, (V.int r28), rfl, _, rfl, _, rfl, (gs25 : GS r18).len, _, _, rfl, rfl, hk159, (hQ _ _ g148 hB146 (GS.cat (GS.cat (GS.cut gs25 none (some r28)) (GS.mul ⟨by decide +kernel, by decide +kernel⟩ hb152) hb155) (GS.cut gs25 (some r28) none) hb158))⟩
      · have hm := ifF hc hm
        refine p_next ?_
        refine p_nx ?_
        refine p_seq ?_
        refine p_if ?_
        refine ⟨(V.int r88), rfl, rfl, _, rfl, (iteB (fun hc => ?_) (fun hc => ?_))⟩
        · have hm := ifT hc hm
          refine p_ret ?_
          obtain ⟨t160, hb161, hm⟩ := bnd hm
          obtain ⟨hk162, rfl⟩ := catS_ok hb161
          obtain ⟨t163, hb164, hm⟩ := bnd hm
          obtain ⟨hk165, rfl⟩ := catS_ok hb164
          refine ⟨(V.str r18), rfl, _, rfl, (gs25 : GS r18).len, (V.str t82), rfl, (V.str r18), rfl, _, _, rfl, rfl, hk162, (V.str r18), rfl, (V.str t82), rfl, _, _, rfl, rfl, hk165, (by show 3 ≤ sizeLine; decide), fun p166 np167 => ?_⟩
          have ne168 := ow97.ne np167
          have ne169 := ow98.ne np167
          have nb170 := hB94.nb np167
          have g171 := g96.own (o := (.lst [(V.str (revS r18)), (V.str (t82 ++ r18)), (V.str (r18 ++ t82))])) np167
          have ow172 := ow97.own (o := (.lst [(V.str (revS r18)), (V.str (t82 ++ r18)), (V.str (r18 ++ t82))])) np167
          have ow173 := ow98.own (o := (.lst [(V.str (revS r18)), (V.str (t82 ++ r18)), (V.str (r18 ++ t82))])) np167
          have hB174 := hB94.own (o := (.lst [(V.str (revS r18)), (V.str (t82 ++ r18)), (V.str (r18 ++ t82))])) np167
          have ow175 : Ow H0 F91 (upd H92 p166 (.lst [(V.str (revS r18)), (V.str (t82 ++ r18)), (V.str (r18 ++ t82))])) p166 [(V.str (revS r18)), (V.str (t82 ++ r18)), (V.str (r18 ++ t82))] := Ow.new g96 np167
          have hA176 : RL K F91 [(V.str (revS r18)), (V.str (t82 ++ r18)), (V.str (r18 ++ t82))] ([(revS r18), (t82 ++ r18), (r18 ++ t82)] : List Str) := (RpA.cons (Rp.str (revS r18) (GS.rev gs25)) (RpA.cons (Rp.str (t82 ++ r18) (GS.cat gs87 gs25 hb161)) (RpA.cons (Rp.str (r18 ++ t82) (GS.cat gs25 gs87 hb164)) RpA.nil)))
          obtain ⟨r177, b178, hb179, hm⟩ := bnd2 hm
          refine ⟨(V.ref B), rfl, F91, B, C, b89, (3 : Int), r177, b178, rfl, g171.fh, hB174, hb179, fun F180 H181 g182 hB183 => ?_⟩
          have g185 := Gr.trans g171 g182
          have ow186 := ow172.gr g182 nb13
          have ow187 := ow173.gr g182 nb65
          have ow188 := ow175.gr g182 nb170
          obtain ⟨t189, hb190, hm⟩ := bnd hm
          obtain ⟨v191, ha192, r193⟩ := RL.at (hA176.up g182.ff) hb190
          obtain ⟨rfl, gs194⟩ := R.str_v r193
          obtain ⟨rfl, rfl⟩ := pjoin hm
          refine ⟨p166, [(V.str (revS r18)), (V.str (t82 ++ r18)), (V.str (r18 ++ t82))], _, (V.str t189), rfl, rfl, ow188.sq, ha192, (hQ _ _ g185 hB183 gs194)⟩
        · have hm := ifF hc hm
          refine p_next ?_
          refine p_nx ?_
          refine p_seq ?_
          refine p_if ?_
          refine ⟨(V.int r88), rfl, rfl, _, rfl, (iteB (fun hc => ?_) (fun hc => ?_))⟩
          · have hm := ifT hc hm
            refine p_ret ?_
            obtain ⟨r195, b196, hb197, hm⟩ := bnd2 hm
            refine ⟨⟨_, rfl⟩, (V.ref B), rfl, F91, B, C, b89, (9 : Int), r195, b196, rfl, g96.fh, hB94, hb197, fun F198 H199 g200 hB201 => ?_⟩
            have g203 := Gr.trans g96 g200
            have ow204 := ow97.gr g200 nb13
            have ow205 := ow98.gr g200 nb65
            obtain ⟨l206, hb208, hm⟩ := bnd hm
            obtain ⟨hk207, rfl⟩ := rangeO1_ok hb208
            refine ⟨_, rfl, hk207.1.1, hk207.1.2, fun D209 nD210 => ?_⟩
            have ne211 := ow204.ne nD210
            have ne212 := ow205.ne nD210
            have nb213 := hB201.nb nD210
            have g214 := g203.own (o := (.lst [])) nD210
            have ow215 := ow204.own (o := (.lst [])) nD210
            have ow216 := ow205.own (o := (.lst [])) nD210
            have hB217 := hB201.own (o := (.lst [])) nD210
            have ow218 : Ow H0 F198 (upd H199 D209 (.lst [])) D209 [] := Ow.new g203 nD210
            obtain ⟨l219, b220, hb221, hm⟩ := bnd2 hm
            refine lc_range (lo := (0 : Int)) (n := (r195).toNat) (fun i H' => ∃ (F' : Hp) (acc : List V) (ds : List Str) (rest : List Str) (b : Bag), Gr (Bc B C) F0 H0 F' H' ∧ Same F198 F' ∧ Ow H0 F' H' D209 acc ∧ RL K F' acc ds ∧ acc.length ≤ i ∧ Ow H0 F' H' p11 [] ∧ Ow H0 F' H' p62 [(V.str (sgn c48)), (V.str (sgn c60))] ∧ BagAt F' H' B C b ∧ m_l_line_c1 y_signs8 ((rangeL (0 : Int) (r195).toNat).drop i) b = some (rest, b220) ∧ ds ++ rest = l219) ?_ ?_ ?_
            · exact ⟨F198, [], [], l219, b196, g214, Same.refl _, ow218, RpA.nil, Nat.le_refl _, ow215, ow216, hB217, hb221, rfl⟩
            · intro i H' hx hP
              obtain ⟨F', acc, ds, rest, b, g0_, sm_, owD_, hA_, hi_, ow0_, ow1_, hB_, hm_, hr_⟩ := hP
              have he224 := rangeL_at (lo := (0 : Int)) hx
              rw [drop_at he224, m_l_line_c1.eq_2] at hm_
              refine ⟨rfl, (p_yes ?_)⟩
              obtain ⟨r225, b226, hb227, hm_⟩ := bnd2 hm_
              refine ⟨(V.str y_signs8), rfl, (V.ref B), rfl, (V.str y_signs8), rfl, _, rfl, (gs10 : GS y_signs8).len, F', B, C, b, ((y_signs8.length : Nat) : Int), r225, b226, rfl, g0_.fh, hB_, hb227, fun F228 H229 g230 hB231 => ?_⟩
              have g233 := Gr.trans g0_ g230
              have ow234 := ow0_.gr g230 nb13
              have ow235 := ow1_.gr g230 nb65
              have ow236 := owD_.gr g230 nb213
              obtain ⟨c237, hb238, hm_⟩ := bnd hm_
              have hA239 : RL K F228 (acc ++ [(V.str (sgn c237))]) (ds ++ [((sgn c237) : Str)]) := RL.snoc (hA_.up g230.ff) (Rp.str (sgn c237) (GS.sg gs10 (codeAt_mem hb238)))
              obtain ⟨rest240, b241, h242, h243⟩ := bnd2 hm_
              obtain ⟨rfl, rfl⟩ := pjoin h243
              refine ⟨_, _, c237, rfl, rfl, (gs10 : GS y_signs8).len, hb238, acc, ow236.h, (lt_line hi_ hx hk207.2), ?_⟩
              have g244 := g233.put (o := (.lst (acc ++ [(V.str (sgn c237))]))) ow236
              have ow245 := ow234.other (o := (.lst (acc ++ [(V.str (sgn c237))]))) ne211
              have ow246 := ow235.other (o := (.lst (acc ++ [(V.str (sgn c237))]))) ne212
              have hB247 := hB231.other (o := (.lst (acc ++ [(V.str (sgn c237))]))) nb213
              have ow248 := ow236.put (us := (acc ++ [(V.str (sgn c237))]))
              exact ⟨F228, (acc ++ [(V.str (sgn c237))]), (ds ++ [(sgn c237)]), rest240, b226, g244, (Same.trans sm_ g230.ff), ow248, hA239, (by rw [List.length_append]; exact Nat.succ_le_succ hi_), ow245, ow246, hB247, h242, (snoc_rest hr_)⟩
            intro H249 hP
            obtain ⟨F250, acc251, ds252, _rest, b253, g0254, sm255, owD256, hA257, hi258, ow0259, ow1260, hB261, hm262, hr263⟩ := hP
            rw [drop_end (rangeL_len _ _).symm] at hm262
            rw [m_l_line_c1.eq_1] at hm262
            obtain ⟨rfl, rfl⟩ := pjoin hm262
            rw [List.append_nil] at hr263
            obtain rfl := hr263
            have hl264 : acc251.length ≤ sizeLine := Nat.le_trans hi258 hk207.2
            obtain ⟨t265, hb266, hm⟩ := bnd hm
            obtain ⟨hk267, rfl⟩ := joinS_ok hb266
            obtain ⟨rfl, rfl⟩ := pjoin hm
            refine ⟨_, D209, ds252, rfl, rfl, (.inl (by rw [← (RL.strs hA257).1]; exact owD256.sq)), hk267, (hQ _ _ g0254 hB261 (GS.join ⟨by decide +kernel, by decide +kernel⟩ (RL.strs hA257).2 hb266))⟩
          · have hm := ifF hc hm
            refine p_next ?_
            refine p_nx ?_
            refine p_ret ?_
            obtain ⟨rfl, rfl⟩ := pjoin hm
            refine ⟨(V.str r18), rfl, (hQ _ _ g96 hB94 gs25)⟩
end K01
namespace K01
open PySem PySem.Spec PyProof.Rows L2 TL G
theorem ok_l_meant {P : Program} {w : World} {K : PySem.W.Frag} {mg : Str → Option Value} {base : Heap} (T : Txt K mg) : FnOk P w K mg base CX0 1 T.a_l_meant T.d_l_meant ["_law_line_here", "_law_size_here"] (sp_l_meant K) := by
  refine fd_ok T.F_l_meant sc_l_meant (fun vs H Q E h => ?_) (fun cdv A outer s H0 vs Q E hr h => ?_)
  · obtain ⟨_, _, _, rfl, _⟩ := h
    rfl
  · obtain ⟨y_line_here, y_size_here, r, rfl, gs_y_line_here, hm, hQ⟩ := h
    refine ⟨_, (pss_cons (ps_set (i := 2) sc_l_meant.nd rfl (.inl rfl) pe_int) (pss_cons (ps_while PassesOwn.never (PW.pt (pw_and (pt_cmpR op_lt (pv 2) (pe_callB call_len_str (by rfl) T.n_len (by decide +kernel) (pa_cons (pv 0) pa_nil)) (nomark _)) (pw_and1 (pt_cmpR op_in_sign (pe_ix ix_str (pv 0) (pv 2) (fun _ _ => rfl)) pe_str rfl)))) (pss_one (ps_set (i := 2) sc_l_meant.nd rfl (.inl rfl) (pe_op op_add (pv 2) pe_int)))) (pss_one (ps_ret (pe_and (pe_cmpR op_le (pv 2) (pv 1) (nomark _)) (pe_one (pe_cmpR op_eq (pe_slice sl_str (pv 0) (po_some (pv 2)) po_none) (pe_op op_mulS pe_str (pe_callTy call_toI (by rfl) T.n_int (by decide +kernel) (pa_cons (pe_cmpR op_lt (pv 2) (pv 1) (nomark _)) pa_nil))) (nomark _)))))))), ?_⟩
    have g0 : Gr M0 H0 H0 H0 H0 := Gr.refl (Same.refl _)
    unfold m_l_meant at hm
    refine p_seq ?_
    refine p_asg ?_
    refine p_name ?_
    refine p_nx ?_
    refine p_seq ?_
    obtain ⟨y_k1, ht2, hm⟩ := bnd hm
    refine ⟨fun i σ' H' => ∃ (F' : Hp) (y_k : Int), σ' = [(some (V.str y_line_here)), (some (V.int y_size_here)), (some (V.int y_k))] ∧ Gr M0 H0 H0 F' H' ∧ Same H0 F' ∧ m_l_meant_l1 y_line_here i y_k = some y_k1, ⟨((y_line_here.length : Nat) + 1), ⟨H0, (0 : Int), rfl, g0, (Same.refl _), ht2⟩⟩, ?_⟩
    intro i σ3 H4 hP
    obtain ⟨F5, y_k6, rfl, g7, sm8, hm9⟩ := hP
    cases i with | zero => exact absurd hm9 (by rw [m_l_meant_l1.eq_1]; exact nofun) | succ i => ?_
    rw [m_l_meant_l1.eq_2] at hm9
    refine ⟨(V.int y_k6), rfl, (V.str y_line_here), rfl, _, rfl, (gs_y_line_here : GS y_line_here).len, _, _, rfl, rfl, _, rfl, ?_⟩
    obtain ⟨c10, hc11, hm9⟩ := bnd hm9
    refine andJT (M := M0) (F := F5) (c := c10) (P := fun _ _ => True) (fun ha => ?_) (fun ha => ⟨(sjoin (ifF ha hc11)).symm, trivial⟩) g7.fh ?_
    · intro Q13 q14
      have hc11 := ifT ha hc11
      obtain ⟨c15, hb16, hc11⟩ := bnd hc11
      obtain rfl := sjoin hc11
      refine ⟨(V.str y_line_here), rfl, (V.int y_k6), rfl, _, _, c15, rfl, rfl, (gs_y_line_here : GS y_line_here).len, hb16, c15, ("01" : Str), rfl, rfl, _, rfl, (q14 _ _ (Gr.refl (M := M0) g7.fh) trivial)⟩
    intro F17 H18 g19 hB20
    have g21 := Gr.trans g7 g19
    refine (iteB (fun hc => ?_) (fun hc => ?_))
    · have hm9 := ifT hc hm9
      refine ⟨fun σ' H' => ∃ (F' : Hp) (y_k : Int), σ' = [(some (V.str y_line_here)), (some (V.int y_size_here)), (some (V.int y_k))] ∧ Gr M0 H0 H0 F' H' ∧ Same H0 F' ∧ m_l_meant_l1 y_line_here i y_k = some y_k1, fun _ _ n => ⟨i, Nat.lt_succ_self i, n⟩, ?_⟩
      refine p_id ?_
      refine p_asg ?_
      refine ⟨(V.int y_k6), rfl, _, _, rfl, rfl, ?_⟩
      obtain ⟨y_k22, hb23, hm9⟩ := bnd hm9
      have hx24 : (y_k6 + (1 : Int)) = y_k22 := sjoin hb23
      refine p_nm (v' := (V.int y_k22)) (congrArg V.int hx24) ?_
      exact ⟨F17, y_k22, rfl, g21, (Same.trans sm8 g19.ff), hm9⟩
    have hm9 := ifF hc hm9
    obtain rfl := sjoin hm9
    refine p_nx ?_
    refine p_ret ?_
    refine ⟨(V.int y_k6), rfl, (V.int y_size_here), rfl, _, _, rfl, rfl, _, rfl, ?_⟩
    obtain ⟨c25, hc26, hm⟩ := bnd hm
    refine andJV (M := M0) (F := F17) (c := c25) (P := fun _ _ => True) (fun ha => ?_) (fun ha => ⟨(sjoin (ifF ha hc26)).symm, trivial⟩) g21.fh ?_
    · intro Q28 q29
      have hc26 := ifT ha hc26
      obtain ⟨t30, hb31, hc26⟩ := bnd hc26
      obtain ⟨hk32, rfl⟩ := mulS_ok hb31
      obtain rfl := sjoin hc26
      refine ⟨(V.str y_line_here), rfl, (V.int y_k6), rfl, _, rfl, _, rfl, (gs_y_line_here : GS y_line_here).len, (V.int y_k6), rfl, (V.int y_size_here), rfl, _, _, rfl, rfl, _, rfl, _, _, rfl, rfl, hk32, rfl, (q29 _ _ (Gr.refl (M := M0) g21.fh) trivial)⟩
    intro F33 H34 g35 hB36
    have g37 := Gr.trans g21 g35
    obtain rfl := sjoin hm
    exact (hQ _ _ g37)
end K01
namespace K01
open PySem PySem.Spec PyProof.Rows L2 TL G
theorem ok_law {P : Program} {w : World} {K : PySem.W.Frag} {mg : Str → Option Value} {base : Heap} (T : Txt K mg) (hlaw : ∀ b : Bag, BOk b → ∃ b', m_law b = some (true, b')) : FnOk P w K mg base CX0 10 T.a_law T.d_law ["_law_script"] (sp_law K) := by
  have G_l_bag : FnOk P w K mg base CX0 1 T.a_l_bag T.d_l_bag ["_law_script"] (sp_l_bag K) := ok_l_bag T
  have b_l_bag := T.F_l_bag.bindsN (ps := ["_law_script"]) fun _ _ _ _ _ _ us hl => match us, hl with | [_], _ => rfl
  have G_l_size : FnOk P w K mg base CX0 2 T.a_l_size T.d_l_size ["_law_bag_here"] (sp_l_size K) := ok_l_size T
  have b_l_size := T.F_l_size.bindsN (ps := ["_law_bag_here"]) fun _ _ _ _ _ _ us hl => match us, hl with | [_], _ => rfl
  have G_l_line : FnOk P w K mg base CX0 4 T.a_l_line T.d_l_line ["_law_bag_here", "_law_size_here"] (sp_l_line K) := ok_l_line T
  have b_l_line := T.F_l_line.bindsN (ps := ["_law_bag_here", "_law_size_here"]) fun _ _ _ _ _ _ us hl => match us, hl with | [_, _], _ => rfl
  have G_l_meant : FnOk P w K mg base CX0 1 T.a_l_meant T.d_l_meant ["_law_line_here", "_law_size_here"] (sp_l_meant K) := ok_l_meant T
  have b_l_meant := T.F_l_meant.bindsN (ps := ["_law_line_here", "_law_size_here"]) fun _ _ _ _ _ _ us hl => match us, hl with | [_, _], _ => rfl
  have G_is_pattern : FnOk P w K mg base CX0 1 T.a_is_pattern T.d_is_pattern ["text", "width"] (sp_is_pattern K) := ok_is_pattern T
  have b_is_pattern := T.F_is_pattern.bindsN (ps := ["text", "width"]) fun _ _ _ _ _ _ us hl => match us, hl with | [_, _], _ => rfl
  have G_l_alike : FnOk P w K mg base CX0 9 T.a_l_alike T.d_l_alike ["_law_found", "_law_due"] (sp_alike 8 K) := ok_l_alike T 9
  have b_l_alike := T.F_l_alike.bindsN (ps := ["_law_found", "_law_due"]) fun _ _ _ _ _ _ us hl => match us, hl with | [_, _], _ => rfl
  refine fd_ok T.F_law sc_law (fun vs H Q E h => ?_) (fun cdv A outer s H0 vs Q E hr h => ?_)
  · obtain ⟨_, _, rfl, _⟩ := h
    rfl
  · obtain ⟨a_, ns_, rfl, hS_, hl_, hQ_⟩ := h
    refine ⟨_, (pss_cons (ps_set (i := 1) sc_law.nd rfl (.inl rfl) (pe_call G_l_bag (hr.mono (by decide)) (by rfl) T.g_l_bag T.F_l_bag.kp b_l_bag .nil pass0 (pa_cons (pv 0) pa_nil))) (pss_cons (ps_set (i := 2) sc_law.nd rfl (.inl rfl) (pe_call G_l_size (hr.mono (by decide)) (by rfl) T.g_l_size T.F_l_size.kp b_l_size .nil pass0 (pa_cons (pv 1) pa_nil))) (pss_cons (ps_for PassesOwn.never rfl (pi_range1 (by rfl) T.n_range (pa_cons pe_int pa_nil)) (pg_name (i := 3) sc_law.nd rfl (Or.inl rfl)) (pss_cons (ps_set (i := 4) sc_law.nd rfl (.inl rfl) (pe_call G_l_line (hr.mono (by decide)) (by rfl) T.g_l_line T.F_l_line.kp b_l_line .nil pass0 (pa_cons (pv 1) (pa_cons (pv 2) pa_nil)))) (pss_cons (ps_set (i := 5) sc_law.nd rfl (.inl rfl) (pe_call G_l_meant (hr.mono (by decide)) (by rfl) T.g_l_meant T.F_l_meant.kp b_l_meant .nil pass0 (pa_cons (pv 4) (pa_cons (pv 2) pa_nil)))) (pss_cons (ps_set (i := 6) sc_law.nd rfl (.inl rfl) (pe_lst (pa_cons (pe_call G_is_pattern (hr.mono (by decide)) (by rfl) T.g_is_pattern T.F_is_pattern.kp b_is_pattern .nil pass0 (pa_cons (pv 4) (pa_cons (pv 2) pa_nil))) (pa_cons (pe_callK0 G_is_pattern (hr.mono (by decide)) (by rfl) T.g_is_pattern T.F_is_pattern.kp (kb_is_pattern_0 T.F_is_pattern) pass0 (pk_cons (pv 2) (pk_cons (pv 4) pk_nil))) pa_nil)))) (pss_one (ps_if (pt_not (pt_val (pe_call G_l_alike (hr.mono (by decide)) (by rfl) T.g_l_alike T.F_l_alike.kp b_l_alike .nil pass0 (pa_cons (pv 6) (pa_cons (pe_lst (pa_cons (pv 5) (pa_cons (pv 5) pa_nil))) pa_nil))))) (pss_one (ps_ret pe_bl)) pss_nil)))))) (pss_cons (ps_set (i := 7) sc_law.nd rfl (.inl rfl) (pe_lst (pa_cons pe_str (pa_cons pe_str (pa_cons pe_str (pa_cons pe_str pa_nil)))))) (pss_cons (ps_if (pt_cmpR (op_neD hr.units) (pe_lc (own := [("_law_line_here", 4)]) rfl sc_law.nd (pi_list (pv 7)) (blkOk_by (own := [("_law_line_here", 4)]) (N := N_law) (sc := defScope s_law) (by decide +kernel)) (fun _ _ _ _ _ => (pg_name (i := 4) sc_law.nd rfl (Or.inl rfl))) (fun _ _ _ _ _ => pts_nil) (fun _ _ _ _ _ => (pe_call G_is_pattern (hr.mono (by decide)) (by rfl) T.g_is_pattern T.F_is_pattern.kp b_is_pattern .nil pass0 (pa_cons (pv 4) (pa_cons pe_int pa_nil))))) (pe_lst (pa_cons pe_bl (pa_cons pe_bl (pa_cons pe_bl (pa_cons pe_bl pa_nil))))) (nomark _)) (pss_one (ps_ret pe_bl)) pss_nil) (pss_cons (ps_set (i := 7) sc_law.nd rfl (.inl rfl) (pe_lst (pa_cons (pe_op op_mulS pe_str pe_int) (pa_cons (pe_op op_add_str (pe_op op_mulS pe_str pe_int) pe_str) (pa_cons (pe_op op_add_str (pe_op op_mulS pe_str pe_int) pe_str) (pa_cons (pe_op op_mulS pe_str pe_int) (pa_cons (pe_op op_mulS pe_str pe_int) (pa_cons (pe_op op_add_str (pe_op op_add_str (pe_op op_mulS pe_str pe_int) pe_str) (pe_op op_mulS pe_str pe_int)) pa_nil)))))))) (pss_one (ps_ret (pe_cmpR (op_eqD hr.units) (pe_lc (own := [("_law_line_here", 4)]) rfl sc_law.nd (pi_list (pv 7)) (blkOk_by (own := [("_law_line_here", 4)]) (N := N_law) (sc := defScope s_law) (by decide +kernel)) (fun _ _ _ _ _ => (pg_name (i := 4) sc_law.nd rfl (Or.inl rfl))) (fun _ _ _ _ _ => pts_nil) (fun _ _ _ _ _ => (pe_call G_is_pattern (hr.mono (by decide)) (by rfl) T.g_is_pattern T.F_is_pattern.kp b_is_pattern .nil pass0 (pa_cons (pv 4) (pa_cons pe_int pa_nil))))) (pe_lst (pa_cons pe_bl (pa_cons pe_bl (pa_cons pe_bl (pa_cons pe_bl (pa_cons pe_bl (pa_cons pe_bl pa_nil))))))) (nomark _)))))))))), ?_⟩
    refine p_seq ?_
    refine p_asg ?_
    refine ⟨_, rfl, a_, ns_, rfl, hS_, hl_, fun B C b F0 H0 hS0 hB hb_ => ?_⟩
    refine p_name ?_
    refine p_nx ?_
    obtain ⟨b_, hm⟩ := hlaw b hb_
    have hQ : ∀ F' H', Gr (Bc B C) F0 H0 F' H' → BagAt F' H' B C b_ → Q (.bl true) H' := fun _ H' _ _ => hQ_ H'
    have g0 : Gr (Bc B C) F0 H0 F0 H0 := Gr.refl hS0
    unfold m_law at hm
    refine p_seq ?_
    refine p_asg ?_
    obtain ⟨r1, b2, hb3, hm⟩ := bnd2 hm
    refine ⟨(V.ref B), rfl, F0, B, C, b, r1, b2, rfl, g0.fh, hB, hb3, fun F4 H5 g6 hB7 => ?_⟩
    have g9 := Gr.trans g0 g6
    refine p_name ?_
    refine p_nx ?_
    refine p_seq ?_
    refine p_for ?_
    refine ⟨_, rfl, (by decide), (by decide), ?_⟩
    obtain ⟨l11, ht12, hm⟩ := bndL1 hm
    refine for_range (lo := (0 : Int)) (n := (8 : Nat)) (fun i σ' H' => ∃ (F' : Hp) (o_y_k : Option V) (o_y_line_here : Option V) (o_y_due : Option V) (o_y_told : Option V) (b : Bag), σ' = [(some (V.ref a_)), (some (V.ref B)), (some (V.int r1)), o_y_k, o_y_line_here, o_y_due, o_y_told, none] ∧ Gr (Bc B C) F0 H0 F' H' ∧ Same F4 F' ∧ BagAt F' H' B C b ∧ m_law_l1 r1 ((rangeL (0 : Int) 8).drop i) b = some l11) ?_ ?_ ?_
    · exact ⟨F4, none, none, none, none, b2, rfl, g9, (Same.refl _), hB7, ht12⟩
    · intro i σ' H' hx hP
      obtain ⟨F', o_y_k, o_y_line_here, o_y_due, o_y_told, b, rfl, g_, sm_, hB_, hm_⟩ := hP
      have he15 := rangeL_at (lo := (0 : Int)) hx
      rw [drop_at he15, m_law_l1.eq_2] at hm_
      refine p_name ?_
      refine p_seq ?_
      refine p_asg ?_
      obtain ⟨r16, b17, hb18, hm_⟩ := bnd2 hm_
      refine ⟨(V.ref B), rfl, (V.int r1), rfl, F', B, C, b, r1, r16, b17, rfl, g_.fh, hB_, hb18, fun F19 H20 g21 hB22 gs23 => ?_⟩
      have g24 := Gr.trans g_ g21
      refine p_name ?_
      refine p_nx ?_
      refine p_seq ?_
      refine p_asg ?_
      obtain ⟨r25, hb26, hm_⟩ := bnd hm_
      refine ⟨(V.str r16), rfl, (V.int r1), rfl, r16, r1, r25, rfl, gs23, hb26, fun F27 H28 g29 => ?_⟩
      have g31 := Gr.apart g24 g29
      have hB32 := hB22.apart g29
      refine p_name ?_
      refine p_nx ?_
      refine p_seq ?_
      refine p_asg ?_
      obtain ⟨r33, hb34, hm_⟩ := bnd hm_
      refine ⟨(V.str r16), rfl, (V.int r1), rfl, r16, r1, r33, rfl, gs23, hb34, fun F35 H36 g37 => ?_⟩
      have g39 := Gr.apart g31 g37
      have hB40 := hB32.apart g37
      obtain ⟨r41, hb42, hm_⟩ := bnd hm_
      refine ⟨(V.int r1), rfl, (V.str r16), rfl, r16, r1, r41, rfl, gs23, hb42, fun F43 H44 g45 => ?_⟩
      have g47 := Gr.apart g39 g45
      have hB48 := hB40.apart g45
      refine ⟨(by show 2 ≤ sizeLine; decide), fun p49 np50 => ?_⟩
      have nb51 := hB48.nb np50
      have g52 := g47.own (o := (.lst [(V.bl r33), (V.bl r41)])) np50
      have hB53 := hB48.own (o := (.lst [(V.bl r33), (V.bl r41)])) np50
      have ow54 : Ow H0 F19 (upd H44 p49 (.lst [(V.bl r33), (V.bl r41)])) p49 [(V.bl r33), (V.bl r41)] := Ow.new g47 np50
      have hA55 : RL K F19 [(V.bl r33), (V.bl r41)] ([r33, r41] : List Bool) := (RpA.cons (Rp.bl r33) (RpA.cons (Rp.bl r41) RpA.nil))
      obtain ⟨y_told56, hb57, hm_⟩ := bnd hm_
      have hx58 : ([r33, r41] : List Bool) = y_told56 := sjoin hb57
      have hA59 : RL K _ _ y_told56 := hx58 ▸ (hA55 : RL K _ _ ([r33, r41] : List Bool))
      refine p_name ?_
      refine p_nx ?_
      refine p_if ?_
      refine ⟨(V.ref p49), rfl, (V.bl r25), rfl, (V.bl r25), rfl, (by show 2 ≤ sizeLine; decide), fun p60 np61 => ?_⟩
      have ne62 := ow54.ne np61
      have nb63 := hB53.nb np61
      have g64 := g52.own (o := (.lst [(V.bl r25), (V.bl r25)])) np61
      have ow65 := ow54.own (o := (.lst [(V.bl r25), (V.bl r25)])) np61
      have hB66 := hB53.own (o := (.lst [(V.bl r25), (V.bl r25)])) np61
      have ow67 : Ow H0 F19 (upd (upd H44 p49 (.lst [(V.bl r33), (V.bl r41)])) p60 (.lst [(V.bl r25), (V.bl r25)])) p60 [(V.bl r25), (V.bl r25)] := Ow.new g52 np61
      have hA68 : RL K F19 [(V.bl r25), (V.bl r25)] ([r25, r25] : List Bool) := (RpA.cons (Rp.bl r25) (RpA.cons (Rp.bl r25) RpA.nil))
      have rH69 : R K (upd (upd H44 p49 (.lst [(V.bl r33), (V.bl r41)])) p60 (.lst [(V.bl r25), (V.bl r25)])) (V.ref p49) y_told56 := (R.mkl ow65.sq (by show 2 ≤ sizeLine; decide) (RpA.up hA59 g64.fh))
      have rH70 : R K (upd (upd H44 p49 (.lst [(V.bl r33), (V.bl r41)])) p60 (.lst [(V.bl r25), (V.bl r25)])) (V.ref p60) ([r25, r25] : List Bool) := (R.mkl ow67.sq (by show 2 ≤ sizeLine; decide) (RpA.up hA68 g64.fh))
      obtain ⟨r71, hb73, hm_⟩ := bnd hm_
      obtain ⟨hxy72, rfl⟩ := alike_ok hb73
      refine ⟨(V.ref p49), (V.ref p60), _, rfl, rH69, (R.of_eq hxy72 rH70), (Nat.le_trans (Dep.le (y_told56 : (List Bool))) (by decide)), fun F74 H75 g76 => ?_⟩
      have g77 := Gr.apart g64 g76
      have ow78 := ow65.apart g76
      have ow79 := ow67.apart g76
      have hB80 := hB66.apart g76
      refine ⟨_, rfl, (iteB (fun hc => ?_) (fun hc => ?_))⟩
      · have hm_ := ifT hc hm_
        refine p_ret ?_
        obtain rfl := sjoin hm_
        have hm := bret hm
        obtain ⟨he81, rfl⟩ := pjoin hm
        exact absurd he81 (by decide)
      · have hm_ := ifF hc hm_
        refine p_next ?_
        exact ⟨F19, (some (V.int ((0 : Int) + ((i : Nat) : Int)))), (some (V.str r16)), (some (V.bl r25)), (some (V.ref p49)), b17, rfl, g77, (Same.trans sm_ g21.ff), hB80, hm_⟩
    intro σ82 H83 hP
    obtain ⟨F84, o_y_k85, o_y_line_here86, o_y_due87, o_y_told88, b89, rfl, g90, sm91, hB92, hm93⟩ := hP
    rw [drop_end (rangeL_len _ _).symm, m_law_l1.eq_1] at hm93
    obtain rfl := sjoin hm93
    have hm := bgo1 hm
    refine p_nx ?_
    refine p_seq ?_
    refine p_asg ?_
    refine ⟨(by show 4 ≤ sizeLine; decide), fun p94 np95 => ?_⟩
    have nb96 := hB92.nb np95
    have g97 := g90.own (o := (.lst [(V.str ("" : Str)), (V.str ("*" : Str)), (V.str ("0*" : Str)), (V.str ("1" : Str))])) np95
    have hB98 := hB92.own (o := (.lst [(V.str ("" : Str)), (V.str ("*" : Str)), (V.str ("0*" : Str)), (V.str ("1" : Str))])) np95
    have ow99 : Ow H0 F84 (upd H83 p94 (.lst [(V.str ("" : Str)), (V.str ("*" : Str)), (V.str ("0*" : Str)), (V.str ("1" : Str))])) p94 [(V.str ("" : Str)), (V.str ("*" : Str)), (V.str ("0*" : Str)), (V.str ("1" : Str))] := Ow.new g90 np95
    have hA100 : RL K F84 [(V.str ("" : Str)), (V.str ("*" : Str)), (V.str ("0*" : Str)), (V.str ("1" : Str))] ([("" : Str), ("*" : Str), ("0*" : Str), ("1" : Str)] : List Str) := (RpA.cons (Rp.str ("" : Str) ⟨by decide +kernel, by decide +kernel⟩) (RpA.cons (Rp.str ("*" : Str) ⟨by decide +kernel, by decide +kernel⟩) (RpA.cons (Rp.str ("0*" : Str) ⟨by decide +kernel, by decide +kernel⟩) (RpA.cons (Rp.str ("1" : Str) ⟨by decide +kernel, by decide +kernel⟩) RpA.nil))))
    obtain ⟨y_some101, hb102, hm⟩ := bnd hm
    have hx103 : ([("" : Str), ("*" : Str), ("0*" : Str), ("1" : Str)] : List Str) = y_some101 := sjoin hb102
    have hA104 : RL K _ _ y_some101 := hx103 ▸ (hA100 : RL K _ _ ([("" : Str), ("*" : Str), ("0*" : Str), ("1" : Str)] : List Str))
    refine p_name ?_
    refine p_nx ?_
    refine p_seq ?_
    refine p_if ?_
    refine ⟨(V.ref p94), rfl, p94, rfl, ⟨_, ow99.sq⟩, fun D105 nD106 => ?_⟩
    have ne107 := ow99.ne nD106
    have nb108 := hB98.nb nD106
    have g109 := g97.own (o := (.lst [])) nD106
    have ow110 := ow99.own (o := (.lst [])) nD106
    have hB111 := hB98.own (o := (.lst [])) nD106
    have ow112 : Ow H0 F84 (upd (upd H83 p94 (.lst [(V.str ("" : Str)), (V.str ("*" : Str)), (V.str ("0*" : Str)), (V.str ("1" : Str))])) D105 (.lst [])) D105 [] := Ow.new g97 nD106
    obtain ⟨l113, hb114, hm⟩ := bnd hm
    refine lc_list (K := K) (a := p94) (xs := [(V.str ("" : Str)), (V.str ("*" : Str)), (V.str ("0*" : Str)), (V.str ("1" : Str))]) (fun i H' => ∃ (F' : Hp) (acc : List V) (ds : List Bool) (rest : List Bool), Gr (Bc B C) F0 H0 F' H' ∧ Same F84 F' ∧ Ow H0 F' H' D105 acc ∧ RL K F' acc ds ∧ acc.length ≤ i ∧ Ow H0 F' H' p94 [(V.str ("" : Str)), (V.str ("*" : Str)), (V.str ("0*" : Str)), (V.str ("1" : Str))] ∧ BagAt F' H' B C b89 ∧ m_law_c2  (y_some101.drop i) = some rest ∧ ds ++ rest = l113) ?_ ?_ ?_ ?_
    · exact ⟨F84, [], [], l113, g109, Same.refl _, ow112, RpA.nil, Nat.le_refl _, ow110, hB111, hb114, rfl⟩
    · intro i H' _ hP
      obtain ⟨F', acc, ds, rest, g0_, sm_, owD_, hA_, hi_, ow0_, hB_, hm_, hr_⟩ := hP
      exact ow0_.sq
    · intro i xv115 H' hx hP
      obtain ⟨F', acc, ds, rest, g0_, sm_, owD_, hA_, hi_, ow0_, hB_, hm_, hr_⟩ := hP
      obtain ⟨e116, he117, r118⟩ := RL.get (hA104.up sm_) hx
      obtain ⟨rfl, gs119⟩ := R.str_v r118
      rw [drop_at he117, m_law_c2.eq_2] at hm_
      refine ⟨rfl, (p_yes ?_)⟩
      obtain ⟨r120, hb121, hm_⟩ := bnd hm_
      refine ⟨(V.str e116), rfl, e116, (1 : Int), r120, rfl, gs119, hb121, fun F122 H123 g124 => ?_⟩
      have g126 := Gr.apart g0_ g124
      have ow127 := ow0_.apart g124
      have ow128 := owD_.apart g124
      have hB129 := hB_.apart g124
      have hA130 : RL K F' (acc ++ [(V.bl r120)]) (ds ++ [(r120 : Bool)]) := RL.snoc hA_ (Rp.bl r120)
      obtain ⟨rest131, h132, h133⟩ := bnd hm_
      obtain rfl := sjoin h133
      refine ⟨acc, ow128.h, (lt_line hi_ (List.getElem?_eq_some_iff.mp hx).1 (by show 4 ≤ sizeLine; decide)), ?_⟩
      have g134 := g126.put (o := (.lst (acc ++ [(V.bl r120)]))) ow128
      have ow135 := ow127.other (o := (.lst (acc ++ [(V.bl r120)]))) ne107
      have hB136 := hB129.other (o := (.lst (acc ++ [(V.bl r120)]))) nb108
      have ow137 := ow128.put (us := (acc ++ [(V.bl r120)]))
      exact ⟨F', (acc ++ [(V.bl r120)]), (ds ++ [r120]), rest131, g134, sm_, ow137, hA130, (by rw [List.length_append]; exact Nat.succ_le_succ hi_), ow135, hB136, h132, (snoc_rest hr_)⟩
    intro H138 hP
    obtain ⟨F139, acc140, ds141, _rest, g0143, sm144, owD145, hA146, hi147, ow0148, hB149, hm150, hr151⟩ := hP
    rw [drop_end (RL.len hA104)] at hm150
    rw [m_law_c2.eq_1] at hm150
    obtain rfl := sjoin hm150
    rw [List.append_nil] at hr151
    obtain rfl := hr151
    have hl152 : acc140.length ≤ sizeLine := Nat.le_trans hi147 (by show 4 ≤ sizeLine; decide)
    refine ⟨(by show 4 ≤ sizeLine; decide), fun p153 np154 => ?_⟩
    have ne155 := ow0148.ne np154
    have ne156 := owD145.ne np154
    have nb157 := hB149.nb np154
    have g158 := g0143.own (o := (.lst [(V.bl false), (V.bl true), (V.bl false), (V.bl true)])) np154
    have ow159 := ow0148.own (o := (.lst [(V.bl false), (V.bl true), (V.bl false), (V.bl true)])) np154
    have ow160 := owD145.own (o := (.lst [(V.bl false), (V.bl true), (V.bl false), (V.bl true)])) np154
    have hB161 := hB149.own (o := (.lst [(V.bl false), (V.bl true), (V.bl false), (V.bl true)])) np154
    have ow162 : Ow H0 F139 (upd H138 p153 (.lst [(V.bl false), (V.bl true), (V.bl false), (V.bl true)])) p153 [(V.bl false), (V.bl true), (V.bl false), (V.bl true)] := Ow.new g0143 np154
    have hA163 : RL K F139 [(V.bl false), (V.bl true), (V.bl false), (V.bl true)] ([false, true, false, true] : List Bool) := (RpA.cons (Rp.bl false) (RpA.cons (Rp.bl true) (RpA.cons (Rp.bl false) (RpA.cons (Rp.bl true) RpA.nil))))
    have rH164 : R K (upd H138 p153 (.lst [(V.bl false), (V.bl true), (V.bl false), (V.bl true)])) (V.ref D105) ds141 := (R.mkl ow160.sq hl152 (RpA.up hA146 g158.fh))
    have rH165 : R K (upd H138 p153 (.lst [(V.bl false), (V.bl true), (V.bl false), (V.bl true)])) (V.ref p153) ([false, true, false, true] : List Bool) := (R.mkl ow162.sq (by show 4 ≤ sizeLine; decide) (RpA.up hA163 g158.fh))
    refine ⟨_, _, (Rp.dp _ _ rH164), (Rp.dp _ _ rH165), (R.shaped rH164), (R.shaped rH165), _, rfl, (iteB (fun hc => ?_) (fun hc => ?_))⟩
    · have hm := ifT hc hm
      refine p_ret ?_
      obtain ⟨he166, rfl⟩ := pjoin hm
      exact absurd he166 (by decide)
    · have hm := ifF hc hm
      refine p_next ?_
      refine p_nx ?_
      refine p_seq ?_
      refine p_asg ?_
      obtain ⟨t167, hb168, hm⟩ := bnd hm
      obtain ⟨hk169, rfl⟩ := mulS_ok hb168
      obtain ⟨t170, hb171, hm⟩ := bnd hm
      obtain ⟨hk172, rfl⟩ := mulS_ok hb171
      obtain ⟨t173, hb174, hm⟩ := bnd hm
      obtain ⟨hk175, rfl⟩ := catS_ok hb174
      obtain ⟨t176, hb177, hm⟩ := bnd hm
      obtain ⟨hk178, rfl⟩ := mulS_ok hb177
      obtain ⟨t179, hb180, hm⟩ := bnd hm
      obtain ⟨hk181, rfl⟩ := catS_ok hb180
      obtain ⟨t182, hb183, hm⟩ := bnd hm
      obtain ⟨hk184, rfl⟩ := mulS_ok hb183
      obtain ⟨t185, hb186, hm⟩ := bnd hm
      obtain ⟨hk187, rfl⟩ := mulS_ok hb186
      obtain ⟨t188, hb189, hm⟩ := bnd hm
      obtain ⟨hk190, rfl⟩ := mulS_ok hb189
      obtain ⟨t191, hb192, hm⟩ := bnd hm
      obtain ⟨hk193, rfl⟩ := catS_ok hb192
      obtain ⟨t194, hb195, hm⟩ := bnd hm
      obtain ⟨hk196, rfl⟩ := mulS_ok hb195
      obtain ⟨t197, hb198, hm⟩ := bnd hm
      obtain ⟨hk199, rfl⟩ := catS_ok hb198
      refine ⟨_, _, rfl, rfl, hk169, _, _, rfl, rfl, hk172, _, _, rfl, rfl, hk175, _, _, rfl, rfl, hk178, _, _, rfl, rfl, hk181, _, _, rfl, rfl, hk184, _, _, rfl, rfl, hk187, _, _, rfl, rfl, hk190, _, _, rfl, rfl, hk193, _, _, rfl, rfl, hk196, _, _, rfl, rfl, hk199, (by show 6 ≤ sizeLine; decide), fun p200 np201 => ?_⟩
      have ne202 := ow159.ne np201
      have ne203 := ow160.ne np201
      have ne204 := ow162.ne np201
      have nb205 := hB161.nb np201
      have g206 := g158.own (o := (.lst [(V.str (Txt.mul ("0" : Str) (30 : Int))), (V.str ((Txt.mul ("0" : Str) (30 : Int)) ++ ("*" : Str))), (V.str ((Txt.mul ("1" : Str) (29 : Int)) ++ ("*" : Str))), (V.str (Txt.mul ("1" : Str) (31 : Int))), (V.str (Txt.mul ("0" : Str) (4000 : Int))), (V.str (((Txt.mul ("0" : Str) (29 : Int)) ++ ("*" : Str)) ++ (Txt.mul ("0" : Str) (3000 : Int))))])) np201
      have ow207 := ow159.own (o := (.lst [(V.str (Txt.mul ("0" : Str) (30 : Int))), (V.str ((Txt.mul ("0" : Str) (30 : Int)) ++ ("*" : Str))), (V.str ((Txt.mul ("1" : Str) (29 : Int)) ++ ("*" : Str))), (V.str (Txt.mul ("1" : Str) (31 : Int))), (V.str (Txt.mul ("0" : Str) (4000 : Int))), (V.str (((Txt.mul ("0" : Str) (29 : Int)) ++ ("*" : Str)) ++ (Txt.mul ("0" : Str) (3000 : Int))))])) np201
      have ow208 := ow160.own (o := (.lst [(V.str (Txt.mul ("0" : Str) (30 : Int))), (V.str ((Txt.mul ("0" : Str) (30 : Int)) ++ ("*" : Str))), (V.str ((Txt.mul ("1" : Str) (29 : Int)) ++ ("*" : Str))), (V.str (Txt.mul ("1" : Str) (31 : Int))), (V.str (Txt.mul ("0" : Str) (4000 : Int))), (V.str (((Txt.mul ("0" : Str) (29 : Int)) ++ ("*" : Str)) ++ (Txt.mul ("0" : Str) (3000 : Int))))])) np201
      have ow209 := ow162.own (o := (.lst [(V.str (Txt.mul ("0" : Str) (30 : Int))), (V.str ((Txt.mul ("0" : Str) (30 : Int)) ++ ("*" : Str))), (V.str ((Txt.mul ("1" : Str) (29 : Int)) ++ ("*" : Str))), (V.str (Txt.mul ("1" : Str) (31 : Int))), (V.str (Txt.mul ("0" : Str) (4000 : Int))), (V.str (((Txt.mul ("0" : Str) (29 : Int)) ++ ("*" : Str)) ++ (Txt.mul ("0" : Str) (3000 : Int))))])) np201
      have hB210 := hB161.own (o := (.lst [(V.str (Txt.mul ("0" : Str) (30 : Int))), (V.str ((Txt.mul ("0" : Str) (30 : Int)) ++ ("*" : Str))), (V.str ((Txt.mul ("1" : Str) (29 : Int)) ++ ("*" : Str))), (V.str (Txt.mul ("1" : Str) (31 : Int))), (V.str (Txt.mul ("0" : Str) (4000 : Int))), (V.str (((Txt.mul ("0" : Str) (29 : Int)) ++ ("*" : Str)) ++ (Txt.mul ("0" : Str) (3000 : Int))))])) np201
      have ow211 : Ow H0 F139 (upd (upd H138 p153 (.lst [(V.bl false), (V.bl true), (V.bl false), (V.bl true)])) p200 (.lst [(V.str (Txt.mul ("0" : Str) (30 : Int))), (V.str ((Txt.mul ("0" : Str) (30 : Int)) ++ ("*" : Str))), (V.str ((Txt.mul ("1" : Str) (29 : Int)) ++ ("*" : Str))), (V.str (Txt.mul ("1" : Str) (31 : Int))), (V.str (Txt.mul ("0" : Str) (4000 : Int))), (V.str (((Txt.mul ("0" : Str) (29 : Int)) ++ ("*" : Str)) ++ (Txt.mul ("0" : Str) (3000 : Int))))])) p200 [(V.str (Txt.mul ("0" : Str) (30 : Int))), (V.str ((Txt.mul ("0" : Str) (30 : Int)) ++ ("*" : Str))), (V.str ((Txt.mul ("1" : Str) (29 : Int)) ++ ("*" : Str))), (V.str (Txt.mul ("1" : Str) (31 : Int))), (V.str (Txt.mul ("0" : Str) (4000 : Int))), (V.str (((Txt.mul ("0" : Str) (29 : Int)) ++ ("*" : Str)) ++ (Txt.mul ("0" : Str) (3000 : Int))))] := Ow.new g158 np201
      have hA212 : RL K F139 [(V.str (Txt.mul ("0" : Str) (30 : Int))), (V.str ((Txt.mul ("0" : Str) (30 : Int)) ++ ("*" : Str))), (V.str ((Txt.mul ("1" : Str) (29 : Int)) ++ ("*" : Str))), (V.str (Txt.mul ("1" : Str) (31 : Int))), (V.str (Txt.mul ("0" : Str) (4000 : Int))), (V.str (((Txt.mul ("0" : Str) (29 : Int)) ++ ("*" : Str)) ++ (Txt.mul ("0" : Str) (3000 : Int))))] ([(Txt.mul ("0" : Str) (30 : Int)), ((Txt.mul ("0" : Str) (30 : Int)) ++ ("*" : Str)), ((Txt.mul ("1" : Str) (29 : Int)) ++ ("*" : Str)), (Txt.mul ("1" : Str) (31 : Int)), (Txt.mul ("0" : Str) (4000 : Int)), (((Txt.mul ("0" : Str) (29 : Int)) ++ ("*" : Str)) ++ (Txt.mul ("0" : Str) (3000 : Int)))] : List Str) := (RpA.cons (Rp.str (Txt.mul ("0" : Str) (30 : Int)) (GS.mul ⟨by decide +kernel, by decide +kernel⟩ hb168)) (RpA.cons (Rp.str ((Txt.mul ("0" : Str) (30 : Int)) ++ ("*" : Str)) (GS.cat (GS.mul ⟨by decide +kernel, by decide +kernel⟩ hb171) ⟨by decide +kernel, by decide +kernel⟩ hb174)) (RpA.cons (Rp.str ((Txt.mul ("1" : Str) (29 : Int)) ++ ("*" : Str)) (GS.cat (GS.mul ⟨by decide +kernel, by decide +kernel⟩ hb177) ⟨by decide +kernel, by decide +kernel⟩ hb180)) (RpA.cons (Rp.str (Txt.mul ("1" : Str) (31 : Int)) (GS.mul ⟨by decide +kernel, by decide +kernel⟩ hb183)) (RpA.cons (Rp.str (Txt.mul ("0" : Str) (4000 : Int)) (GS.mul ⟨by decide +kernel, by decide +kernel⟩ hb186)) (RpA.cons (Rp.str (((Txt.mul ("0" : Str) (29 : Int)) ++ ("*" : Str)) ++ (Txt.mul ("0" : Str) (3000 : Int))) (GS.cat (GS.cat (GS.mul ⟨by decide +kernel, by decide +kernel⟩ hb189) ⟨by decide +kernel, by decide +kernel⟩ hb192) (GS.mul ⟨by decide +kernel, by decide +kernel⟩ hb195) hb198)) RpA.nil))))))
      obtain ⟨y_some213, hb214, hm⟩ := bnd hm
      have hx215 : ([(Txt.mul ("0" : Str) (30 : Int)), ((Txt.mul ("0" : Str) (30 : Int)) ++ ("*" : Str)), ((Txt.mul ("1" : Str) (29 : Int)) ++ ("*" : Str)), (Txt.mul ("1" : Str) (31 : Int)), (Txt.mul ("0" : Str) (4000 : Int)), (((Txt.mul ("0" : Str) (29 : Int)) ++ ("*" : Str)) ++ (Txt.mul ("0" : Str) (3000 : Int)))] : List Str) = y_some213 := sjoin hb214
      have hA216 : RL K _ _ y_some213 := hx215 ▸ (hA212 : RL K _ _ ([(Txt.mul ("0" : Str) (30 : Int)), ((Txt.mul ("0" : Str) (30 : Int)) ++ ("*" : Str)), ((Txt.mul ("1" : Str) (29 : Int)) ++ ("*" : Str)), (Txt.mul ("1" : Str) (31 : Int)), (Txt.mul ("0" : Str) (4000 : Int)), (((Txt.mul ("0" : Str) (29 : Int)) ++ ("*" : Str)) ++ (Txt.mul ("0" : Str) (3000 : Int)))] : List Str))
      refine p_name ?_
      refine p_nx ?_
      refine p_ret ?_
      refine ⟨(V.ref p200), rfl, p200, rfl, ⟨_, ow211.sq⟩, fun D217 nD218 => ?_⟩
      have ne219 := ow207.ne nD218
      have ne220 := ow208.ne nD218
      have ne221 := ow209.ne nD218
      have ne222 := ow211.ne nD218
      have nb223 := hB210.nb nD218
      have g224 := g206.own (o := (.lst [])) nD218
      have ow225 := ow207.own (o := (.lst [])) nD218
      have ow226 := ow208.own (o := (.lst [])) nD218
      have ow227 := ow209.own (o := (.lst [])) nD218
      have ow228 := ow211.own (o := (.lst [])) nD218
      have hB229 := hB210.own (o := (.lst [])) nD218
      have ow230 : Ow H0 F139 (upd (upd (upd H138 p153 (.lst [(V.bl false), (V.bl true), (V.bl false), (V.bl true)])) p200 (.lst [(V.str (Txt.mul ("0" : Str) (30 : Int))), (V.str ((Txt.mul ("0" : Str) (30 : Int)) ++ ("*" : Str))), (V.str ((Txt.mul ("1" : Str) (29 : Int)) ++ ("*" : Str))), (V.str (Txt.mul ("1" : Str) (31 : Int))), (V.str (Txt.mul ("0" : Str) (4000 : Int))), (V.str (((Txt.mul ("0" : Str) (29 : Int)) ++ ("*" : Str)) ++ (Txt.mul ("0" : Str) (3000 : Int))))])) D217 (.lst [])) D217 [] := Ow.new g206 nD218
      obtain ⟨l231, hb232, hm⟩ := bnd hm
      refine lc_list (K := K) (a := p200) (xs := [(V.str (Txt.mul ("0" : Str) (30 : Int))), (V.str ((Txt.mul ("0" : Str) (30 : Int)) ++ ("*" : Str))), (V.str ((Txt.mul ("1" : Str) (29 : Int)) ++ ("*" : Str))), (V.str (Txt.mul ("1" : Str) (31 : Int))), (V.str (Txt.mul ("0" : Str) (4000 : Int))), (V.str (((Txt.mul ("0" : Str) (29 : Int)) ++ ("*" : Str)) ++ (Txt.mul ("0" : Str) (3000 : Int))))]) (fun i H' => ∃ (F' : Hp) (acc : List V) (ds : List Bool) (rest : List Bool), Gr (Bc B C) F0 H0 F' H' ∧ Same F139 F' ∧ Ow H0 F' H' D217 acc ∧ RL K F' acc ds ∧ acc.length ≤ i ∧ Ow H0 F' H' p94 [(V.str ("" : Str)), (V.str ("*" : Str)), (V.str ("0*" : Str)), (V.str ("1" : Str))] ∧ Ow H0 F' H' D105 acc140 ∧ Ow H0 F' H' p153 [(V.bl false), (V.bl true), (V.bl false), (V.bl true)] ∧ Ow H0 F' H' p200 [(V.str (Txt.mul ("0" : Str) (30 : Int))), (V.str ((Txt.mul ("0" : Str) (30 : Int)) ++ ("*" : Str))), (V.str ((Txt.mul ("1" : Str) (29 : Int)) ++ ("*" : Str))), (V.str (Txt.mul ("1" : Str) (31 : Int))), (V.str (Txt.mul ("0" : Str) (4000 : Int))), (V.str (((Txt.mul ("0" : Str) (29 : Int)) ++ ("*" : Str)) ++ (Txt.mul ("0" : Str) (3000 : Int))))] ∧ BagAt F' H' B C b89 ∧ m_law_c3  (y_some213.drop i) = some rest ∧ ds ++ rest = l231) ?_ ?_ ?_ ?_
      · exact ⟨F139, [], [], l231, g224, Same.refl _, ow230, RpA.nil, Nat.le_refl _, ow225, ow226, ow227, ow228, hB229, hb232, rfl⟩
      · intro i H' _ hP
        obtain ⟨F', acc, ds, rest, g0_, sm_, owD_, hA_, hi_, ow0_, ow1_, ow2_, ow3_, hB_, hm_, hr_⟩ := hP
        exact ow3_.sq
      · intro i xv233 H' hx hP
        obtain ⟨F', acc, ds, rest, g0_, sm_, owD_, hA_, hi_, ow0_, ow1_, ow2_, ow3_, hB_, hm_, hr_⟩ := hP
        obtain ⟨e234, he235, r236⟩ := RL.get (hA216.up sm_) hx
        obtain ⟨rfl, gs237⟩ := R.str_v r236
        rw [drop_at he235, m_law_c3.eq_2] at hm_
        refine ⟨rfl, (p_yes ?_)⟩
        obtain ⟨r238, hb239, hm_⟩ := bnd hm_
        refine ⟨(V.str e234), rfl, e234, (30 : Int), r238, rfl, gs237, hb239, fun F240 H241 g242 => ?_⟩
        have g244 := Gr.apart g0_ g242
        have ow245 := ow0_.apart g242
        have ow246 := ow1_.apart g242
        have ow247 := ow2_.apart g242
        have ow248 := ow3_.apart g242
        have ow249 := owD_.apart g242
        have hB250 := hB_.apart g242
        have hA251 : RL K F' (acc ++ [(V.bl r238)]) (ds ++ [(r238 : Bool)]) := RL.snoc hA_ (Rp.bl r238)
        obtain ⟨rest252, h253, h254⟩ := bnd hm_
        obtain rfl := sjoin h254
        refine ⟨acc, ow249.h, (lt_line hi_ (List.getElem?_eq_some_iff.mp hx).1 (by show 6 ≤ sizeLine; decide)), ?_⟩
        have g255 := g244.put (o := (.lst (acc ++ [(V.bl r238)]))) ow249
        have ow256 := ow245.other (o := (.lst (acc ++ [(V.bl r238)]))) ne219
        have ow257 := ow246.other (o := (.lst (acc ++ [(V.bl r238)]))) ne220
        have ow258 := ow247.other (o := (.lst (acc ++ [(V.bl r238)]))) ne221
        have ow259 := ow248.other (o := (.lst (acc ++ [(V.bl r238)]))) ne222
        have hB260 := hB250.other (o := (.lst (acc ++ [(V.bl r238)]))) nb223
        have ow261 := ow249.put (us := (acc ++ [(V.bl r238)]))
        exact ⟨F', (acc ++ [(V.bl r238)]), (ds ++ [r238]), rest252, g255, sm_, ow261, hA251, (by rw [List.length_append]; exact Nat.succ_le_succ hi_), ow256, ow257, ow258, ow259, hB260, h253, (snoc_rest hr_)⟩
      intro H262 hP
      obtain ⟨F263, acc264, ds265, _rest, g0267, sm268, owD269, hA270, hi271, ow0272, ow1273, ow2274, ow3275, hB276, hm277, hr278⟩ := hP
      rw [drop_end (RL.len hA216)] at hm277
      rw [m_law_c3.eq_1] at hm277
      obtain rfl := sjoin hm277
      rw [List.append_nil] at hr278
      obtain rfl := hr278
      have hl279 : acc264.length ≤ sizeLine := Nat.le_trans hi271 (by show 6 ≤ sizeLine; decide)
      refine ⟨(by show 6 ≤ sizeLine; decide), fun p280 np281 => ?_⟩
      have ne282 := ow0272.ne np281
      have ne283 := ow1273.ne np281
      have ne284 := ow2274.ne np281
      have ne285 := ow3275.ne np281
      have ne286 := owD269.ne np281
      have nb287 := hB276.nb np281
      have g288 := g0267.own (o := (.lst [(V.bl true), (V.bl false), (V.bl true), (V.bl false), (V.bl false), (V.bl false)])) np281
      have ow289 := ow0272.own (o := (.lst [(V.bl true), (V.bl false), (V.bl true), (V.bl false), (V.bl false), (V.bl false)])) np281
      have ow290 := ow1273.own (o := (.lst [(V.bl true), (V.bl false), (V.bl true), (V.bl false), (V.bl false), (V.bl false)])) np281
      have ow291 := ow2274.own (o := (.lst [(V.bl true), (V.bl false), (V.bl true), (V.bl false), (V.bl false), (V.bl false)])) np281
      have ow292 := ow3275.own (o := (.lst [(V.bl true), (V.bl false), (V.bl true), (V.bl false), (V.bl false), (V.bl false)])) np281
      have ow293 := owD269.own (o := (.lst [(V.bl true), (V.bl false), (V.bl true), (V.bl false), (V.bl false), (V.bl false)])) np281
      have hB294 := hB276.own (o := (.lst [(V.bl true), (V.bl false), (V.bl true), (V.bl false), (V.bl false), (V.bl false)])) np281
      have ow295 : Ow H0 F263 (upd H262 p280 (.lst [(V.bl true), (V.bl false), (V.bl true), (V.bl false), (V.bl false), (V.bl false)])) p280 [(V.bl true), (V.bl false), (V.bl true), (V.bl false), (V.bl false), (V.bl false)] := Ow.new g0267 np281
      have hA296 : RL K F263 [(V.bl true), (V.bl false), (V.bl true), (V.bl false), (V.bl false), (V.bl false)] ([true, false, true, false, false, false] : List Bool) := (RpA.cons (Rp.bl true) (RpA.cons (Rp.bl false) (RpA.cons (Rp.bl true) (RpA.cons (Rp.bl false) (RpA.cons (Rp.bl false) (RpA.cons (Rp.bl false) RpA.nil))))))
      have rH297 : R K (upd H262 p280 (.lst [(V.bl true), (V.bl false), (V.bl true), (V.bl false), (V.bl false), (V.bl false)])) (V.ref D217) ds265 := (R.mkl ow293.sq hl279 (RpA.up hA270 g288.fh))
      have rH298 : R K (upd H262 p280 (.lst [(V.bl true), (V.bl false), (V.bl true), (V.bl false), (V.bl false), (V.bl false)])) (V.ref p280) ([true, false, true, false, false, false] : List Bool) := (R.mkl ow295.sq (by show 6 ≤ sizeLine; decide) (RpA.up hA296 g288.fh))
      obtain ⟨he299, rfl⟩ := pjoin hm
      refine ⟨_, _, (Rp.dp _ _ rH297), (Rp.dp _ _ rH298), (R.shaped rH297), (R.shaped rH298), (retQ (e := (eqD ds265 ([true, false, true, false, false, false] : List Bool))) he299 (hQ _ _ g288 hB294))⟩
end K01
namespace K01
open PySem PySem.Spec PyProof.Rows L2 TL G
/-- a sign of '01' -/
def isB (c : Nat) : Bool := decide (c ∈ [48, 49])
theorem tl01 : tl ("01" : Str) = [48, 49] := by decide +kernel
theorem tlStar : tl ("*" : Str) = [42] := by decide +kernel
theorem c1_spec (cs : List Nat) : m_is_pattern_c1 cs = (cs.filter fun c => !isB c).map sgn := by
  induction cs with
  | nil => rfl
  | cons c cs ih =>
    have e : (decide (c ∈ (("01" : Str)).cps.toList)) = isB c := by
      have h : (("01" : Str)).cps.toList = [48, 49] := tl01
      rw [h]
      rfl
    unfold m_is_pattern_c1
    rw [e, ih, List.filter_cons]
    cases isB c <;> rfl
/-- what is_pattern says of signs cs and a width -/
def patB (cs : List Nat) (w : Int) : Bool :=
  let o : Bool := decide (cs.drop (cs.length - 1) = [42])
  let bits := cs.take (cs.length - (if o then 1 else 0))
  if bits.all isB then (if o then decide ((bits.length : Int) < w) else decide ((bits.length : Int) = w)) else false
theorem pat_spec (x : Str) (w : Int) : m_is_pattern x w = some (patB (tl x) w) := by
  unfold m_is_pattern patB
  have e1 : eqS (cutS x (some (-(1 : Int))) none) ("*" : Str) = decide ((tl x).drop ((tl x).length - 1) = [42]) := by
    rw [eqS_tl, tl_cut, tlStar]
    rw [show (-(1 : Int)) = -1 from rfl, sIx_neg1, sIx_n, List.take_of_length_le (by rw [List.length_drop]; omega)]
  rw [e1]
  generalize ho : decide ((tl x).drop ((tl x).length - 1) = [42]) = o
  rw [Option.bind_some, Option.bind_some]
  have e3 : tl (cutS x none (some (((x.length : Nat) : Int) - (toI o)))) = (tl x).take ((tl x).length - (if o then 1 else 0)) := by
    rw [tl_cut, len_tl]
    show List.take (HT.sIx _ _ _ - 0) (List.drop 0 (tl x)) = _
    rw [List.drop_zero, Nat.sub_zero]
    have hlen : o = true → 1 ≤ (tl x).length := fun h => by
      rw [h] at ho
      have := congrArg List.length (of_decide_eq_true ho)
      rw [List.length_drop] at this
      have e : (tl x).length - ((tl x).length - 1) = 1 := this
      omega
    congr 1
    cases o with
    | true =>
      have := hlen rfl
      have e : ((tl x).length : Int) - toI true = (((tl x).length - 1 : Nat) : Int) := by
        show ((tl x).length : Int) - 1 = _
        omega
      rw [e, HT.sIx_nat]
      simp only [if_true]
      omega
    | false =>
      have e : ((tl x).length : Int) - toI false = (((tl x).length : Nat) : Int) := by
        show ((tl x).length : Int) - 0 = _
        omega
      rw [e, HT.sIx_nat]
      simp
  generalize cutS x none (some (((x.length : Nat) : Int) - (toI o))) = z at e3
  show (if (!eqD (m_is_pattern_c1 (tl z)) ([] : List Str)) = true then some false else some (if o = true then decide (((z.length : Nat) : Int) < w) else eqI ((z.length : Nat) : Int) w)) = _
  rw [c1_spec, eqD_dec, len_tl, eqI_iff]
  show _ = some (if (List.take ((tl x).length - if o = true then 1 else 0) (tl x)).all isB = true then (if o = true then decide (((List.take ((tl x).length - if o = true then 1 else 0) (tl x)).length : Int) < w) else decide (((List.take ((tl x).length - if o = true then 1 else 0) (tl x)).length : Int) = w)) else false)
  rw [← e3]
  generalize tl z = bs
  have e4 : (decide ((bs.filter fun c => !isB c).map sgn = [])) = bs.all isB := by
    rw [Bool.eq_iff_iff, decide_eq_true_iff, List.map_eq_nil_iff, List.filter_eq_nil_iff, List.all_eq_true]
    simp
  rw [e4]
  cases bs.all isB <;> cases o <;> rfl
/-- what _law_meant says -/
theorem meant_l1 (x : Str) : ∀ (n : Nat) (k : Nat), (tl x).length < n + k → k ≤ (tl x).length → m_l_meant_l1 x n (k : Nat) = some (((k + (((tl x).drop k).takeWhile isB).length : Nat) : Int))
  | 0, k, h1, h2 => by omega
  | n + 1, k, h1, h2 => by
    unfold m_l_meant_l1
    by_cases hk : k < (tl x).length
    · have hg : (tl x)[k]? = some (tl x)[k] := List.getElem?_eq_getElem hk
      have e1 : decide ((k : Int) < ((x.length : Nat) : Int)) = true := by rw [len_tl]; exact decide_eq_true (by omega)
      have e2 : codeAt x k = some (tl x)[k] := atI_nat hg
      rw [if_pos e1, e2]
      show Option.bind (some (decide ((tl x)[k] ∈ tl ("01" : Str)))) _ = _
      rw [tl01, drop_at hg, List.takeWhile_cons]
      show (if isB (tl x)[k] = true then _ else _) = _
      cases hb : isB (tl x)[k] with
      | true =>
        show m_l_meant_l1 x n ((k : Int) + 1) = _
        have e3 : ((k : Int) + 1) = ((k + 1 : Nat) : Int) := by omega
        rw [e3, meant_l1 x n (k + 1) (by omega) (by omega)]
        simp
        omega
      | false => simp
    · have hk2 : k = (tl x).length := by omega
      have e1 : decide ((k : Int) < ((x.length : Nat) : Int)) = false := by rw [len_tl]; exact decide_eq_false (by omega)
      rw [if_neg (by rw [e1]; decide)]
      show some _ = _
      rw [List.drop_eq_nil_of_le (by omega)]
      simp
theorem pat_pr (p r : List Nat) (w : Int) (hp : ∀ c ∈ p, isB c = true) (hr : r = [] ∨ ∃ c r', r = c :: r' ∧ isB c = false) :
    patB (p ++ r) w = (if (p.length : Int) ≤ w then decide (r = if (p.length : Int) < w then [42] else []) else false) := by
  have hpa : p.all isB = true := List.all_eq_true.mpr hp
  unfold patB
  rcases hr with rfl | ⟨c, r', rfl, hc⟩
  · rw [List.append_nil]
    have ho : decide (p.drop (p.length - 1) = [42]) = false := decide_eq_false fun h => by
      have : (42 : Nat) ∈ p := List.mem_of_mem_drop (by rw [h]; exact List.mem_singleton.mpr rfl)
      have := hp _ this
      exact absurd this (by decide)
    rw [ho]
    show (if (p.take (p.length - 0)).all isB = true then decide (((p.take (p.length - 0)).length : Int) = w) else false) = _
    rw [Nat.sub_zero, List.take_length, if_pos hpa]
    by_cases h1 : (p.length : Int) < w
    · rw [if_pos (by omega), if_pos h1, decide_eq_false (by omega)]
      rfl
    · rw [if_neg h1]
      by_cases h2 : (p.length : Int) = w
      · rw [if_pos (by omega), decide_eq_true h2]; rfl
      · rw [if_neg (by omega), decide_eq_false h2]
  · cases r' with
    | nil =>
      have hd : (p ++ [c]).drop ((p ++ [c]).length - 1) = [c] := by
        rw [List.length_append]
        show List.drop (p.length + 1 - 1) _ = _
        rw [Nat.add_sub_cancel, List.drop_left]
      rw [hd]
      by_cases h42 : c = 42
      · subst h42
        show (if ((p ++ [42]).take ((p ++ [42]).length - 1)).all isB = true then decide ((((p ++ [42]).take ((p ++ [42]).length - 1)).length : Int) < w) else false) = _
        have ht : (p ++ [42]).take ((p ++ [42]).length - 1) = p := by
          rw [List.length_append]
          show List.take (p.length + 1 - 1) _ = _
          rw [Nat.add_sub_cancel, List.take_left]
        rw [ht, if_pos hpa]
        by_cases h1 : (p.length : Int) < w
        · rw [if_pos (by omega), if_pos h1, decide_eq_true h1]; rfl
        · rw [if_neg h1, decide_eq_false h1]
          by_cases h2 : (p.length : Int) ≤ w
          · rw [if_pos h2]; rfl
          · rw [if_neg h2]
      · have ho : decide ([c] = [42]) = false := decide_eq_false fun h => h42 (List.cons.inj h).1
        rw [ho]
        show (if ((p ++ [c]).take ((p ++ [c]).length - 0)).all isB = true then decide ((((p ++ [c]).take ((p ++ [c]).length - 0)).length : Int) = w) else false) = _
        rw [Nat.sub_zero, List.take_length, List.all_append]
        have : ([c].all isB) = false := by simp [hc]
        rw [this, Bool.and_false, if_neg (by decide)]
        by_cases h2 : (p.length : Int) ≤ w
        · rw [if_pos h2]
          by_cases h1 : (p.length : Int) < w
          · rw [if_pos h1]; exact (decide_eq_false fun h => h42 (List.cons.inj h).1).symm
          · rw [if_neg h1]; rfl
        · rw [if_neg h2]
    | cons d r'' =>
      have hx : ∀ o : Bool, ((p ++ c :: d :: r'').take ((p ++ c :: d :: r'').length - (if o = true then 1 else 0))).all isB = false := fun o => by
        rw [Bool.eq_false_iff]
        intro h
        have h2 := List.all_eq_true.mp h c ?_
        · rw [hc] at h2; exact absurd h2 (by decide)
        · have hl : p.length < (p ++ c :: d :: r'').length - (if o = true then 1 else 0) := by
            rw [List.length_append, List.length_cons, List.length_cons]
            split <;> omega
          have e : ((p ++ c :: d :: r'').take ((p ++ c :: d :: r'').length - (if o = true then 1 else 0)))[p.length]? = some c := by
            rw [List.getElem?_take_of_lt hl, List.getElem?_append_right (Nat.le_refl _), Nat.sub_self]
            rfl
          exact List.mem_of_getElem? e
      simp only [hx]
      rw [if_neg (by decide)]
      by_cases h2 : (p.length : Int) ≤ w
      · rw [if_pos h2]
        refine (decide_eq_false fun h => ?_).symm
        by_cases h1 : (p.length : Int) < w
        · rw [if_pos h1] at h; exact absurd (congrArg List.length h) (by simp)
        · rw [if_neg h1] at h; cases h
      · rw [if_neg h2]
theorem takeW (f : Nat → Bool) : ∀ cs : List Nat, ∃ p r, cs = p ++ r ∧ cs.takeWhile f = p ∧ (∀ c ∈ p, f c = true) ∧ (r = [] ∨ ∃ c r', r = c :: r' ∧ f c = false)
  | [] => ⟨[], [], rfl, rfl, (fun _ h => nomatch h), .inl rfl⟩
  | c :: cs => by
    rw [List.takeWhile_cons]
    cases h : f c with
    | true =>
      obtain ⟨p, r, e1, e2, e3, e4⟩ := takeW f cs
      refine ⟨c :: p, r, by rw [e1]; rfl, by rw [if_pos rfl, e2], fun d hd => ?_, e4⟩
      rcases List.mem_cons.mp hd with rfl | hd
      · exact h
      · exact e3 d hd
    | false => exact ⟨[], c :: cs, rfl, rfl, (fun _ h => nomatch h), .inr ⟨c, cs, rfl, h⟩⟩
theorem meant_spec (x : Str) (w : Int) (hx : (tl x).length ≤ 1000000) : m_l_meant x w = some (patB (tl x) w) := by
  unfold m_l_meant
  have h1 := meant_l1 x (x.length + 1) 0 (by rw [len_tl]; omega) (Nat.zero_le _)
  rw [show ((0 : Nat) : Int) = 0 from rfl] at h1
  rw [h1, List.drop_zero, Nat.zero_add]
  show Option.bind (if decide _ = true then _ else _) _ = _
  generalize hk : ((tl x).takeWhile isB).length = k
  have hk1 : k ≤ (tl x).length := by rw [← hk]; exact (List.takeWhile_prefix isB).length_le
  have hm : mulS ("*" : Str) (toI (decide ((k : Int) < w))) = some (Txt.mul ("*" : Str) (toI (decide ((k : Int) < w)))) := by
    unfold mulS
    rw [if_pos]
    cases decide ((k : Int) < w) <;> decide +kernel
  rw [hm]
  have e2 : tl (cutS x (some (k : Int)) none) = (tl x).drop k := by
    rw [tl_cut, HT.sIx_nat]
    have e : HT.sIx (tl x).length (tl x).length none = (tl x).length := rfl
    rw [e, Nat.min_eq_left hk1, List.take_of_length_le (by rw [List.length_drop]; omega)]
  have e3 : tl (Txt.mul ("*" : Str) (toI (decide ((k : Int) < w)))) = if (k : Int) < w then [42] else [] := by
    rw [tl_mul, tlStar]
    by_cases h : (k : Int) < w
    · rw [decide_eq_true h, if_pos h]; rfl
    · rw [decide_eq_false h, if_neg h]; rfl
  show Option.bind (if decide ((k : Int) ≤ w) = true then some (eqS (cutS x (some (k : Int)) none) (Txt.mul ("*" : Str) (toI (decide ((k : Int) < w))))) else some false) (fun c => some c) = _
  rw [eqS_tl, e2, e3]
  obtain ⟨p, r, h2, h3, h4, h5⟩ := takeW isB (tl x)
  rw [h3] at hk
  subst hk
  rw [h2, pat_pr p r w h4 h5, List.drop_left]
  by_cases h : (p.length : Int) ≤ w
  · rw [if_pos (decide_eq_true h), if_pos h]; rfl
  · rw [if_neg (by rw [decide_eq_false h]; decide), if_neg h]; rfl
end K01
namespace K01
open PySem PySem.Spec PyProof.Rows L2 TL G
theorem skip0_le : ∀ (l : List Int) (k : Nat), skip0 l k ≤ k + l.length
  | [], k => Nat.le_refl _
  | x :: r, k => by
    rw [skip0]
    split
    · have := skip0_le r (k + 1)
      rw [List.length_cons]
      omega
    · omega
theorem draw_O {b : Bag} {n : Int} (hb : BOk b) (h0 : 0 < n) (h1 : n < 18446744073709551616) : O2 BOk (m_l_draw b n) (fun r => 0 ≤ r ∧ r < n) := by
  have hlog : n.natAbs.log2 < 9000 := by
    have hn : n.natAbs < 2 ^ 64 := by omega
    have hz : n.natAbs ≠ 0 := by omega
    have := (Nat.log2_lt hz).mpr hn
    omega
  have h63 := hb.len
  unfold m_l_draw
  rw [if_pos ⟨⟨h0, hlog⟩, hb.lo, hb.hi, by rw [sizeLine_eq]; omega⟩]
  cases e : b.cells[skip0 (b.cells.drop b.at_) b.at_]? with
  | some x => exact O2.ret ⟨hb.lo, hb.hi, by show (b.cells.set _ _).length ≤ 63; rw [List.length_set]; exact h63⟩ ⟨Int.emod_nonneg _ (by omega), Int.emod_lt_of_pos _ h0⟩
  | none =>
    have h2 : 0 ≤ stir b.seed (b.cnt + 1) := Int.emod_nonneg _ (by decide)
    have h3 : stir b.seed (b.cnt + 1) < 2147483647 := Int.emod_lt_of_pos _ (by decide)
    exact O2.ret ⟨h2, by show stir b.seed (b.cnt + 1) < 2147483648; omega, h63⟩ ⟨Int.emod_nonneg _ (by omega), Int.emod_lt_of_pos _ h0⟩

theorem bits_c1 : ∀ (l : List Int) (b : Bag), BOk b → O2 BOk (m_l_bits_c1 l b) (fun ys => ys.length = l.length ∧ ∀ y ∈ ys, Sh 1 y)
  | [], b, hb => O2.ret hb ⟨rfl, fun _ h => nomatch h⟩
  | x :: l, b, hb => by
    unfold m_l_bits_c1
    refine O2.bind (draw_O hb (by decide) (by decide)) fun r b hb hr => ?_
    refine O2.bind1 (codeAt_O (P := fun _ => True) hr.1 (by rw [tl01]; exact hr.2) fun _ _ => trivial) fun c _ => ?_
    refine O2.bind (bits_c1 l b hb) fun ys b hb hy => ?_
    refine O2.ret hb ⟨congrArg Nat.succ hy.1, fun y h => ?_⟩
    rcases List.mem_cons.mp h with rfl | h
    · exact Sh.sgn
    · exact hy.2 y h
theorem bits_O {b : Bag} {n : Int} {m : Nat} (hb : BOk b) (h0 : -1000 ≤ n) (h1 : n ≤ (m : Nat)) (hm : m ≤ 1000) : O2 BOk (m_l_bits b n) (Sh m) := by
  unfold m_l_bits
  refine O2.bind (draw_O hb (by decide) (by decide)) fun r b hb hr => ?_
  refine O2.ite (fun _ => ?_) (fun _ => ?_)
  · refine O2.bind (draw_O hb (by decide) (by decide)) fun r b hb hr => ?_
    refine O2.bind1 (codeAt_O (P := fun _ => True) hr.1 (by rw [tl01]; exact hr.2) fun _ _ => trivial) fun c _ => ?_
    refine O2.bind (P := Sh m) ?_ fun x b hb hx => O2.ret hb hx
    refine O2.ite (fun hc => ?_) (fun _ => ?_)
    · have hn : 0 < n := of_decide_eq_true hc
      refine O2.bind1 (Sh.mul_O (m := m) Sh.sgn (by omega) h1 (by omega) (by omega)) fun x hx => ?_
      refine O2.bind (draw_O hb (by decide) (by decide)) fun r b hb hr => ?_
      refine O2.bind1 (codeAt_O (P := fun _ => True) hr.1 (by rw [tl01]; exact hr.2) fun _ _ => trivial) fun c _ => ?_
      refine O2.bind1 (Sh.cat_O hx Sh.sgn (by omega)) fun x hx => ?_
      refine O2.ret hb ?_
      unfold Sh
      rw [tl_cut, List.length_take]
      have e1 : (1 : Int) = ((1 : Nat) : Int) := rfl
      have e2 : n + 1 = ((n.toNat + 1 : Nat) : Int) := by omega
      rw [e2, e1, HT.sIx_nat, HT.sIx_nat]
      have hx2 : (tl x).length ≤ m * 1 + 1 := hx
      omega
    · exact O2.ret hb (by unfold Sh; rw [tl_empty]; exact Nat.zero_le _)
  · refine O2.bind1 (rangeO1_O (P := fun l => l.length ≤ m) (by omega) (by omega) (by rw [rangeL_length]; omega)) fun l hl => ?_
    refine O2.bind (bits_c1 l b hb) fun ys b hb hy => ?_
    refine O2.bind1 (Sh.join_O (m := m) hy.2 (by rw [hy.1]; exact hl) (by omega)) fun x hx => ?_
    refine O2.ret hb (hx.mono (by omega))
theorem size_O {b : Bag} (hb : BOk b) : O2 BOk (m_l_size b) (fun r => 1 ≤ r ∧ r ≤ 30) := by
  unfold m_l_size
  refine O2.bind (draw_O hb (by decide) (by decide)) fun r1 b hb h1 => ?_
  refine O2.bind (draw_O hb (by decide) (by decide)) fun r2 b hb h2 => ?_
  refine O2.bind (draw_O hb (by decide) (by decide)) fun r3 b hb h3 => ?_
  refine O2.bind (draw_O hb (by decide) (by decide)) fun r4 b hb h4 => ?_
  refine O2.bind1 (atI_O (P := fun r => 1 ≤ r ∧ r ≤ 30) h4.1 h4.2 fun x hx => ?_) fun x hx => O2.ret hb hx
  simp only [List.mem_cons, List.not_mem_nil, or_false] at hx
  omega
theorem one_O {b : Bag} {n : Int} (hb : BOk b) (h0 : 1 ≤ n) (h1 : n ≤ 30) : O2 BOk (m_l_one b n []) (Sh 31) := by
  unfold m_l_one
  refine O2.bind (draw_O hb (by omega) (by omega)) fun r1 b hb h1' => ?_
  refine O2.bind (bits_O (m := 30) hb (by omega) (by omega) (by decide)) fun x b hb hx => ?_
  refine O2.bind (draw_O hb (by decide) (by decide)) fun r3 b hb h3 => ?_
  rw [eqD_refl]
  refine O2.bind (P := Sh 30) ?_ fun y b hb hy => ?_
  · exact O2.ret hb hx
  refine O2.bind (P := Sh 90) ?_ fun z b hb hz => ?_
  · refine O2.ite (fun _ => ?_) (fun _ => ?_)
    · have hy2 : (tl y).length ≤ 30 := hy
      refine O2.bind (bits_O (m := 30) hb (by rw [len_tl]; omega) (by rw [len_tl]; omega) (by decide)) fun u b hb hu => ?_
      refine O2.bind1 (Sh.cat_O hy hu) fun v hv => O2.ret hb (hv.mono (by decide))
    · exact O2.ret hb (hy.mono (by decide))
  refine O2.bind1 (O1.ret (P := Sh 30) ?_) fun u hu => ?_
  · unfold Sh
    rw [tl_cut, List.length_take]
    have e2 : n = ((n.toNat : Nat) : Int) := by omega
    rw [e2, HT.sIx_nat, sIx_n]
    omega
  refine O2.bind1 (Sh.mul_O (m := 1) (n := 1) (by unfold Sh; rw [tlStar]; decide) (by unfold toI; split <;> omega) (by unfold toI; split <;> omega) (by decide) (by decide)) fun v hv => ?_
  refine O2.bind1 (Sh.cat_O hu hv) fun v hv => O2.ret hb hv
theorem line_c1 (sg : Str) (h95 : (tl sg).length = 95) : ∀ (l : List Int) (b : Bag), BOk b → O2 BOk (m_l_line_c1 sg l b) (fun ys => ys.length = l.length ∧ ∀ y ∈ ys, Sh 1 y)
  | [], b, hb => O2.ret hb ⟨rfl, fun _ h => nomatch h⟩
  | x :: l, b, hb => by
    unfold m_l_line_c1
    refine O2.bind (draw_O hb (by rw [len_tl, h95]; decide) (by rw [len_tl, h95]; decide)) fun r b hb hr => ?_
    refine O2.bind1 (codeAt_O (P := fun _ => True) hr.1 (by rw [← len_tl]; exact hr.2) fun _ _ => trivial) fun c _ => ?_
    refine O2.bind (line_c1 sg h95 l b hb) fun ys b hb hy => ?_
    refine O2.ret hb ⟨congrArg Nat.succ hy.1, fun y h => ?_⟩
    rcases List.mem_cons.mp h with rfl | h
    · exact Sh.sgn
    · exact hy.2 y h
theorem line_O {b : Bag} {n : Int} (hb : BOk b) (h0 : 1 ≤ n) (h1 : n ≤ 30) : O2 BOk (m_l_line b n) (Sh 1000) := by
  unfold m_l_line
  refine O2.bind1 (O1.ret (P := fun s => (tl s).length = 64) (by decide +kernel)) fun s1 hs1 => ?_
  have e30 : (tl ("abcdefghijklmnopqrstuvwxyz{|}~\n" : Str)).length = 31 := by decide +kernel
  refine O2.bind1 (catS_O (P := fun s => (tl s).length = 95) (by rw [hs1, e30]; decide) (by rw [tl_append, List.length_append, hs1, e30])) fun sg hsg => ?_
  refine O2.bind (one_O hb h0 h1) fun x b hb hx => ?_
  have hx2 : (tl x).length ≤ 31 := hx
  refine O2.bind (draw_O hb (by rw [len_tl]; omega) (by rw [len_tl]; omega)) fun at_ b hb _ => ?_
  refine O2.bind (draw_O hb (by rw [len_tl, hsg]; decide) (by rw [len_tl, hsg]; decide)) fun r b hb hr => ?_
  refine O2.bind1 (codeAt_O (P := fun _ => True) hr.1 (by rw [← len_tl]; exact hr.2) fun _ _ => trivial) fun c _ => ?_
  refine O2.bind (draw_O hb (by decide) (by decide)) fun r b hb hr => ?_
  refine O2.bind1 (codeAt_O (P := fun _ => True) hr.1 (by rw [show (tl ("01*" : Str)).length = 3 by decide +kernel]; exact hr.2) fun _ _ => trivial) fun c2 _ => ?_
  refine O2.bind (draw_O hb (by decide) (by decide)) fun r b hb hr => ?_
  refine O2.bind1 (atI_O (P := Sh 1) hr.1 hr.2 fun x hx => ?_) fun sg1 hs1 => ?_
  · simp only [List.mem_cons, List.not_mem_nil, or_false] at hx
    rcases hx with rfl | rfl <;> exact Sh.sgn
  refine O2.bind (draw_O hb (by decide) (by decide)) fun pick b hb hp => ?_
  refine O2.ite (fun hc => ?_) (fun _ => ?_)
  · have hp3 : pick < 3 := of_decide_eq_true hc
    refine O2.bind1 (atI_O (P := Sh 1) hp.1 hp3 fun x hx => ?_) fun m hm => ?_
    · simp only [List.mem_cons, List.not_mem_nil, or_false] at hx
      rcases hx with rfl | rfl | rfl
      · exact hs1
      · exact hs1
      · unfold Sh; rw [tl_empty]; decide
    refine O2.bind1 (Sh.cat_O hx.cut hm) fun u hu => ?_
    refine O2.bind1 (atI_O (P := fun _ => True) hp.1 hp3 fun _ _ => trivial) fun k _ => ?_
    refine O2.bind1 (Sh.cat_O hu hx.cut) fun u hu => O2.ret hb (hu.mono (by decide))
  · refine O2.ite (fun _ => ?_) (fun _ => ?_)
    · refine O2.bind (draw_O hb (by decide) (by decide)) fun r b hb hr => ?_
      refine O2.bind1 (Sh.mul_O (m := 3) (n := 1) (by unfold Sh; rw [tlStar]; decide) (by omega) (by omega) (by decide) (by decide)) fun v hv => ?_
      refine O2.bind1 (Sh.cat_O hx.cut hv) fun u hu => ?_
      refine O2.bind1 (Sh.cat_O hu hx.cut) fun u hu => O2.ret hb (hu.mono (by decide))
    · refine O2.ite (fun _ => ?_) (fun _ => ?_)
      · refine O2.bind1 (Sh.cat_O hs1 hx) fun u hu => ?_
        refine O2.bind1 (Sh.cat_O hx hs1) fun v hv => ?_
        refine O2.bind (draw_O hb (by decide) (by decide)) fun r b hb hr => ?_
        refine O2.bind1 (atI_O (P := Sh 32) hr.1 hr.2 fun x hx3 => ?_) fun m hm => O2.ret hb (hm.mono (by decide))
        simp only [List.mem_cons, List.not_mem_nil, or_false] at hx3
        rcases hx3 with rfl | rfl | rfl
        · exact hx.rev.mono (by decide)
        · exact hu
        · exact hv
      · refine O2.ite (fun _ => ?_) (fun _ => ?_)
        · refine O2.bind (draw_O hb (by decide) (by decide)) fun r b hb hr => ?_
          refine O2.bind1 (rangeO1_O (P := fun l => l.length ≤ 9) (by omega) (by omega) (by rw [rangeL_length]; omega)) fun l hl => ?_
          refine O2.bind (line_c1 sg hsg l b hb) fun ys b hb hy => ?_
          refine O2.bind1 (Sh.join_O (m := 9) hy.2 (by rw [hy.1]; exact hl) (by decide)) fun x hx => O2.ret hb (hx.mono (by decide))
        · exact O2.ret hb (hx.mono (by decide))
theorem law_l1 {n : Int} (h0 : 1 ≤ n) (h1 : n ≤ 30) : ∀ (l : List Int) (b : Bag), BOk b → ∃ b', m_law_l1 n l b = some (.go b') ∧ BOk b'
  | [], b, hb => ⟨b, rfl, hb⟩
  | x :: l, b, hb => by
    obtain ⟨y, b2, e, hb2, hy⟩ := line_O hb h0 h1
    obtain ⟨b3, e3, hb3⟩ := law_l1 h0 h1 l b2 hb2
    refine ⟨b3, ?_, hb3⟩
    unfold m_law_l1
    rw [e]
    show (Option.bind (m_l_meant y n) _) = _
    have hy2 : (tl y).length ≤ 1000 := hy
    rw [meant_spec y n (by omega), Option.bind_some, pat_spec, Option.bind_some, Option.bind_some, Option.bind_some]
    unfold m_l_alike
    rw [if_pos rfl, Option.bind_some]
    exact e3
theorem c2_spec : ∀ xs : List Str, m_law_c2 xs = some (xs.map fun x => patB (tl x) 1)
  | [] => rfl
  | x :: xs => by unfold m_law_c2; rw [pat_spec, c2_spec xs]; rfl
theorem c3_spec : ∀ xs : List Str, m_law_c3 xs = some (xs.map fun x => patB (tl x) 30)
  | [] => rfl
  | x :: xs => by unfold m_law_c3; rw [pat_spec, c3_spec xs]; rfl
theorem mulE {x : Str} {n : Int} {l : List Nat} (hl : tl x = l) (h1 : -(2 ^ 63 : Int) ≤ n := by decide) (h2 : n ≤ 16777216 := by decide) (h3 : l.length * n.toNat ≤ 16777216 := by decide) : O1 (mulS x n) (fun y => tl y = (List.replicate n.toNat l).flatten) :=
  mulS_O h1 h2 (by rw [hl]; exact h3) (by rw [tl_mul, hl])
theorem catE {x y : Str} {l m : List Nat} (hl : tl x = l) (hm : tl y = m) (h3 : l.length + m.length ≤ 16777216) : O1 (catS x y) (fun z => tl z = l ++ m) :=
  catS_O (by rw [hl, hm]; exact h3) (by rw [tl_append, hl, hm])
theorem law_true (b : Bag) (hb : BOk b) : ∃ b', m_law b = some (true, b') := by
  obtain ⟨n, b1, e1, hb1, hn⟩ := size_O hb
  obtain ⟨b2, e2, hb2⟩ := law_l1 hn.1 hn.2 (rangeL 0 8) b1 hb1
  have t0 : tl ("0" : Str) = [48] := by decide +kernel
  have t1 : tl ("1" : Str) = [49] := by decide +kernel
  have key : O2 BOk (m_law b) (fun r => r = true) := by
    unfold m_law
    rw [e1]
    refine O2.bL1 e2 ?_
    rw [Option.bind_some, c2_spec, Option.bind_some]
    have e3 : (List.map (fun x => patB (tl x) 1) ([("" : Str), ("*" : Str), ("0*" : Str), ("1" : Str)] : List Str)) = [false, true, false, true] := by decide +kernel
    rw [e3, eqD_refl]
    refine O2.ite (fun h => nomatch h) (fun _ => ?_)
    refine O2.bind1 (mulE t0) fun x1 h1 => ?_
    refine O2.bind1 (mulE t0) fun x2 h2 => ?_
    refine O2.bind1 (catE h2 tlStar (by decide +kernel)) fun x2 h2 => ?_
    refine O2.bind1 (mulE t1) fun x3 h3 => ?_
    refine O2.bind1 (catE h3 tlStar (by decide +kernel)) fun x3 h3 => ?_
    refine O2.bind1 (mulE t1) fun x4 h4 => ?_
    refine O2.bind1 (mulE t0) fun x5 h5 => ?_
    refine O2.bind1 (mulE t0) fun x6 h6 => ?_
    refine O2.bind1 (catE h6 tlStar (by decide +kernel)) fun x6 h6 => ?_
    refine O2.bind1 (mulE t0) fun x7 h7 => ?_
    refine O2.bind1 (catE h6 h7 (by decide +kernel)) fun x6 h6 => ?_
    rw [Option.bind_some, c3_spec, Option.bind_some]
    refine O2.ret hb2 ?_
    rw [eqD_iff]
    simp only [List.map_cons, List.map_nil, h1, h2, h3, h4, h5, h6]
    decide +kernel
  exact key.true_
end K01
namespace K01
open PySem PySem.Spec PyProof.Rows L2 TL G
def dd_is_pattern : He.DefD := ⟨("is_pattern", none), "is_pattern", "is_pattern", defArgs s_is_pattern, defBody s_is_pattern, defScope s_is_pattern, [], []⟩
def dd_l_bag : He.DefD := ⟨("_law_bag", none), "_law_bag", "_law_bag", defArgs s_l_bag, defBody s_l_bag, defScope s_l_bag, [], []⟩
def dd_l_draw : He.DefD := ⟨("_law_draw", none), "_law_draw", "_law_draw", defArgs s_l_draw, defBody s_l_draw, defScope s_l_draw, [], []⟩
def dd_l_bits : He.DefD := ⟨("_law_bits", none), "_law_bits", "_law_bits", defArgs s_l_bits, defBody s_l_bits, defScope s_l_bits, [], []⟩
def dd_l_size : He.DefD := ⟨("_law_size", none), "_law_size", "_law_size", defArgs s_l_size, defBody s_l_size, defScope s_l_size, [], []⟩
def dd_l_one : He.DefD := ⟨("_law_one", none), "_law_one", "_law_one", defArgs s_l_one, defBody s_l_one, defScope s_l_one, [], []⟩
def dd_l_alike : He.DefD := ⟨("_law_alike", none), "_law_alike", "_law_alike", defArgs s_l_alike, defBody s_l_alike, defScope s_l_alike, [], []⟩
def dd_l_line : He.DefD := ⟨("_law_line", none), "_law_line", "_law_line", defArgs s_l_line, defBody s_l_line, defScope s_l_line, [], []⟩
def dd_l_meant : He.DefD := ⟨("_law_meant", none), "_law_meant", "_law_meant", defArgs s_l_meant, defBody s_l_meant, defScope s_l_meant, [], []⟩
def dd_law : He.DefD := ⟨("law", none), "law", "law", defArgs s_law, defBody s_law, defScope s_law, [], []⟩
def fnL : List He.DefD := [dd_is_pattern, dd_l_bag, dd_l_draw, dd_l_bits, dd_l_size, dd_l_one, dd_l_alike, dd_l_line, dd_l_meant, dd_law]
def faL : List He.Fa := [.glo "is_pattern", .glo "_law_bag", .glo "_law_draw", .glo "_law_bits", .glo "_law_size", .glo "_law_one", .glo "_law_alike", .glo "_law_line", .glo "_law_meant", .glo "law", .free "abs", .free "all", .free "bool", .free "int", .free "isinstance", .free "len", .free "list", .free "range", .free "str", .free "tuple", .str "BITS" "01", .str "STAR" "*"]
abbrev RR : PySem.W.OpenRow := PySem.W.OpenLaw.row PySem.Challenge.rw_wishnet_k01_patterns_or_not
abbrev hk : PySem.W.Hook := He.hookD 4 faL fnL
def ob (s : PySem.W.SharedT) : He.AlD := He.obsDG 4 faL fnL (HandSHeadRun.getT s)
theorem ob_eq (s : PySem.W.SharedT) : ob s = hk.obs s.abs := He.obsDG_eq (HandSHeadRun.getT_eq s)
def looseL : List Str := ["STAR", "BITS", "is_pattern", "_law_bag", "_law_draw", "_law_bits", "_law_size", "_law_one", "_law_alike", "_law_line", "_law_meant"]
theorem run_top (w : World) : HandSHeadRun.RunEq RR (PySem.W.view RR.prog [13]) hk ob 4000 looseL w := by
  intro os
  kernel_rfl
theorem facts {P : Program} {w : World} {K : PySem.W.Frag} {h : Heap} {mg : Str → Option Value} {f : Addr} (X : K.In h) (Gh : h.Ns mainGlobals mg) (hfa : mg ("law" : Str) = some (.ref f)) (c : He.SaysD faL fnL K) :
    ∃ fd : FuncData, (∀ (s : Shared) (v : Value), BindsTo s fd ⟨[v], []⟩ [("_law_script", v)]) ∧ ∀ base : Heap, K.In base → base.Ns mainGlobals mg → FnOk P w K mg base CX0 10 f fd ["_law_script"] (sp_law K) := by
  obtain ⟨d0, F0⟩ := c.def_ 0 (d := dd_is_pattern) rfl
  obtain ⟨d1, F1⟩ := c.def_ 1 (d := dd_l_bag) rfl
  obtain ⟨d2, F2⟩ := c.def_ 2 (d := dd_l_draw) rfl
  obtain ⟨d3, F3⟩ := c.def_ 3 (d := dd_l_bits) rfl
  obtain ⟨d4, F4⟩ := c.def_ 4 (d := dd_l_size) rfl
  obtain ⟨d5, F5⟩ := c.def_ 5 (d := dd_l_one) rfl
  obtain ⟨d6, F6⟩ := c.def_ 6 (d := dd_l_alike) rfl
  obtain ⟨d7, F7⟩ := c.def_ 7 (d := dd_l_line) rfl
  obtain ⟨d8, F8⟩ := c.def_ 8 (d := dd_l_meant) rfl
  obtain ⟨d9, F9⟩ := c.def_ 9 (d := dd_law) rfl
  have G0 := He.glo_ok X Gh (c.fact 0 (f := .glo "is_pattern") rfl)
  have G1 := He.glo_ok X Gh (c.fact 1 (f := .glo "_law_bag") rfl)
  have G2 := He.glo_ok X Gh (c.fact 2 (f := .glo "_law_draw") rfl)
  have G3 := He.glo_ok X Gh (c.fact 3 (f := .glo "_law_bits") rfl)
  have G4 := He.glo_ok X Gh (c.fact 4 (f := .glo "_law_size") rfl)
  have G5 := He.glo_ok X Gh (c.fact 5 (f := .glo "_law_one") rfl)
  have G6 := He.glo_ok X Gh (c.fact 6 (f := .glo "_law_alike") rfl)
  have G7 := He.glo_ok X Gh (c.fact 7 (f := .glo "_law_line") rfl)
  have G8 := He.glo_ok X Gh (c.fact 8 (f := .glo "_law_meant") rfl)
  have G9 := He.glo_ok X Gh (c.fact 9 (f := .glo "law") rfl)
  obtain ⟨tk0, hk0⟩ := He.str_ok X Gh (c.fact 20 (f := .str "BITS" "01") rfl)
  obtain ⟨tk1, hk1⟩ := He.str_ok X Gh (c.fact 21 (f := .str "STAR" "*") rfl)
  let T : Txt K mg := { a_is_pattern := _, d_is_pattern := d0, F_is_pattern := F0, g_is_pattern := G0, a_l_bag := _, d_l_bag := d1, F_l_bag := F1, g_l_bag := G1, a_l_draw := _, d_l_draw := d2, F_l_draw := F2, g_l_draw := G2, a_l_bits := _, d_l_bits := d3, F_l_bits := F3, g_l_bits := G3, a_l_size := _, d_l_size := d4, F_l_size := F4, g_l_size := G4, a_l_one := _, d_l_one := d5, F_l_one := F5, g_l_one := G5, a_l_alike := _, d_l_alike := d6, F_l_alike := F6, g_l_alike := G6, a_l_line := _, d_l_line := d7, F_l_line := F7, g_l_line := G7, a_l_meant := _, d_l_meant := d8, F_l_meant := F8, g_l_meant := G8, a_law := _, d_law := d9, F_law := F9, g_law := G9, n_abs := He.free_ok X Gh (c.fact 10 (f := .free "abs") rfl), n_all := He.free_ok X Gh (c.fact 11 (f := .free "all") rfl), n_bool := He.free_ok X Gh (c.fact 12 (f := .free "bool") rfl), n_int := He.free_ok X Gh (c.fact 13 (f := .free "int") rfl), n_isinstance := He.free_ok X Gh (c.fact 14 (f := .free "isinstance") rfl), n_len := He.free_ok X Gh (c.fact 15 (f := .free "len") rfl), n_list := He.free_ok X Gh (c.fact 16 (f := .free "list") rfl), n_range := He.free_ok X Gh (c.fact 17 (f := .free "range") rfl), n_str := He.free_ok X Gh (c.fact 18 (f := .free "str") rfl), n_tuple := He.free_ok X Gh (c.fact 19 (f := .free "tuple") rfl), t_BITS := tk0, k_BITS := hk0, t_STAR := tk1, k_STAR := hk1 }
  have e := hfa.symm.trans G9
  cases e
  have b := FunD.bindsA (ps := ["_law_script"]) F9 fun _ _ _ _ _ _ us hl => match us, hl with | [_], _ => rfl
  exact ⟨d9, fun s v => b s [v] rfl, fun base _ _ => ok_law T law_true⟩
end K01
open PySem.Calls PySem.W PySem PyProof.Rows
set_option maxHeartbeats 0 in
theorem PySem.Challenge.cw_wishnet_k01_patterns_or_not_holds : PySem.Challenge.rw_wishnet_k01_patterns_or_not.Holds := by
  w_on; o_law
  refine HandSHeadRun.head_any (r := OpenLaw.row PySem.Challenge.rw_wishnet_k01_patterns_or_not) (q := view (OpenLaw.row PySem.Challenge.rw_wishnet_k01_patterns_or_not).prog [13]) (H := K01.hk) (ob := K01.ob) (M := 4000) (loose := K01.looseL) (d := HandSHeadRun.topDef (OpenLaw.row PySem.Challenge.rw_wishnet_k01_patterns_or_not).prog 13) (kwd := []) K01.ob_eq
    (by kernel_rfl) (fun s => by kernel_rfl) K01.run_top (by kernel_rfl) (by kernel_rfl) (by kernel_rfl) (by rfl) (by first | assumption | decide +kernel) (by decide +kernel) ⟨rfl, rfl, rfl, rfl, rfl, by decide +kernel⟩ ?hw ?hc
  case hw => w_witness2
  case hc =>
    refine L2.walk_ofE (l := PySem.Challenge.rw_wishnet_k01_patterns_or_not) (n := 63) (k := 10) (x := "_law_script") (CX := L2.CX0) rfl (by decide) (by kernel_rfl) ⟨rfl, by decide, by decide⟩ ?F (fun _ _ _ _ z => z)
    intro w mg fa h Y Gh hmg0
    obtain ⟨K, KX, c⟩ := Y
    have hmg : mg ("law" : PySem.Str) = some (.ref fa) := by
      have e : (HandSHeadRun.topDef (OpenLaw.row PySem.Challenge.rw_wishnet_k01_patterns_or_not).prog 13).name = ("law" : PySem.Str) := by kernel_rfl
      rw [← e]
      exact hmg0
    obtain ⟨fd, hb, hF⟩ := K01.facts (P := (PySem.Challenge.rw_wishnet_k01_patterns_or_not).prog) (w := w) KX Gh hmg c
    exact ⟨K, fd, K01.sp_law K, KX, hb, fun H a ns hl _ hS => ⟨a, ns, rfl, hS, hl, fun _ => rfl⟩, hF⟩
