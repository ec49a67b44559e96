import PyProof.Rows.All
import Wide.All
import OpenK.AllK
import Wide.FinOn
import HandS.ForMost
import HandS.Walk
import HandS.Wide
import HandS.WideBits
import HandS.StrMore
import HandS.SortInts
import HandS.Strs
import HandS.IsInst
import HandS.Defaults
import HandS.MakeKwOnly
import HandS.Head0
import HandS.Head1
import HandS.Head2
import HandS.HeadEnd
import HandS.HeadHook1
import HandS.HeadHook2
import HandS.Style
import Lean
import HandS.WordsExc
import PySem.Challenge.RW_wishnet_k02_spans_and_members
set_option Elab.async false
set_option linter.all false
set_option maxRecDepth 100000
set_option maxHeartbeats 4000000
/-! My base, part 1: data, their standing in a heap, growth of heaps. -/
namespace G
open PySem PySem.Spec L2 PyProof.Rows TL

/-! ### data by type -/
class Enc (α : Type) where
  d : α → PyData
instance : Enc Int := ⟨.int⟩
instance : Enc Bool := ⟨.bool⟩
instance : Enc Str := ⟨.str⟩
instance : Enc Unit := ⟨fun _ => .none⟩
def encO {α : Type} (f : α → PyData) : Option α → PyData
  | none => .none
  | some x => f x
instance {α : Type} [Enc α] : Enc (Option α) := ⟨encO Enc.d⟩
instance {α : Type} [Enc α] : Enc (List α) := ⟨fun xs => .list (xs.map Enc.d)⟩
instance {α β : Type} [Enc α] [Enc β] : Enc (α × β) := ⟨fun p => .tuple [Enc.d p.1, Enc.d p.2]⟩
structure T3 (α β γ : Type) where
  a : α
  b : β
  c : γ
  deriving DecidableEq
structure T4 (α β γ δ : Type) where
  a : α
  b : β
  c : γ
  e : δ
  deriving DecidableEq
structure T5 (α β γ δ ε : Type) where
  a : α
  b : β
  c : γ
  e : δ
  f : ε
  deriving DecidableEq
structure VT (α : Type) where
  l : List α
  deriving DecidableEq
instance {α β γ : Type} [Enc α] [Enc β] [Enc γ] : Enc (T3 α β γ) := ⟨fun p => .tuple [Enc.d p.a, Enc.d p.b, Enc.d p.c]⟩
instance {α β γ δ : Type} [Enc α] [Enc β] [Enc γ] [Enc δ] : Enc (T4 α β γ δ) := ⟨fun p => .tuple [Enc.d p.a, Enc.d p.b, Enc.d p.c, Enc.d p.e]⟩
instance {α β γ δ ε : Type} [Enc α] [Enc β] [Enc γ] [Enc δ] [Enc ε] : Enc (T5 α β γ δ ε) := ⟨fun p => .tuple [Enc.d p.a, Enc.d p.b, Enc.d p.c, Enc.d p.e, Enc.d p.f]⟩
instance {α : Type} [Enc α] : Enc (VT α) := ⟨fun p => .tuple (p.l.map Enc.d)⟩

/-- a text that may be handled: no longer than the line, of signs -/
structure GS (x : Str) : Prop where
  len : x.length ≤ sizeLine
  ok : PyData.strOk x = true

mutual
inductive Rp (K : PySem.W.Frag) (F : Hp) : V → PyData → Prop
  | non : Rp K F .non .none
  | bl (b : Bool) : Rp K F (.bl b) (.bool b)
  | int (i : Int) : Rp K F (.int i) (.int i)
  | str (x : Str) : GS x → Rp K F (.str x) (.str x)
  | lst {a : Addr} {xs : List V} {ds : List PyData} : SqL K F a xs → xs.length ≤ sizeLine → RpA K F xs ds → Rp K F (.ref a) (.list ds)
  | tup {a : Addr} {xs : List V} {ds : List PyData} : SqT K F a xs → xs.length ≤ sizeLine → RpA K F xs ds → Rp K F (.ref a) (.tuple ds)
inductive RpA (K : PySem.W.Frag) (F : Hp) : List V → List PyData → Prop
  | nil : RpA K F [] []
  | cons {v : V} {vs : List V} {d : PyData} {ds : List PyData} : Rp K F v d → RpA K F vs ds → RpA K F (v :: vs) (d :: ds)
end
/-- v stands for x -/
abbrev R {α : Type} [Enc α] (K : PySem.W.Frag) (F : Hp) (v : V) (x : α) : Prop := Rp K F v (Enc.d x)
/-- the values vs stand for the things xs -/
abbrev RL {α : Type} [Enc α] (K : PySem.W.Frag) (F : Hp) (vs : List V) (xs : List α) : Prop := RpA K F vs (xs.map Enc.d)

section
variable {K : PySem.W.Frag} {F F' H H' : Hp} {v : V} {vs : List V} {d : PyData} {ds : List PyData} {a p : Addr} {xs : List V}
theorem SqT_mono (e : Same H H') (h : SqT K H a xs) : SqT K H' a xs := by
  rcases h with (h | ⟨o, h⟩) | h
  · exact .inl (.inl (e _ _ h))
  · exact .inl (.inr ⟨o, e _ _ h⟩)
  · exact .inr h
mutual
theorem Rp.mono (e : Same F F') : ∀ (d : PyData) (v : V), Rp K F v d → Rp K F' v d
  | .none, _, h => by cases h; exact .non
  | .bool b, _, h => by cases h; exact .bl b
  | .int i, _, h => by cases h; exact .int i
  | .str x, _, h => by cases h with | str _ g => exact .str x g
  | .list ds, _, h => by cases h with | lst hs hl ha => exact .lst (e.seq hs) hl (RpA.mono e ds _ ha)
  | .tuple ds, _, h => by cases h with | tup hs hl ha => exact .tup (SqT_mono e hs) hl (RpA.mono e ds _ ha)
  | .dict _, _, h => by cases h
theorem RpA.mono (e : Same F F') : ∀ (ds : List PyData) (vs : List V), RpA K F vs ds → RpA K F' vs ds
  | [], _, h => by cases h; exact .nil
  | d :: ds, _, h => by cases h with | cons h1 h2 => exact .cons (Rp.mono e d _ h1) (RpA.mono e ds _ h2)
end
theorem Rp.up (h : Rp K F v d) (e : Same F F') : Rp K F' v d := Rp.mono e d v h
theorem RpA.up (h : RpA K F vs ds) (e : Same F F') : RpA K F' vs ds := RpA.mono e ds vs h
mutual
theorem Rp.dp : ∀ (d : PyData) (v : V), Rp K F v d → Dp K F v d
  | .none, _, h => by cases h; exact .non
  | .bool b, _, h => by cases h; exact .bl b
  | .int i, _, h => by cases h; exact .int i
  | .str x, _, h => by cases h; exact .str x
  | .list ds, _, h => by cases h with | lst hs hl ha => exact .lst hs (RpA.dp ds _ ha)
  | .tuple ds, _, h => by cases h with | tup hs hl ha => exact .tup hs (RpA.dp ds _ ha)
  | .dict _, _, h => by cases h
theorem RpA.dp : ∀ (ds : List PyData) (vs : List V), RpA K F vs ds → DpAll K F vs ds
  | [], _, h => by cases h; exact .nil
  | d :: ds, _, h => by cases h with | cons h1 h2 => exact .cons (Rp.dp d _ h1) (RpA.dp ds _ h2)
end
mutual
theorem Rp.lay : ∀ (d : PyData) (v : V), Rp K F v d → d.canLay0 = true
  | .none, _, _ => rfl
  | .bool b, _, _ => rfl
  | .int i, _, _ => rfl
  | .str x, _, h => by cases h with | str _ g => exact g.ok
  | .list ds, _, h => by cases h with | lst hs hl ha => exact RpA.lay ds _ ha
  | .tuple ds, _, h => by cases h with | tup hs hl ha => exact RpA.lay ds _ ha
  | .dict _, _, h => by cases h
theorem RpA.lay : ∀ (ds : List PyData) (vs : List V), RpA K F vs ds → PyData.canLayAll0 ds = true
  | [], _, _ => rfl
  | d :: ds, _, h => by cases h with | cons h1 h2 => exact Bool.and_eq_true_iff.mpr ⟨Rp.lay d _ h1, RpA.lay ds _ h2⟩
end

/-! ### what stands at a value, by its type -/
theorem RpA.length : ∀ {ds : List PyData} {vs : List V}, RpA K F vs ds → vs.length = ds.length
  | [], _, h => by cases h; rfl
  | d :: ds, _, h => by cases h with | cons h1 h2 => exact congrArg Nat.succ h2.length
theorem RpA.get : ∀ {ds : List PyData} {vs : List V} {i : Nat} {v : V}, RpA K F vs ds → vs[i]? = some v → ∃ d, ds[i]? = some d ∧ Rp K F v d
  | [], _, _, _, h, e => by cases h; simp at e
  | d :: ds, _, 0, _, h, e => by cases h with | cons h1 h2 => exact ⟨d, rfl, by simpa using (Option.some.inj e) ▸ h1⟩
  | d :: ds, _, i + 1, v, h, e => by
    cases h with
    | cons h1 h2 =>
      obtain ⟨d', e1, e2⟩ := h2.get (i := i) (v := v) (by simpa using e)
      exact ⟨d', by simpa using e1, e2⟩
theorem RpA.back : ∀ {ds : List PyData} {vs : List V} {i : Nat} {d : PyData}, RpA K F vs ds → ds[i]? = some d → ∃ v, vs[i]? = some v ∧ Rp K F v d
  | [], _, _, _, h, e => by simp at e
  | d :: ds, _, 0, _, h, e => by
    cases h with
    | cons h1 h2 =>
      have e' := Option.some.inj e
      subst e'
      exact ⟨_, rfl, h1⟩
  | d :: ds, _, i + 1, d', h, e => by
    cases h with
    | cons h1 h2 =>
      obtain ⟨v, e1, e2⟩ := h2.back (i := i) (d := d') (by simpa using e)
      exact ⟨v, by simpa using e1, e2⟩
theorem RpA.append : ∀ {ds es : List PyData} {vs us : List V}, RpA K F vs ds → RpA K F us es → RpA K F (vs ++ us) (ds ++ es)
  | [], _, _, _, h, g => by cases h; exact g
  | d :: ds, _, _, _, h, g => by cases h with | cons h1 h2 => exact .cons h1 (h2.append g)
theorem RpA.take : ∀ {ds : List PyData} {vs : List V} (n : Nat), RpA K F vs ds → RpA K F (vs.take n) (ds.take n)
  | _, _, 0, _ => .nil
  | _, _, _ + 1, .nil => .nil
  | _, _, n + 1, .cons h t => .cons h (RpA.take n t)
theorem RpA.drop : ∀ {ds : List PyData} {vs : List V} (n : Nat), RpA K F vs ds → RpA K F (vs.drop n) (ds.drop n)
  | _, _, 0, h => h
  | _, _, _ + 1, .nil => .nil
  | _, _, n + 1, .cons _ t => RpA.drop n t
theorem RpA.set : ∀ {ds : List PyData} {vs : List V} (n : Nat), Rp K F v d → RpA K F vs ds → RpA K F (vs.set n v) (ds.set n d)
  | _, _, _, _, .nil => .nil
  | _, _, 0, r, .cons _ t => .cons r t
  | _, _, n + 1, r, .cons h t => .cons h (RpA.set n r t)
theorem RpA.dropLast {ds : List PyData} {vs : List V} (h : RpA K F vs ds) : RpA K F vs.dropLast ds.dropLast := by
  rw [List.dropLast_eq_take, List.dropLast_eq_take, h.length]
  exact h.take _
theorem RpA.reverse : ∀ {ds : List PyData} {vs : List V}, RpA K F vs ds → RpA K F vs.reverse ds.reverse
  | [], _, h => by cases h; exact .nil
  | d :: ds, _, h => by
    cases h with
    | cons h1 h2 =>
      rw [List.reverse_cons, List.reverse_cons]
      exact h2.reverse.append (.cons h1 .nil)

section
variable {α β γ δ ε : Type} [Enc α] [Enc β] [Enc γ] [Enc δ] [Enc ε]
theorem R.int_v {i : Int} (h : R K F v i) : v = .int i := by cases h; rfl
theorem R.bl_v {b : Bool} (h : R K F v b) : v = .bl b := by cases h; rfl
theorem R.str_v {x : Str} (h : R K F v x) : v = .str x ∧ GS x := by cases h with | str _ g => exact ⟨rfl, g⟩
theorem R.non_v (h : R K F v (none : Option α)) : v = .non := by
  have h' : Rp K F v .none := h
  cases h'
  rfl
theorem R.lst_v {xs : List α} (h : R K F v xs) : ∃ p ws, v = .ref p ∧ SqL K F p ws ∧ ws.length ≤ sizeLine ∧ RL K F ws xs := by
  have h' : Rp K F v (.list (xs.map Enc.d)) := h
  cases h' with | lst h1 h2 h3 => exact ⟨_, _, rfl, h1, h2, h3⟩
theorem R.vt_v {x : VT α} (h : R K F v x) : ∃ p ws, v = .ref p ∧ SqT K F p ws ∧ ws.length ≤ sizeLine ∧ RL K F ws x.l := by
  have h' : Rp K F v (.tuple (x.l.map Enc.d)) := h
  cases h' with | tup h1 h2 h3 => exact ⟨_, _, rfl, h1, h2, h3⟩
theorem RpA.one {d1 : PyData} (h : RpA K F vs [d1]) : ∃ v1, vs = [v1] ∧ Rp K F v1 d1 := by
  cases h with | cons h1 h2 => cases h2; exact ⟨_, rfl, h1⟩
theorem RpA.two {d1 d2 : PyData} (h : RpA K F vs [d1, d2]) : ∃ v1 v2, vs = [v1, v2] ∧ Rp K F v1 d1 ∧ Rp K F v2 d2 := by
  cases h with | cons h1 h2 => obtain ⟨v2, rfl, r⟩ := h2.one; exact ⟨_, _, rfl, h1, r⟩
theorem RpA.three {d1 d2 d3 : PyData} (h : RpA K F vs [d1, d2, d3]) : ∃ v1 v2 v3, vs = [v1, v2, v3] ∧ Rp K F v1 d1 ∧ Rp K F v2 d2 ∧ Rp K F v3 d3 := by
  cases h with | cons h1 h2 => obtain ⟨v2, v3, rfl, r⟩ := h2.two; exact ⟨_, _, _, rfl, h1, r⟩
theorem RpA.four {d1 d2 d3 d4 : PyData} (h : RpA K F vs [d1, d2, d3, d4]) : ∃ v1 v2 v3 v4, vs = [v1, v2, v3, v4] ∧ Rp K F v1 d1 ∧ Rp K F v2 d2 ∧ Rp K F v3 d3 ∧ Rp K F v4 d4 := by
  cases h with | cons h1 h2 => obtain ⟨v2, v3, v4, rfl, r⟩ := h2.three; exact ⟨_, _, _, _, rfl, h1, r⟩
theorem RpA.five {d1 d2 d3 d4 d5 : PyData} (h : RpA K F vs [d1, d2, d3, d4, d5]) : ∃ v1 v2 v3 v4 v5, vs = [v1, v2, v3, v4, v5] ∧ Rp K F v1 d1 ∧ Rp K F v2 d2 ∧ Rp K F v3 d3 ∧ Rp K F v4 d4 ∧ Rp K F v5 d5 := by
  cases h with | cons h1 h2 => obtain ⟨v2, v3, v4, v5, rfl, r⟩ := h2.four; exact ⟨_, _, _, _, _, rfl, h1, r⟩
theorem R.p2_v {x : α × β} (h : R K F v x) : ∃ p v1 v2, v = .ref p ∧ SqT K F p [v1, v2] ∧ R K F v1 x.1 ∧ R K F v2 x.2 := by
  have h' : Rp K F v (.tuple [Enc.d x.1, Enc.d x.2]) := h
  cases h' with | tup h1 h2 h3 => obtain ⟨v1, v2, rfl, r1, r2⟩ := h3.two; exact ⟨_, _, _, rfl, h1, r1, r2⟩
theorem R.p3_v {x : T3 α β γ} (h : R K F v x) : ∃ p v1 v2 v3, v = .ref p ∧ SqT K F p [v1, v2, v3] ∧ R K F v1 x.a ∧ R K F v2 x.b ∧ R K F v3 x.c := by
  have h' : Rp K F v (.tuple [Enc.d x.a, Enc.d x.b, Enc.d x.c]) := h
  cases h' with | tup h1 h2 h3 => obtain ⟨v1, v2, v3, rfl, r⟩ := h3.three; exact ⟨_, _, _, _, rfl, h1, r⟩
theorem R.p4_v {x : T4 α β γ δ} (h : R K F v x) : ∃ p v1 v2 v3 v4, v = .ref p ∧ SqT K F p [v1, v2, v3, v4] ∧ R K F v1 x.a ∧ R K F v2 x.b ∧ R K F v3 x.c ∧ R K F v4 x.e := by
  have h' : Rp K F v (.tuple [Enc.d x.a, Enc.d x.b, Enc.d x.c, Enc.d x.e]) := h
  cases h' with | tup h1 h2 h3 => obtain ⟨v1, v2, v3, v4, rfl, r⟩ := h3.four; exact ⟨_, _, _, _, _, rfl, h1, r⟩
theorem R.p5_v {x : T5 α β γ δ ε} (h : R K F v x) : ∃ p v1 v2 v3 v4 v5, v = .ref p ∧ SqT K F p [v1, v2, v3, v4, v5] ∧ R K F v1 x.a ∧ R K F v2 x.b ∧ R K F v3 x.c ∧ R K F v4 x.e ∧ R K F v5 x.f := by
  have h' : Rp K F v (.tuple [Enc.d x.a, Enc.d x.b, Enc.d x.c, Enc.d x.e, Enc.d x.f]) := h
  cases h' with | tup h1 h2 h3 => obtain ⟨v1, v2, v3, v4, v5, rfl, r⟩ := h3.five; exact ⟨_, _, _, _, _, _, rfl, h1, r⟩
/-- making them -/
theorem R.mkl {xs : List α} (h1 : SqL K F p vs) (h2 : vs.length ≤ sizeLine) (h3 : RL K F vs xs) : R K F (.ref p) xs := .lst h1 h2 h3
theorem R.mkvt {xs : List α} (h1 : SqT K F p vs) (h2 : vs.length ≤ sizeLine) (h3 : RL K F vs xs) : R K F (.ref p) (VT.mk xs) := .tup h1 h2 h3
theorem R.mk2 {v1 v2 : V} {x : α} {y : β} (h1 : SqT K F p [v1, v2]) (r1 : R K F v1 x) (r2 : R K F v2 y) : R K F (.ref p) (x, y) := .tup h1 (by show 2 ≤ sizeLine; decide) (.cons r1 (.cons r2 .nil))
theorem R.mk3 {v1 v2 v3 : V} {x : α} {y : β} {z : γ} (h1 : SqT K F p [v1, v2, v3]) (r1 : R K F v1 x) (r2 : R K F v2 y) (r3 : R K F v3 z) : R K F (.ref p) (T3.mk x y z) := .tup h1 (by show 3 ≤ sizeLine; decide) (.cons r1 (.cons r2 (.cons r3 .nil)))
theorem R.mk4 {v1 v2 v3 v4 : V} {x : α} {y : β} {z : γ} {u : δ} (h1 : SqT K F p [v1, v2, v3, v4]) (r1 : R K F v1 x) (r2 : R K F v2 y) (r3 : R K F v3 z) (r4 : R K F v4 u) : R K F (.ref p) (T4.mk x y z u) := .tup h1 (by show 4 ≤ sizeLine; decide) (.cons r1 (.cons r2 (.cons r3 (.cons r4 .nil))))
theorem R.mk5 {v1 v2 v3 v4 v5 : V} {x : α} {y : β} {z : γ} {u : δ} {t : ε} (h1 : SqT K F p [v1, v2, v3, v4, v5]) (r1 : R K F v1 x) (r2 : R K F v2 y) (r3 : R K F v3 z) (r4 : R K F v4 u) (r5 : R K F v5 t) : R K F (.ref p) (T5.mk x y z u t) := .tup h1 (by show 5 ≤ sizeLine; decide) (.cons r1 (.cons r2 (.cons r3 (.cons r4 (.cons r5 .nil)))))
theorem RL.nil : RL K F [] ([] : List α) := RpA.nil
theorem RL.cons {x : α} {xs : List α} (r : R K F v x) (rs : RL K F vs xs) : RL K F (v :: vs) (x :: xs) := RpA.cons r rs
theorem RL.snoc {x : α} {xs : List α} (rs : RL K F vs xs) (r : R K F v x) : RL K F (vs ++ [v]) (xs ++ [x]) := by
  show RpA K F _ _
  rw [List.map_append]
  exact RpA.append rs (.cons r .nil)
theorem RL.app {us : List V} {xs ys : List α} (rs : RL K F vs xs) (r : RL K F us ys) : RL K F (vs ++ us) (xs ++ ys) := by
  show RpA K F _ _
  rw [List.map_append]
  exact RpA.append rs r
theorem RL.len {xs : List α} (rs : RL K F vs xs) : vs.length = xs.length := by
  have h := RpA.length rs
  rwa [List.length_map] at h
theorem RL.get {xs : List α} {i : Nat} (rs : RL K F vs xs) (e : vs[i]? = some v) : ∃ x, xs[i]? = some x ∧ R K F v x := by
  obtain ⟨d, e1, r⟩ := RpA.get rs e
  rw [List.getElem?_map] at e1
  cases h : xs[i]? with
  | none => rw [h] at e1; cases e1
  | some x =>
    rw [h] at e1
    have e2 : Enc.d x = d := Option.some.inj e1
    subst e2
    exact ⟨x, rfl, r⟩
theorem RL.back {xs : List α} {i : Nat} {x : α} (rs : RL K F vs xs) (e : xs[i]? = some x) : ∃ v, vs[i]? = some v ∧ R K F v x :=
  RpA.back rs (by rw [List.getElem?_map, e]; rfl)
theorem RL.at {xs : List α} {i : Int} {x : α} (rs : RL K F vs xs) (e : atI xs i = some x) : ∃ v, atI vs i = some v ∧ R K F v x := by
  unfold atI at e ⊢
  rw [rs.len]
  cases h : ixN xs.length i with
  | none => rw [h] at e; cases e
  | some j =>
    rw [h] at e
    exact rs.back e
theorem RL.cut {xs : List α} (lo hi : Option Int) (rs : RL K F vs xs) : RL K F (cutV vs lo hi) ((xs.drop (HT.sIx xs.length 0 lo)).take (HT.sIx xs.length xs.length hi - HT.sIx xs.length 0 lo)) := by
  unfold cutV
  rw [rs.len]
  show RpA K F _ _
  rw [List.map_take, List.map_drop]
  exact RpA.take _ (RpA.drop _ rs)
theorem RL.set {xs : List α} {x : α} (i : Nat) (r : R K F v x) (rs : RL K F vs xs) : RL K F (vs.set i v) (xs.set i x) := by
  show RpA K F _ _
  rw [List.map_set]
  exact RpA.set i r rs
theorem RL.rev {xs : List α} (rs : RL K F vs xs) : RL K F vs.reverse xs.reverse := by
  show RpA K F _ _
  rw [List.map_reverse]
  exact RpA.reverse rs
theorem RL.init {xs : List α} (rs : RL K F vs xs) : RL K F vs.dropLast xs.dropLast := by
  show RpA K F _ _
  rw [List.map_dropLast]
  exact RpA.dropLast rs
theorem RL.ints {xs : List Int} (rs : RL K F vs xs) : vs = xs.map V.int := by
  induction xs generalizing vs with
  | nil => cases rs; rfl
  | cons x xs ih => cases rs with | cons r t => rw [R.int_v r, ih t]; rfl
theorem RL.ofInts (xs : List Int) : RL K F (xs.map V.int) xs := by
  induction xs with
  | nil => exact .nil
  | cons x xs ih => exact .cons (.int x) ih
theorem RL.bls {xs : List Bool} (rs : RL K F vs xs) : vs = xs.map V.bl := by
  induction xs generalizing vs with
  | nil => cases rs; rfl
  | cons x xs ih => cases rs with | cons r t => rw [R.bl_v r, ih t]; rfl
theorem RL.strs {xs : List Str} (rs : RL K F vs xs) : vs = xs.map V.str ∧ ∀ x ∈ xs, GS x := by
  induction xs generalizing vs with
  | nil => cases rs; exact ⟨rfl, fun _ h => nomatch h⟩
  | cons x xs ih =>
    cases rs with
    | cons r t =>
      obtain ⟨e, g⟩ := R.str_v r
      obtain ⟨e2, g2⟩ := ih t
      refine ⟨by rw [e, e2]; rfl, fun y hy => ?_⟩
      rcases List.mem_cons.mp hy with rfl | hy
      · exact g
      · exact g2 y hy
theorem RL.ofStrs (xs : List Str) (h : ∀ x ∈ xs, GS x) : RL K F (xs.map V.str) xs := by
  induction xs with
  | nil => exact .nil
  | cons x xs ih => exact .cons (.str x (h x (List.mem_cons_self ..))) (ih fun y hy => h y (List.mem_cons_of_mem _ hy))
end
end

/-! ### how deep a type's data go -/
class Dep (α : Type) [Enc α] where
  n : Nat
  le : ∀ x : α, (Enc.d x).depth ≤ n
instance : Dep Int := ⟨0, fun _ => Nat.le_refl _⟩
instance : Dep Bool := ⟨0, fun _ => Nat.le_refl _⟩
instance : Dep Str := ⟨0, fun _ => Nat.le_refl _⟩
instance {α : Type} [Enc α] [Dep α] : Dep (Option α) := ⟨Dep.n α, fun o => by
  cases o with
  | none => exact Nat.zero_le _
  | some x => exact Dep.le x⟩
theorem depthAll_le {α : Type} [Enc α] [Dep α] : ∀ xs : List α, PyData.depthAll (xs.map Enc.d) ≤ Dep.n α
  | [] => Nat.zero_le _
  | x :: xs => Nat.max_le.mpr ⟨Dep.le x, depthAll_le xs⟩
instance {α : Type} [Enc α] [Dep α] : Dep (List α) := ⟨Dep.n α + 1, fun xs => Nat.succ_le_succ (depthAll_le xs)⟩
instance {α : Type} [Enc α] [Dep α] : Dep (VT α) := ⟨Dep.n α + 1, fun xs => Nat.succ_le_succ (depthAll_le xs.l)⟩
instance {α β : Type} [Enc α] [Enc β] [Dep α] [Dep β] : Dep (α × β) := ⟨max (Dep.n α) (Dep.n β) + 1, fun p => by
  have h1 := Dep.le p.1
  have h2 := Dep.le p.2
  show PyData.depthAll [Enc.d p.1, Enc.d p.2] + 1 ≤ _
  simp only [PyData.depthAll]
  omega⟩
instance {α β γ : Type} [Enc α] [Enc β] [Enc γ] [Dep α] [Dep β] [Dep γ] : Dep (T3 α β γ) := ⟨max (Dep.n α) (max (Dep.n β) (Dep.n γ)) + 1, fun p => by
  have h1 := Dep.le p.a
  have h2 := Dep.le p.b
  have h3 := Dep.le p.c
  show PyData.depthAll [Enc.d p.a, Enc.d p.b, Enc.d p.c] + 1 ≤ _
  simp only [PyData.depthAll]
  omega⟩
instance {α β γ δ : Type} [Enc α] [Enc β] [Enc γ] [Enc δ] [Dep α] [Dep β] [Dep γ] [Dep δ] : Dep (T4 α β γ δ) := ⟨max (Dep.n α) (max (Dep.n β) (max (Dep.n γ) (Dep.n δ))) + 1, fun p => by
  have h1 := Dep.le p.a
  have h2 := Dep.le p.b
  have h3 := Dep.le p.c
  have h4 := Dep.le p.e
  show PyData.depthAll [Enc.d p.a, Enc.d p.b, Enc.d p.c, Enc.d p.e] + 1 ≤ _
  simp only [PyData.depthAll]
  omega⟩
instance {α β γ δ ε : Type} [Enc α] [Enc β] [Enc γ] [Enc δ] [Enc ε] [Dep α] [Dep β] [Dep γ] [Dep δ] [Dep ε] : Dep (T5 α β γ δ ε) := ⟨max (Dep.n α) (max (Dep.n β) (max (Dep.n γ) (max (Dep.n δ) (Dep.n ε)))) + 1, fun p => by
  have h1 := Dep.le p.a
  have h2 := Dep.le p.b
  have h3 := Dep.le p.c
  have h4 := Dep.le p.e
  have h5 := Dep.le p.f
  show PyData.depthAll [Enc.d p.a, Enc.d p.b, Enc.d p.c, Enc.d p.e, Enc.d p.f] + 1 ≤ _
  simp only [PyData.depthAll]
  omega⟩
theorem R.shaped {α : Type} [Enc α] [Dep α] {K : PySem.W.Frag} {F : Hp} {v : V} {x : α} (r : R K F v x) (h : Dep.n α ≤ 64 := by decide) : SeqAt.shaped (Enc.d x) = true :=
  Bool.and_eq_true_iff.mpr ⟨Rp.lay _ _ r, decide_eq_true (Nat.le_trans (Dep.le x) h)⟩
/-- equal, as Python compares -/
def eqD {α : Type} [Enc α] (x y : α) : Bool := PyData.eqv (Enc.d x) (Enc.d y)

/-! ### growth: F is what stays as it is, H all that stands; M may be changed -/
structure Gr (M : Addr → Prop) (F0 H0 F H : Hp) : Prop where
  fh : Same F H
  ff : Same F0 F
  keep : ∀ a o, ¬ M a → H0 a = some o → H a = some o
  there : ∀ a, H0 a ≠ none → H a ≠ none
  new : ∀ a, H0 a ≠ none → F0 a = none → F a = none
abbrev M0 : Addr → Prop := fun _ => False
section
variable {M : Addr → Prop} {F0 H0 F H F' H' : Hp} {p a : Addr} {o : HO} {K : PySem.W.Frag} {xs : List V}
theorem Gr.refl (h : Same F H) : Gr M F H F H := ⟨h, Same.refl _, fun _ _ _ e => e, fun _ e => e, fun _ _ e => e⟩
theorem Gr.trans (g : Gr M F0 H0 F H) (k : Gr M F H F' H') : Gr M F0 H0 F' H' :=
  ⟨k.fh, g.ff.trans k.ff, fun a o n e => k.keep a o n (g.keep a o n e), fun a e => k.there a (g.there a e), fun a e n => k.new a (g.there a e) (g.new a e n)⟩
theorem Gr.of0 (g : Gr M0 F H F' H') : Gr M F H F' H' := ⟨g.fh, g.ff, fun a o _ e => g.keep a o id e, g.there, g.new⟩
theorem Gr.none0 (g : Gr M F0 H0 F H) (h : H a = none) : H0 a = none := by
  cases e : H0 a with
  | none => rfl
  | some o => exact absurd h (g.there a (by rw [e]; simp))
theorem Gr.noneF (g : Gr M F0 H0 F H) (h : H a = none) : F a = none := by
  cases e : F a with
  | none => rfl
  | some o => rw [g.fh a o e] at h; cases h
theorem same_new (h : F p = none) : Same F (upd F p o) := fun b u e => by rw [upd_ne (ne_of_none e h)]; exact e
theorem same_upd2 (h : Same F H) (hp : F p = none) : Same (upd F p o) (upd H p o) := fun b u e => by
  by_cases hb : b = p
  · subst hb; rw [upd_same] at e ⊢; exact e
  · rw [upd_ne hb] at e ⊢; exact h b u e
theorem same_out (h : Same F H) (hp : F p = none) : Same F (upd H p o) := fun b u e => by
  rw [upd_ne (ne_of_none e hp)]
  exact h b u e
/-- a new thing that stays as it is -/
theorem Gr.frz (g : Gr M F0 H0 F H) (h : H p = none) : Gr M F0 H0 (upd F p o) (upd H p o) :=
  ⟨same_upd2 g.fh (g.noneF h), g.ff.trans (same_new (g.noneF h)), fun a u n e => by rw [upd_ne (ne_of_none (g.keep a u n e) h)]; exact g.keep a u n e,
    fun a e => by
      by_cases ha : a = p
      · subst ha; rw [upd_same]; simp
      · rw [upd_ne ha]; exact g.there a e,
    fun a e n => by
      have ha : a ≠ p := fun z => by subst z; exact e (g.none0 h)
      rw [upd_ne ha]; exact g.new a e n⟩
/-- a new thing that may be changed -/
theorem Gr.own (g : Gr M F0 H0 F H) (h : H p = none) : Gr M F0 H0 F (upd H p o) :=
  ⟨same_out g.fh (g.noneF h), g.ff, fun a u n e => by rw [upd_ne (ne_of_none (g.keep a u n e) h)]; exact g.keep a u n e,
    fun a e => by
      by_cases ha : a = p
      · subst ha; rw [upd_same]; simp
      · rw [upd_ne ha]; exact g.there a e, g.new⟩
/-- a thing of ours is changed -/
theorem Gr.mut (g : Gr M F0 H0 F H) (n : F p = none) (n0 : H0 p = none ∨ M p) : Gr M F0 H0 F (upd H p o) :=
  ⟨same_out g.fh n, g.ff, fun a u m e => by
      have ha : a ≠ p := fun z => by
        subst z
        rcases n0 with z | z
        · rw [z] at e; cases e
        · exact m z
      rw [upd_ne ha]; exact g.keep a u m e,
    fun a e => by
      by_cases ha : a = p
      · subst ha; rw [upd_same]; simp
      · rw [upd_ne ha]; exact g.there a e, g.new⟩
/-- a thing of ours stays as it is from now on -/
theorem Gr.freeze (g : Gr M F0 H0 F H) (h : H p = some o) (n0 : H0 p = none) : Gr M F0 H0 (upd F p o) H :=
  ⟨fun b u e => by
      by_cases hb : b = p
      · subst hb; rw [upd_same] at e; cases e; exact h
      · rw [upd_ne hb] at e; exact g.fh b u e,
    fun b u e => by
      by_cases hb : b = p
      · subst hb
        have := g.fh b u (g.ff b u e)
        rw [h] at this; cases this
        exact upd_same
      · rw [upd_ne hb]; exact g.ff b u e, g.keep, g.there,
    fun a e n => by
      have ha : a ≠ p := fun z => by subst z; exact e n0
      rw [upd_ne ha]; exact g.new a e n⟩
theorem Gr.seq (g : Gr M F0 H0 F H) (m : ¬ M a) (h : SqL K H0 a xs) : SqL K H a xs := by
  rcases h with (h | ⟨o, h⟩) | h
  · exact .inl (.inl (g.keep _ _ m h))
  · exact .inl (.inr ⟨o, g.keep _ _ m h⟩)
  · exact .inr h
theorem same_frz (h : H p = some o) (n : F p = none) : Same F (upd F p o) := same_new n
end

/-! ### the makings, step by step -/
def bind2 {α β γ : Type} (o : Option (α × β)) (f : α → β → Option γ) : Option γ := o.bind fun p => f p.1 p.2
def bind3 {α β γ δ : Type} (o : Option (α × β × γ)) (f : α → β → γ → Option δ) : Option δ := o.bind fun p => f p.1 p.2.1 p.2.2
def bind4 {α β γ δ ε : Type} (o : Option (α × β × γ × δ)) (f : α → β → γ → δ → Option ε) : Option ε := o.bind fun p => f p.1 p.2.1 p.2.2.1 p.2.2.2
def bind5 {α β γ δ ε ζ : Type} (o : Option (α × β × γ × δ × ε)) (f : α → β → γ → δ → ε → Option ζ) : Option ζ := o.bind fun p => f p.1 p.2.1 p.2.2.1 p.2.2.2.1 p.2.2.2.2
theorem bnd {α β : Type} {o : Option α} {f : α → Option β} {r : β} (h : Option.bind o f = some r) : ∃ x, o = some x ∧ f x = some r := Option.bind_eq_some_iff.mp h
theorem bnd2 {α β γ : Type} {o : Option (α × β)} {f : α → β → Option γ} {r : γ} (h : bind2 o f = some r) : ∃ x y, o = some (x, y) ∧ f x y = some r :=
  let ⟨p, e, k⟩ := Option.bind_eq_some_iff.mp h
  ⟨p.1, p.2, e, k⟩
theorem bnd3 {α β γ δ : Type} {o : Option (α × β × γ)} {f : α → β → γ → Option δ} {r : δ} (h : bind3 o f = some r) : ∃ x y z, o = some (x, y, z) ∧ f x y z = some r :=
  let ⟨p, e, k⟩ := Option.bind_eq_some_iff.mp h
  ⟨p.1, p.2.1, p.2.2, e, k⟩
theorem bnd4 {α β γ δ ε : Type} {o : Option (α × β × γ × δ)} {f : α → β → γ → δ → Option ε} {r : ε} (h : bind4 o f = some r) : ∃ x y z u, o = some (x, y, z, u) ∧ f x y z u = some r :=
  let ⟨p, e, k⟩ := Option.bind_eq_some_iff.mp h
  ⟨p.1, p.2.1, p.2.2.1, p.2.2.2, e, k⟩
theorem bnd5 {α β γ δ ε ζ : Type} {o : Option (α × β × γ × δ × ε)} {f : α → β → γ → δ → ε → Option ζ} {r : ζ} (h : bind5 o f = some r) : ∃ x y z u t, o = some (x, y, z, u, t) ∧ f x y z u t = some r :=
  let ⟨p, e, k⟩ := Option.bind_eq_some_iff.mp h
  ⟨p.1, p.2.1, p.2.2.1, p.2.2.2.1, p.2.2.2.2, e, k⟩
/-- a loop's end: gone on, or handed back -/
inductive Lp (S R : Type) where
  | go (s : S)
  | ret (r : R)
def bindL {S R T : Type} (o : Option (Lp S R)) (f : S → Option T) (g : R → Option T) : Option T := o.bind fun l => match l with
  | .go s => f s
  | .ret r => g r
theorem ifT {α : Type} {c : Bool} {a b : α} {r : α} (h : c = true) (e : (if c = true then a else b) = r) : a = r := by rw [if_pos h] at e; exact e
theorem ifF {α : Type} {c : Bool} {a b : α} {r : α} (h : c = false) (e : (if c = true then a else b) = r) : b = r := by rw [if_neg (by rw [h]; decide)] at e; exact e
theorem iteB {c : Bool} {A B : Prop} (h1 : c = true → A) (h2 : c = false → B) : if c = true then A else B := by
  cases c with
  | true => exact h1 rfl
  | false => exact h2 rfl
theorem drop_at {α : Type} {xs : List α} {i : Nat} {x : α} (h : xs[i]? = some x) : xs.drop i = x :: xs.drop (i + 1) := by
  obtain ⟨h1, h2⟩ := List.getElem?_eq_some_iff.mp h
  rw [List.drop_eq_getElem_cons h1, h2]
theorem drop_end {α : Type} {xs : List α} {n : Nat} (h : n = xs.length) : xs.drop n = [] := by subst h; exact List.drop_length
end G
/-! My base, part 2: operations of the makings, and their rules. -/
namespace G
open PySem PySem.Spec PyProof.Rows L2 TL

/-! ### ints, truths -/
def eqI (a b : Int) : Bool := decide (V.int a = V.int b)
def neI (a b : Int) : Bool := !decide (V.int a = V.int b)
def eqB (a b : Bool) : Bool := decide (V.bl a = V.bl b)
def neB (a b : Bool) : Bool := !decide (V.bl a = V.bl b)
def eqS (a b : Str) : Bool := decide (V.str a = V.str b)
def neS (a b : Str) : Bool := !decide (V.str a = V.str b)
theorem eqI_iff {a b : Int} : eqI a b = decide (a = b) := by unfold eqI; simp
theorem neI_iff {a b : Int} : neI a b = !decide (a = b) := by unfold neI; simp
theorem eqB_iff {a b : Bool} : eqB a b = decide (a = b) := by unfold eqB; simp
theorem neB_iff {a b : Bool} : neB a b = !decide (a = b) := by unfold neB; simp
theorem eqS_iff {a b : Str} : eqS a b = decide (a = b) := by unfold eqS; simp
theorem neS_iff {a b : Str} : neS a b = !decide (a = b) := by unfold neS; simp
def toI (b : Bool) : Int := if b then 1 else 0
def mulI (a b : Int) : Option Int := if a.natAbs.log2 + b.natAbs.log2 < 1000000 then some (a * b) else none
def divI (a b : Int) : Option Int := if 0 < b ∧ b.natAbs.log2 < 9000 then some (a / b) else none
def modI (a b : Int) : Option Int := if 0 < b then some (a % b) else none
def shlI (a b : Int) : Option Int := if 0 ≤ b ∧ b ≤ 1000000 ∧ a.natAbs < 2 ^ 64 then some (a * 2 ^ b.toNat) else none
def shrI (a b : Int) : Option Int := if 0 ≤ b then some (a / 2 ^ b.toNat) else none
theorem mulI_ok {a b r : Int} (h : mulI a b = some r) : CMulW a b ∧ a * b = r := by
  unfold mulI at h
  split at h
  · exact ⟨by assumption, Option.some.inj h⟩
  · cases h
theorem divI_ok {a b r : Int} (h : divI a b = some r) : CDivW a b ∧ a / b = r := by
  unfold divI at h
  split at h
  · exact ⟨by assumption, Option.some.inj h⟩
  · cases h
theorem modI_ok {a b r : Int} (h : modI a b = some r) : 0 < b ∧ a % b = r := by
  unfold modI at h
  split at h
  · exact ⟨by assumption, Option.some.inj h⟩
  · cases h
theorem shlI_ok {a b r : Int} (h : shlI a b = some r) : CPow a b ∧ a * 2 ^ b.toNat = r := by
  unfold shlI at h
  split at h
  · exact ⟨by assumption, Option.some.inj h⟩
  · cases h
theorem shrI_ok {a b r : Int} (h : shrI a b = some r) : 0 ≤ b ∧ a / 2 ^ b.toNat = r := by
  unfold shrI at h
  split at h
  · exact ⟨by assumption, Option.some.inj h⟩
  · cases h
theorem maxI_eq {i j : Int} : (if j > i then j else i) = max i j := by omega
theorem minI_eq {i j : Int} : (if j < i then j else i) = min i j := by omega

/-! ### texts -/
def sgn (c : Nat) : Str := ⟨#[c]⟩
theorem GS.of {x : Str} (h1 : (tl x).length ≤ sizeLine) (h2 : ∀ c ∈ tl x, c < 0x110000) : GS x := by
  refine ⟨by rw [len_tl]; exact h1, ?_⟩
  show x.cps.all (fun c => decide (c < 0x110000)) = true
  rw [Array.all_eq_true']
  intro c hc
  exact decide_eq_true (h2 c (by simpa [tl] using hc))
theorem GS.mem {x : Str} (g : GS x) : ∀ c ∈ tl x, c < 0x110000 := by
  intro c hc
  have h : x.cps.all (fun c => decide (c < 0x110000)) = true := g.ok
  rw [Array.all_eq_true'] at h
  exact of_decide_eq_true (h c (by simpa [tl] using hc))
theorem GS.tll {x : Str} (g : GS x) : (tl x).length ≤ sizeLine := by rw [← len_tl]; exact g.len
theorem GS.sg {x : Str} {c : Nat} (g : GS x) (h : c ∈ tl x) : GS (sgn c) := GS.of (by show 1 ≤ sizeLine; decide) (fun d hd => by
  have e : d = c := by simpa [tl, sgn] using hd
  rw [e]
  exact g.mem c h)
theorem GS.cut {x : Str} (g : GS x) (lo hi : Option Int) : GS (cutS x lo hi) := GS.of (by
    rw [← len_tl]
    exact Nat.le_trans (cutS_length x lo hi) g.len)
  fun c hc => g.mem c (List.mem_of_mem_drop (List.mem_of_mem_take (show c ∈ ((tl x).drop _).take _ from hc)))
def catS (a b : Str) : Option Str := if a.length + b.length ≤ sizeLine then some (a ++ b) else none
theorem catS_ok {a b r : Str} (h : catS a b = some r) : a.length + b.length ≤ sizeLine ∧ a ++ b = r := by
  unfold catS at h
  split at h
  · exact ⟨by assumption, Option.some.inj h⟩
  · cases h
theorem GS.cat {a b r : Str} (ga : GS a) (gb : GS b) (h : catS a b = some r) : GS r := by
  obtain ⟨h1, rfl⟩ := catS_ok h
  refine GS.of ?_ fun c hc => ?_
  · rw [tl_append, List.length_append, ← len_tl, ← len_tl]
    exact h1
  · rw [tl_append] at hc
    rcases List.mem_append.mp hc with k | k
    · exact ga.mem c k
    · exact gb.mem c k
/-- the sign at a place -/
def codeAt (x : Str) (i : Int) : Option Nat := atI (tl x) i
theorem codeAt_mem {x : Str} {i : Int} {c : Nat} (h : codeAt x i = some c) : c ∈ tl x := by
  unfold codeAt atI at h
  cases e : ixN (tl x).length i with
  | none => rw [e] at h; cases h
  | some j => rw [e] at h; exact List.mem_of_getElem? h
def mulS (x : Str) (n : Int) : Option Str := if -(2 ^ 63 : Int) ≤ n ∧ n ≤ 16777216 ∧ x.length * n.toNat ≤ 16777216 then some (Txt.mul x n) else none
theorem mulS_ok {x r : Str} {n : Int} (h : mulS x n = some r) : MulOk x n ∧ Txt.mul x n = r := by
  unfold mulS at h
  split at h
  · rename_i q
    exact ⟨mulOk_of x.length n.toNat (Nat.le_refl _) (by omega) q.1 (by omega) q.2.2, Option.some.inj h⟩
  · cases h
theorem foldl_app (cs : Array Nat) : ∀ (k : Nat) (acc : Array Nat), ((List.replicate k cs).foldl (· ++ ·) acc).toList = acc.toList ++ (List.replicate k cs.toList).flatten
  | 0, acc => by simp
  | k + 1, acc => by
    rw [List.replicate_succ, List.foldl_cons, foldl_app cs k, List.replicate_succ, List.flatten_cons, Array.toList_append, List.append_assoc]
theorem tl_mul (x : Str) (n : Int) : tl (Txt.mul x n) = (List.replicate n.toNat (tl x)).flatten := by
  unfold Txt.mul
  split
  · have e : n.toNat = 0 := by omega
    rw [e]
    rfl
  · split
    · rename_i h1 h2
      rcases Bool.or_eq_true_iff.mp h2 with h | h
      · have e : n = 1 := eq_of_beq h
        subst e
        show tl x = [tl x].flatten
        simp
      · have e : x.length = 0 := eq_of_beq h
        have e2 : tl x = [] := List.eq_nil_of_length_eq_zero (by rw [← len_tl]; exact e)
        rw [e2]
        simp
    · show ((List.replicate n.toNat x.cps).foldl (· ++ ·) #[]).toList = _
      rw [foldl_app]
      rfl
theorem GS.mul {x r : Str} {n : Int} (g : GS x) (h : mulS x n = some r) : GS r := by
  have h0 := h
  unfold mulS at h0
  split at h0
  · rename_i q
    obtain ⟨_, rfl⟩ := mulS_ok h
    refine GS.of ?_ fun c hc => ?_
    · rw [tl_mul, List.length_flatten, List.map_replicate, List.sum_replicate_nat, ← len_tl, sizeLine_eq, Nat.mul_comm]
      exact q.2.2
    · rw [tl_mul] at hc
      obtain ⟨l, hl, hc⟩ := List.mem_flatten.mp hc
      rw [(List.mem_replicate.mp hl).2] at hc
      exact g.mem c hc
  · cases h0
def joinS (sep : Str) (ys : List Str) : Option Str := if (ys.map (·.length)).sum + ys.length * sep.length ≤ 16777216 then some (Txt.join sep ys) else none
theorem joinS_ok {sep r : Str} {ys : List Str} (h : joinS sep ys = some r) : (ys.map (·.length)).sum + ys.length * sep.length ≤ 16777216 ∧ Txt.join sep ys = r := by
  unfold joinS at h
  split at h
  · exact ⟨by assumption, Option.some.inj h⟩
  · cases h
theorem tl_joinS (sep : Str) (ys : List Str) : tl (Txt.join sep ys) = joinL (tl sep) (ys.map tl) := by
  have e : Txt.join sep ys = Str.join sep ys := by
    unfold Txt.join; exact StrLaws.glued_eq_join sep ys
  rw [e, tl_join]
end G
/-! My base, part 3: rules. -/
namespace G
open PySem PySem.Spec PyProof.Rows L2 TL

section
variable {X : Cx}
theorem CallR.imp {f : Value} {r r' : List V → Hp → VK → Prop} (h : CallR X f r) (k : ∀ xs H Q, r' xs H Q → r xs H Q) : CallR X f r' :=
  fun pins s σ H xs us Q I rx q => h pins s σ H xs us Q I rx (k _ _ _ q)
theorem OpR.imp {f : Value → Value → Sem Value} {r r' : R2} (h : OpR X f r) (k : ∀ x y H Q, r' x y H Q → r x y H Q) : OpR X f r' :=
  fun pins s σ H x y v u Q I rx ry q => h pins s σ H x y v u Q I rx ry (k _ _ _ _ q)
/-- int(a truth) -/
theorem call_toI : CallR X (.type "int") (fun xs H Q => ∃ k, xs = [.bl k] ∧ Q (.int (toI k)) H) := CallR.imp call_int1 fun xs H Q ⟨k, e, q⟩ => .inr ⟨k, e, q⟩
/-- len(a list or tuple), told -/
theorem call_lenL : CallR X (.builtin "len") (fun xs H Q => ∃ p ys n, xs = [.ref p] ∧ (SqL X.K H p ys ∨ SqT X.K H p ys) ∧ ys.length = n ∧ Q (.int (n : Nat)) H) :=
  CallR.imp call_len_seq fun xs H Q ⟨p, ys, n, e, h, e2, q⟩ => ⟨p, ys, e, h, by rw [e2]; exact q⟩
/-- is None, told -/
theorem op_isO : OpR X (compareOp .Is) (fun x y H Q => ∃ b, y = .non ∧ decide (x = .non) = b ∧ Q (.bl b) H) := OpR.imp op_isN fun x y H Q ⟨b, e, e2, q⟩ => ⟨e, by rw [e2]; exact q⟩
theorem op_notO : OpR X (compareOp .IsNot) (fun x y H Q => ∃ b, y = .non ∧ decide (x = .non) = b ∧ Q (.bl (!b)) H) := OpR.imp op_notN fun x y H Q ⟨b, e, e2, q⟩ => ⟨e, by rw [e2]; exact q⟩
theorem op_mulS : OpR X (binaryOp .Mult) (fun x y H Q => ∃ z n, x = .str z ∧ y = .int n ∧ MulOk z n ∧ Q (.str (Txt.mul z n)) H) := by
  intro pins s σ H x y v u Q I rx ry h
  obtain ⟨z, n, rfl, rfl, ok, q⟩ := h
  obtain ⟨t, rfl⟩ := rx
  obtain ⟨t', rfl⟩ := ry
  exact SB.mul ok fun t' k => ⟨.str _, H, I.tok k, ⟨t', rfl⟩, q⟩
/-- xs + ys, lists that are read -/
def rCatL (K : PySem.W.Frag) : R2 := fun x y H Q => ∃ l b xs zs, x = .ref l ∧ y = .ref b ∧ SqL K H l xs ∧ SqL K H b zs ∧ xs.length + zs.length ≤ sizeLine ∧ ∀ p, H p = none → Q (.ref p) (upd H p (.lst (xs ++ zs)))
theorem op_catL : OpR X (binaryOp .Add) (rCatL X.K) := by
  intro pins s σ H x y v u Q I rx ry h
  obtain ⟨l, b, xs, zs, rfl, rfl, hH, hB, hz, q⟩ := h
  cases rx
  cases ry
  obtain ⟨its, r, p1, hl⟩ := I.list hH
  obtain ⟨its2, r2, p2, hl2⟩ := I.list hB
  obtain ⟨⟨cls, dd, data, sl⟩, ho, hc, n, hd⟩ := p1.isList
  obtain ⟨⟨cls2, dd2, data2, sl2⟩, ho2, hc2, n2, hd2⟩ := p2.isList
  simp only at hc hd hc2 hd2
  subst hc hd hc2 hd2
  have ea : its.toArray ++ its2.toArray = (its ++ its2).toArray := by simp
  have e1 := r.length
  have e2 := r2.length
  refine concat_meets ⟨_, ho, rfl⟩ ⟨_, ho2, rfl⟩ noFill_list_add seq_list_add PySem.F.slot_list_add PySem.F.entry_list_add (PySem.F.args_list_add_2 _ _) (PyProof.Rows.list_addW l b its.toArray its2.toArray n n2 dd dd2 sl sl2 (by simp; omega)) ⟨ho, ho2, ?_⟩
  rw [ea]
  exact ⟨.ref _, _, I.lnew (t' := s.toks) (r.append r2) (by rw [List.length_append]; omega), rfl, q _ I.fresh⟩
end

/-! ### parts of an expression, closed: what they come to, whatever follows -/
section
variable {M : Addr → Prop} {F H : Hp} {σ : L2.St} {ta tb tc : TE} {Q : VK} {a c k : Bool}
/-- t comes to the truth c -/
def EvB (M : Addr → Prop) (F H : Hp) (t : VK → Prop) (c : Bool) : Prop := ∀ Q : VK, (∀ F' H', Gr M F H F' H' → Q (.bl c) H') → t Q
def EvT (M : Addr → Prop) (F H : Hp) (t : (Bool → Hp → Prop) → Prop) (c : Bool) : Prop := ∀ Q : Bool → Hp → Prop, (∀ F' H', Gr M F H F' H' → Q c H') → t Q
theorem andV_g (h1 : EvB M F H (fun Q => ta σ H Q) a) (h2 : a = true → ∀ F1 H1, Gr M F H F1 H1 → EvB M F1 H1 (fun Q => tb σ H1 Q) c) (h3 : a = false → c = false)
    (q : ∀ F' H', Gr M F H F' H' → Q (.bl c) H') : tAndV ta tb σ H Q := h1 _ fun F1 H1 g1 => ⟨a, rfl, by
  cases e : a with
  | true => exact iteT (h2 e F1 H1 g1 _ fun F2 H2 g2 => q F2 H2 (g1.trans g2))
  | false =>
    have ec := h3 e
    subst ec
    exact iteF (q F1 H1 g1)⟩
theorem orV_g (h1 : EvB M F H (fun Q => ta σ H Q) a) (h2 : a = false → ∀ F1 H1, Gr M F H F1 H1 → EvB M F1 H1 (fun Q => tb σ H1 Q) c) (h3 : a = true → c = true)
    (q : ∀ F' H', Gr M F H F' H' → Q (.bl c) H') : tOrV ta tb σ H Q := h1 _ fun F1 H1 g1 => ⟨a, rfl, by
  cases e : a with
  | false => exact iteF (h2 e F1 H1 g1 _ fun F2 H2 g2 => q F2 H2 (g1.trans g2))
  | true =>
    have ec := h3 e
    subst ec
    exact iteT (q F1 H1 g1)⟩
theorem andT_g {ta tb : TT} {Q : Bool → Hp → Prop} (h1 : EvT M F H (fun Q => ta σ H Q) a) (h2 : a = true → ∀ F1 H1, Gr M F H F1 H1 → EvT M F1 H1 (fun Q => tb σ H1 Q) c) (h3 : a = false → c = false)
    (q : ∀ F' H', Gr M F H F' H' → Q c H') : tAnd ta tb σ H Q := h1 _ fun F1 H1 g1 => by
  cases e : a with
  | true => exact iteT (h2 e F1 H1 g1 _ fun F2 H2 g2 => q F2 H2 (g1.trans g2))
  | false =>
    have ec := h3 e
    subst ec
    exact iteF (q F1 H1 g1)
theorem orT_g {ta tb : TT} {Q : Bool → Hp → Prop} (h1 : EvT M F H (fun Q => ta σ H Q) a) (h2 : a = false → ∀ F1 H1, Gr M F H F1 H1 → EvT M F1 H1 (fun Q => tb σ H1 Q) c) (h3 : a = true → c = true)
    (q : ∀ F' H', Gr M F H F' H' → Q c H') : tOr ta tb σ H Q := h1 _ fun F1 H1 g1 => by
  cases e : a with
  | false => exact iteF (h2 e F1 H1 g1 _ fun F2 H2 g2 => q F2 H2 (g1.trans g2))
  | true =>
    have ec := h3 e
    subst ec
    exact iteT (q F1 H1 g1)
/-- a < b < c -/
theorem chainV_g {r r' : R2} (h1 : EvB M F H (fun Q => ta σ H fun x H1 => tb σ H1 fun y H2 => r x y H2 Q) a) (h : tChain r r' ta tb tc σ H Q) : tChain r r' ta tb tc σ H Q := h
/-- e if t else e': it comes to what P says -/
theorem ifE_g {tt : TT} {P : V → Hp → Hp → Prop} (h1 : EvT M F H (fun Q => tt σ H Q) a)
    (h2 : a = true → ∀ F1 H1, Gr M F H F1 H1 → ∀ Q : VK, (∀ v F' H', Gr M F1 H1 F' H' → P v F' H' → Q v H') → ta σ H1 Q)
    (h3 : a = false → ∀ F1 H1, Gr M F H F1 H1 → ∀ Q : VK, (∀ v F' H', Gr M F1 H1 F' H' → P v F' H' → Q v H') → tb σ H1 Q)
    (q : ∀ v F' H', Gr M F H F' H' → P v F' H' → Q v H') : tIf tt ta tb σ H Q := h1 _ fun F1 H1 g1 => by
  cases e : a with
  | true => exact iteT (h2 e F1 H1 g1 _ fun v F2 H2 g2 => q v F2 H2 (g1.trans g2))
  | false => exact iteF (h3 e F1 H1 g1 _ fun v F2 H2 g2 => q v F2 H2 (g1.trans g2))
end

/-! ### peeling a statement -/
section
variable {D : Ends} {σ : L2.St} {H : Hp} {t u : TS} {te : TE} {g : TG} {c : TT}
theorem p_seq (h : t { D with nx := u D } σ H) : tSeq t u D σ H := h
theorem p_asg (h : te σ H (fun x H1 => g x σ H1 D.nx)) : tAsg te g D σ H := h
theorem p_ret (h : te σ H D.rt) : tRet te D σ H := h
theorem p_if (h : c σ H (fun b H1 => if b = true then t D σ H1 else u D σ H1)) : tIfS c t u D σ H := h
theorem p_drop (h : te σ H (fun _ H1 => D.nx σ H1)) : tDrop te D σ H := h
/-- a statement, then the rest, with a word between them -/
def tCut (t u : TS) : TS := fun D σ H => ∃ Mid : L2.St → Hp → Prop, t { D with nx := Mid } σ H ∧ ∀ σ' H', Mid σ' H' → u D σ' H'
theorem pss_cut {X : Cx} {st : Stmt} {rest : List Stmt} (h1 : PS X st t) (h2 : PSs X rest u) : PSs X (st :: rest) (tCut t u) := by
  refine ⟨fun pins s σ H D I h => ?_⟩
  obtain ⟨Mid, hm, hu⟩ := h
  refine wpAny_execs_cons (thn (h1.run pins s σ H { D with nx := Mid } I hm) fun f s1 q => ?_)
  cases f with
  | next =>
    obtain ⟨σ', H', I', q⟩ := q
    exact h2.run pins s1 σ' H' D I' (hu σ' H' q)
  | ret v => exact q
  | brk => exact q
  | cont => exact q
end

/-! ### a call by names alone -/
section
variable {X : Cx} {CX : CXT} {k : Nat} {f : Addr} {fd : FuncData} {ps ks : List Str} {sp : Sp} {E : XK} {x : Str} {p pos : Pos} {kws : List Keyword} {tk : TA} {g : List Value → List Value → List Value} {gV : List V → List V → List V}
theorem pe_callK0 (F : FnOk X.prog X.w X.K X.mg X.base CX k f fd ps sp) (hr : Room k X.A) (hg : Gl X x) (hm : X.mg x = some (.ref f)) (hk : PySem.W.keepIn X.K (.ref f) = true) (hb : KBinds X.K fd ps ks g gV) (hx : Passes CX X E)
    (hkw : PK X kws tk) (hall : (backToKw pos (keywordEach kws X.env)).all (·.1.isSome) = true := by rfl) (hks : (backToKw pos (keywordEach kws X.env)).filterMap (·.1) = ks := by rfl)
    (hdb : (x == ("__debug__" : Str)) = false := by decide)
    (hpl : ((backTo pos (starEach [] X.env)).any (·.1) || (backToKw pos (keywordEach kws X.env)).any (·.1.isNone)) = false := by rfl) :
    PE X (.Call (.Name x p) [] kws pos) (tCallK sp gV E tNil tk) := by
  refine ⟨fun pins s σ H Q I h => ?_⟩
  refine wpAny_Call_Name_kw (ld_glob I hg hm ?_ hdb)
  refine PySem.W.callWith_KW0 (h₀ := X.base) I.ok.mod.kin hk hall ?_ hpl
  refine thn (hkw.run pos pins s σ H _ I h) fun ws s2 ⟨zs, H2, I2, rz, q2⟩ => ⟨I2.kIn, ?_⟩
  rw [hks]
  exact run_fnk F hr hb hx I2 .nil rz q2
end

/-! ### texts kept in a written table -/
def dgetS (kvs : List (Str × Str)) (k d : Str) : Str := ((kvs.find? fun kv => decide (kv.1 = k)).map (·.2)).getD d
def kvS (kvs : List (Str × Str)) : List (Key × V) := kvs.map fun kv => (Sum.inr kv.1, V.str kv.2)
theorem valS (k : Str) : ∀ kvs : List (Str × Str), valV (kvS kvs) (Sum.inr k) = ((kvs.find? fun kv => decide (kv.1 = k)).map (·.2)).map V.str
  | [] => rfl
  | kv :: r => by
    unfold valV kvS
    rw [List.map_cons, List.find?_cons, List.find?_cons]
    by_cases h : kv.1 = k
    · have h' : (Sum.inr kv.1 : Key) = Sum.inr k := by rw [h]
      simp only [decide_eq_true h, decide_eq_true h', Option.map_some]
    · have h' : ¬ (Sum.inr kv.1 : Key) = Sum.inr k := fun e => h (Sum.inr.inj e)
      simp only [decide_eq_false h, decide_eq_false h']
      exact valS k r
theorem rd_dgets {ty tx : TE} {σ : L2.St} {H : Hp} {Q : VK} {k d : Str} (trs : List (TE × TE)) (kvs : List (Str × Str)) (he : trs = kvs.map fun kv => (tC (.str kv.1), tC (.str kv.2))) (h15 : kvs.length ≤ 15) (hm : mergeK [] (kvS kvs) = kvS kvs)
    (hy : ∀ H1 Q', Q' (.str k) H1 → ty σ H1 Q') (hx : ∀ H1 Q', Q' (.str d) H1 → tx σ H1 Q') (q : ∀ p, H p = none → Q (.str (dgetS kvs k d)) (upd H p (.dK (kvS kvs)))) : tDGet2 (tDisp trs) ty tx σ H Q := by
  intro p hp
  have walk : ∀ (l : List (Str × Str)) (R : List (V × V) → Hp → Prop) (H1 : Hp), R (l.map fun kv => (V.str kv.1, V.str kv.2)) H1 → tPairs (l.map fun kv => (tC (.str kv.1), tC (.str kv.2))) σ H1 R := by
    intro l
    induction l with
    | nil => intro R H1 h; exact h
    | cons kv l ih => intro R H1 h; exact ih (fun ps H3 => R ((V.str kv.1, V.str kv.2) :: ps) H3) H1 h
  rw [he]
  refine walk kvs _ _ ⟨upd_same, kvS kvs, ?_, ?_, ?_⟩
  · unfold kvS
    rw [List.map_map]
    rfl
  · unfold kvS
    rw [List.length_map]
    exact h15
  · rw [hm, upd_upd]
    refine ⟨p, rfl, .inl ⟨_, .inl upd_same⟩, hy _ _ (hx _ _ ⟨_, DGet.k (k := Sum.inr k) upd_same, ?_⟩)⟩
    rw [valS]
    have e : (((kvs.find? fun kv => decide (kv.1 = k)).map (·.2)).map V.str).getD (.str d) = .str (dgetS kvs k d) := by
      unfold dgetS
      cases (kvs.find? fun kv => decide (kv.1 = k)) <;> rfl
    rw [e]
    exact q p hp
theorem GS.dg {kvs : List (Str × Str)} {k d : Str} (h : ∀ kv ∈ kvs, GS kv.2) (hd : GS d) : GS (dgetS kvs k d) := by
  unfold dgetS
  cases e : (kvs.find? fun kv => decide (kv.1 = k)) with
  | none => exact hd
  | some kv => exact h kv (List.mem_of_find?_eq_some e)
end G
/-! My base, part 4: lists of one's own, the bag. -/
namespace G
open PySem PySem.Spec PyProof.Rows L2 TL

/-- a list of one's own at p: made behind the entry (H0), not among what stays (F) -/
structure Ow (H0 F H : Hp) (p : Addr) (ws : List V) : Prop where
  h : H p = some (.lst ws)
  nF : F p = none
  n0 : H0 p = none
section
variable {M : Addr → Prop} {F0 H0 F H F' H' : Hp} {p q : Addr} {o : HO} {K : PySem.W.Frag} {xs ws us : List V}
theorem Ow.new (g : Gr M F0 H0 F H) (hp : H p = none) : Ow H0 F (upd H p (.lst ws)) p ws := ⟨upd_same, g.noneF hp, g.none0 hp⟩
theorem Ow.frz (w : Ow H0 F H p ws) (hq : H q = none) : Ow H0 (upd F q o) (upd H q o) p ws :=
  have ne := ne_of_none w.h hq
  ⟨(upd_ne ne).trans w.h, (upd_ne ne).trans w.nF, w.n0⟩
theorem Ow.own (w : Ow H0 F H p ws) (hq : H q = none) : Ow H0 F (upd H q o) p ws :=
  have ne := ne_of_none w.h hq
  ⟨(upd_ne ne).trans w.h, w.nF, w.n0⟩
theorem Ow.put (w : Ow H0 F H p ws) : Ow H0 F (upd H p (.lst us)) p us := ⟨upd_same, w.nF, w.n0⟩
theorem Ow.other (w : Ow H0 F H p ws) (ne : p ≠ q) : Ow H0 F (upd H q o) p ws := ⟨(upd_ne ne).trans w.h, w.nF, w.n0⟩
theorem Ow.ne (w : Ow H0 F H p ws) (hq : H q = none) : p ≠ q := ne_of_none w.h hq
theorem Ow.gr (w : Ow H0 F H p ws) (g : Gr M F H F' H') (m : ¬ M p) : Ow H0 F' H' p ws :=
  ⟨g.keep _ _ m w.h, g.new p (by rw [w.h]; simp) w.nF, w.n0⟩
theorem Ow.gr0 (w : Ow H0 F H p ws) (g : Gr M0 F H F' H') : Ow H0 F' H' p ws := w.gr g id
theorem Ow.fz (w : Ow H0 F H p ws) (ne : p ≠ q) : Ow H0 (upd F q o) H p ws := ⟨w.h, (upd_ne ne).trans w.nF, w.n0⟩
theorem Gr.put (g : Gr M F0 H0 F H) (w : Ow H0 F H p ws) : Gr M F0 H0 F (upd H p o) := g.mut w.nF (.inl w.n0)
theorem Gr.fz (g : Gr M F0 H0 F H) (w : Ow H0 F H p ws) : Gr M F0 H0 (upd F p (.lst ws)) H := g.freeze w.h w.n0
theorem Ow.sq (w : Ow H0 F H p ws) : SqL K H p ws := .inl (.inl w.h)
theorem Ow.sf (w : Ow H0 F H p ws) : Same F (upd F p (.lst ws)) := same_new w.nF
theorem fzS : SqL K (upd F p (.lst ws)) p ws := .inl (.inl upd_same)
theorem fzT : SqT K (upd F p (.tup ws)) p ws := .inl (.inl upd_same)
end

/-- the bag of a law: its cells, which is next, the seed, how many were stirred -/
structure Bag where
  cells : List Int
  at_ : Nat
  seed : Int
  cnt : Int
structure BagOk (b : Bag) : Prop where
  lo : 0 ≤ b.seed
  hi : b.seed < 2 ^ 31
abbrev Bc (B C : Addr) : Addr → Prop := fun a => a = B ∨ a = C
structure BagAt (F H : Hp) (B C : Addr) (b : Bag) : Prop where
  hB : H B = some (.lst [.ref C, .int (b.at_ : Nat), .int b.seed, .int b.cnt])
  hC : H C = some (.lst (b.cells.map V.int))
  ne : B ≠ C
  fB : F B = none
  fC : F C = none
section
variable {M : Addr → Prop} {F0 H0 F H F' H' : Hp} {p q B C : Addr} {o : HO} {b b' : Bag} {ws : List V}
theorem BagAt.frz (a : BagAt F H B C b) (hq : H q = none) : BagAt (upd F q o) (upd H q o) B C b :=
  have n1 := ne_of_none a.hB hq
  have n2 := ne_of_none a.hC hq
  ⟨(upd_ne n1).trans a.hB, (upd_ne n2).trans a.hC, a.ne, (upd_ne n1).trans a.fB, (upd_ne n2).trans a.fC⟩
theorem BagAt.own (a : BagAt F H B C b) (hq : H q = none) : BagAt F (upd H q o) B C b :=
  have n1 := ne_of_none a.hB hq
  have n2 := ne_of_none a.hC hq
  ⟨(upd_ne n1).trans a.hB, (upd_ne n2).trans a.hC, a.ne, a.fB, a.fC⟩
theorem BagAt.nb (a : BagAt F H B C b) (hq : H q = none) : ¬ Bc B C q := fun z => by
  rcases z with z | z
  · exact ne_of_none a.hB hq z.symm
  · exact ne_of_none a.hC hq z.symm
theorem BagAt.other (a : BagAt F H B C b) (m : ¬ Bc B C q) : BagAt F (upd H q o) B C b :=
  have n1 : B ≠ q := fun z => m (.inl z.symm)
  have n2 : C ≠ q := fun z => m (.inr z.symm)
  ⟨(upd_ne n1).trans a.hB, (upd_ne n2).trans a.hC, a.ne, a.fB, a.fC⟩
theorem BagAt.fz (a : BagAt F H B C b) (m : ¬ Bc B C q) : BagAt (upd F q o) H B C b :=
  have n1 : B ≠ q := fun z => m (.inl z.symm)
  have n2 : C ≠ q := fun z => m (.inr z.symm)
  ⟨a.hB, a.hC, a.ne, (upd_ne n1).trans a.fB, (upd_ne n2).trans a.fC⟩
theorem BagAt.gr0 (a : BagAt F H B C b) (g : Gr M0 F H F' H') : BagAt F' H' B C b :=
  ⟨g.keep _ _ id a.hB, g.keep _ _ id a.hC, a.ne, g.new _ (by rw [a.hB]; simp) a.fB, g.new _ (by rw [a.hC]; simp) a.fC⟩
/-- a promise over the whole heap as what stays: the caller's own part stays apart -/
theorem Gr.apart (g : Gr M F0 H0 F H) (k : Gr M0 H H F' H') : Gr M F0 H0 F H' :=
  ⟨g.fh.trans fun a o e => k.keep a o id e, g.ff, fun a o m e => k.keep a o id (g.keep a o m e), fun a e => k.there a (g.there a e), g.new⟩
theorem Ow.apart (w : Ow H0 F H p ws) (k : Gr M0 H H F' H') : Ow H0 F H' p ws := ⟨k.keep _ _ id w.h, w.nF, w.n0⟩
theorem BagAt.apart (a : BagAt F H B C b) (k : Gr M0 H H F' H') : BagAt F H' B C b := ⟨k.keep _ _ id a.hB, k.keep _ _ id a.hC, a.ne, a.fB, a.fC⟩
end
end G
namespace G
open PySem PySem.Spec PyProof.Rows L2 TL
/-! ### loops' ends in the makings -/
def lpK {S R T : Type} (l : Lp S R) (f : S → Option T) (g : R → Option T) : Option T := match l with
  | .go s => f s
  | .ret r => g r
def bindL0 {R T : Type} (o : Option (Lp Unit R)) (f : Option T) (g : R → Option T) : Option T := o.bind fun l => lpK l (fun _ => f) g
def bindL1 {α R T : Type} (o : Option (Lp α R)) (f : α → Option T) (g : R → Option T) : Option T := o.bind fun l => lpK l f g
def bindL2 {α β R T : Type} (o : Option (Lp (α × β) R)) (f : α → β → Option T) (g : R → Option T) : Option T := o.bind fun l => lpK l (fun s => f s.1 s.2) g
def bindL3 {α β γ R T : Type} (o : Option (Lp (α × β × γ) R)) (f : α → β → γ → Option T) (g : R → Option T) : Option T := o.bind fun l => lpK l (fun s => f s.1 s.2.1 s.2.2) g
def bindL4 {α β γ δ R T : Type} (o : Option (Lp (α × β × γ × δ) R)) (f : α → β → γ → δ → Option T) (g : R → Option T) : Option T := o.bind fun l => lpK l (fun s => f s.1 s.2.1 s.2.2.1 s.2.2.2) g
section
variable {α β γ δ R T : Type} {g : R → Option T} {r : R} {t : T}
theorem bndL0 {o : Option (Lp Unit R)} {f : Option T} (h : bindL0 o f g = some t) : ∃ l, o = some l ∧ lpK l (fun _ => f) g = some t := Option.bind_eq_some_iff.mp h
theorem bndL1 {o : Option (Lp α R)} {f : α → Option T} (h : bindL1 o f g = some t) : ∃ l, o = some l ∧ lpK l f g = some t := Option.bind_eq_some_iff.mp h
theorem bndL2 {o : Option (Lp (α × β) R)} {f : α → β → Option T} (h : bindL2 o f g = some t) : ∃ l, o = some l ∧ lpK l (fun s => f s.1 s.2) g = some t := Option.bind_eq_some_iff.mp h
theorem bndL3 {o : Option (Lp (α × β × γ) R)} {f : α → β → γ → Option T} (h : bindL3 o f g = some t) : ∃ l, o = some l ∧ lpK l (fun s => f s.1 s.2.1 s.2.2) g = some t := Option.bind_eq_some_iff.mp h
theorem bndL4 {o : Option (Lp (α × β × γ × δ) R)} {f : α → β → γ → δ → Option T} (h : bindL4 o f g = some t) : ∃ l, o = some l ∧ lpK l (fun s => f s.1 s.2.1 s.2.2.1 s.2.2.2) g = some t := Option.bind_eq_some_iff.mp h
theorem bgo0 {f : Option T} (h : lpK (.go ()) (fun _ => f) g = some t) : f = some t := h
theorem bgo1 {f : α → Option T} {a : α} (h : lpK (.go a) f g = some t) : f a = some t := h
theorem bgo2 {f : α → β → Option T} {a : α} {b : β} (h : lpK (.go (a, b)) (fun s => f s.1 s.2) g = some t) : f a b = some t := h
theorem bgo3 {f : α → β → γ → Option T} {a : α} {b : β} {c : γ} (h : lpK (.go (a, b, c)) (fun s => f s.1 s.2.1 s.2.2) g = some t) : f a b c = some t := h
theorem bgo4 {f : α → β → γ → δ → Option T} {a : α} {b : β} {c : γ} {d : δ} (h : lpK (.go (a, b, c, d)) (fun s => f s.1 s.2.1 s.2.2.1 s.2.2.2) g = some t) : f a b c d = some t := h
theorem bret {S : Type} {f : S → Option T} (h : lpK (.ret r) f g = some t) : g r = some t := h
end
/-- ranges -/
def rangeL (lo : Int) (n : Nat) : List Int := (List.range n).map fun k => lo + (k : Nat)
theorem rangeL_at {lo : Int} {n i : Nat} (h : i < n) : (rangeL lo n)[i]? = some (lo + (i : Nat)) := by
  unfold rangeL
  rw [List.getElem?_map, List.getElem?_range h]
  rfl
theorem rangeL_len (lo : Int) (n : Nat) : (rangeL lo n).length = n := by unfold rangeL; simp
def rangeO (lo hi : Int) : Option (List Int) := if (-(2 ^ 62) ≤ lo ∧ lo < 2 ^ 62 ∧ -(2 ^ 62) ≤ hi ∧ hi < 2 ^ 62) ∧ (hi - lo).toNat ≤ sizeLine then some (rangeL lo (hi - lo).toNat) else none
theorem rangeO_ok {lo hi : Int} {l : List Int} (h : rangeO lo hi = some l) : ((-(2 ^ 62) ≤ lo ∧ lo < 2 ^ 62 ∧ -(2 ^ 62) ≤ hi ∧ hi < 2 ^ 62) ∧ (hi - lo).toNat ≤ sizeLine) ∧ rangeL lo (hi - lo).toNat = l := by
  unfold rangeO at h
  split at h
  · exact ⟨by assumption, Option.some.inj h⟩
  · cases h
def appL {α : Type} (xs : List α) (x : α) : Option (List α) := if xs.length < sizeLine then some (xs ++ [x]) else none
theorem appL_ok {α : Type} {xs r : List α} {x : α} (h : appL xs x = some r) : xs.length < sizeLine ∧ xs ++ [x] = r := by
  unfold appL at h
  split at h
  · exact ⟨by assumption, Option.some.inj h⟩
  · cases h
def conL {α : Type} (xs ys : List α) : Option (List α) := if xs.length + ys.length ≤ sizeLine then some (xs ++ ys) else none
theorem conL_ok {α : Type} {xs ys r : List α} (h : conL xs ys = some r) : xs.length + ys.length ≤ sizeLine ∧ xs ++ ys = r := by
  unfold conL at h
  split at h
  · exact ⟨by assumption, Option.some.inj h⟩
  · cases h
def cutL {α : Type} (xs : List α) (lo hi : Option Int) : List α := (xs.drop (HT.sIx xs.length 0 lo)).take (HT.sIx xs.length xs.length hi - HT.sIx xs.length 0 lo)
theorem str_at {x : Str} {i c : Nat} (h : x.cps[i]? = some c) : (tl x)[i]? = some c := by simpa [tl] using h
theorem str_size {x : Str} : x.cps.size = (tl x).length := by simp [tl]
theorem lt_line {a i n : Nat} (h : a ≤ i) (h2 : i < n) (h3 : n ≤ sizeLine) : a < sizeLine := by omega
theorem snoc_rest {α : Type} {ds rest res : List α} {x : α} (h : ds ++ (x :: rest) = res) : (ds ++ [x]) ++ rest = res := by rw [← h, List.append_assoc]; rfl
theorem sjoin {α : Type} {a b : α} (h : some a = some b) : a = b := Option.some.inj h
end G
/-! My base, part 5: more peeling, walks over texts, lists' operations. -/
namespace G
open PySem PySem.Spec PyProof.Rows L2 TL

section
variable {D : Ends} {σ : L2.St} {H : Hp} {t u : TS} {te : TE} {g : TG} {c : TT} {wi : TI} {i : Nat} {v : V} {k : L2.St → Hp → Prop}
theorem p_next (h : D.nx σ H) : tNext D σ H := h
theorem p_cont (h : D.ct σ H) : tCont D σ H := h
theorem p_brk (h : D.bk σ H) : tBreak D σ H := h
theorem p_name (h : k (σ.set i (some v)) H) : gName i v σ H k := h
theorem p_nm {v' : V} (e : v = v') (h : k (σ.set i (some v')) H) : gName i v σ H k := by subst e; exact h
theorem p_nx {f : L2.St → Hp → Prop} {r : VK} {bk ct : L2.St → Hp → Prop} (h : f σ H) : (Ends.mk f r bk ct).nx σ H := h
theorem p_yes {A B : Hp → Prop} (h : A H) : tYes σ H (fun b H3 => if b = true then A H3 else B H3) := h
theorem p_for (h : tFor wi g t D σ H) : tFor wi g t D σ H := h
theorem p_id (h : t D σ H) : t D σ H := h
end
theorem pjoin {α β : Type} {a c : α} {b d : β} (h : some (a, b) = some (c, d)) : a = c ∧ b = d := by
  injection h with h
  injection h with h1 h2
  exact ⟨h1, h2⟩
theorem pjoin3 {α β γ : Type} {a a' : α} {b b' : β} {c c' : γ} (h : some (a, b, c) = some (a', b', c')) : a = a' ∧ b = b' ∧ c = c' := by
  injection h with h
  injection h with h1 h2
  injection h2 with h2 h3
  exact ⟨h1, h2, h3⟩
theorem pjoin4 {α β γ δ : Type} {a a' : α} {b b' : β} {c c' : γ} {d d' : δ} (h : some (a, b, c, d) = some (a', b', c', d')) : a = a' ∧ b = b' ∧ c = c' ∧ d = d' := by
  injection h with h
  injection h with h1 h2
  injection h2 with h2 h3
  injection h3 with h3 h4
  exact ⟨h1, h2, h3, h4⟩
theorem pjoin5 {α β γ δ ε : Type} {a a' : α} {b b' : β} {c c' : γ} {d d' : δ} {e e' : ε} (h : some (a, b, c, d, e) = some (a', b', c', d', e')) : a = a' ∧ b = b' ∧ c = c' ∧ d = d' ∧ e = e' := by
  injection h with h
  injection h with h1 h2
  injection h2 with h2 h3
  injection h3 with h3 h4
  injection h4 with h4 h5
  exact ⟨h1, h2, h3, h4, h5⟩

/-! ### parts whose value is told -/
def tVal (t : TE) : TE := fun σ H Q => ∃ v, (∀ Q' : VK, Q' v H → t σ H Q') ∧ Q v H
def tValT (t : TT) : TT := fun σ H Q => ∃ b, (∀ Q' : Bool → Hp → Prop, Q' b H → t σ H Q') ∧ Q b H
section
variable {X : Cx}
theorem pe_val {e : Expr} {t : TE} (h : PE X e t) : PE X e (tVal t) := ⟨fun pins s σ H Q I q => by
  obtain ⟨v, k, q⟩ := q
  exact h.run pins s σ H Q I (k Q q)⟩
theorem pt_valT {e : Expr} {t : TT} (h : PT X e t) : PT X e (tValT t) := ⟨fun pins s σ H Q I q => by
  obtain ⟨v, k, q⟩ := q
  exact h.run pins s σ H Q I (k Q q)⟩
end
section
variable {a b : Bool} {H : Hp}
theorem qTv {Q : VK} (h : a = true) (q : Q (.bl (a && b)) H) : Q (.bl b) H := by subst h; exact q
theorem qFv {Q : VK} (h : a = false) (q : Q (.bl (a && b)) H) : Q (.bl false) H := by subst h; exact q
theorem qTb {Q : Bool → Hp → Prop} (h : a = true) (q : Q (a && b) H) : Q b H := by subst h; exact q
theorem qFb {Q : Bool → Hp → Prop} (h : a = false) (q : Q (a && b) H) : Q false H := by subst h; exact q
end
section
variable {F H : Hp} {σ : L2.St} {ta tb : TE} {Q : VK} {a b : Bool}
theorem andV_t (h1 : EvB M0 F H (fun Q => ta σ H Q) a) (h2 : a = true → ∀ F1 H1, Gr M0 F H F1 H1 → EvB M0 F1 H1 (fun Q => tb σ H1 Q) b)
    (q : ∀ F' H', Gr M0 F H F' H' → Q (.bl (a && b)) H') : tAndV ta tb σ H Q :=
  andV_g (c := a && b) h1 (fun e F1 H1 g => by rw [e]; exact h2 e F1 H1 g) (fun e => by rw [e]; rfl) q
theorem orV_t (h1 : EvB M0 F H (fun Q => ta σ H Q) a) (h2 : a = false → ∀ F1 H1, Gr M0 F H F1 H1 → EvB M0 F1 H1 (fun Q => tb σ H1 Q) b)
    (q : ∀ F' H', Gr M0 F H F' H' → Q (.bl (a || b)) H') : tOrV ta tb σ H Q :=
  orV_g (c := a || b) h1 (fun e F1 H1 g => by rw [e]; exact h2 e F1 H1 g) (fun e => by rw [e]; rfl) q
theorem andT_t {ta tb : TT} {Q : Bool → Hp → Prop} (h1 : EvT M0 F H (fun Q => ta σ H Q) a) (h2 : a = true → ∀ F1 H1, Gr M0 F H F1 H1 → EvT M0 F1 H1 (fun Q => tb σ H1 Q) b)
    (q : ∀ F' H', Gr M0 F H F' H' → Q (a && b) H') : tAnd ta tb σ H Q :=
  andT_g (c := a && b) h1 (fun e F1 H1 g => by rw [e]; exact h2 e F1 H1 g) (fun e => by rw [e]; rfl) q
theorem orT_t {ta tb : TT} {Q : Bool → Hp → Prop} (h1 : EvT M0 F H (fun Q => ta σ H Q) a) (h2 : a = false → ∀ F1 H1, Gr M0 F H F1 H1 → EvT M0 F1 H1 (fun Q => tb σ H1 Q) b)
    (q : ∀ F' H', Gr M0 F H F' H' → Q (a || b) H') : tOr ta tb σ H Q :=
  orT_g (c := a || b) h1 (fun e F1 H1 g => by rw [e]; exact h2 e F1 H1 g) (fun e => by rw [e]; rfl) q
end

/-! ### e if c else e', behind its test -/
section
variable {M : Addr → Prop} {F H : Hp} {σ : L2.St} {ta tb : TE} {Q : VK} {c : Bool}
theorem ifJ {P : V → Hp → Hp → Prop} (h2 : c = true → ∀ Q : VK, (∀ v F' H', Gr M F H F' H' → P v F' H' → Q v H') → ta σ H Q)
    (h3 : c = false → ∀ Q : VK, (∀ v F' H', Gr M F H F' H' → P v F' H' → Q v H') → tb σ H Q)
    (q : ∀ v F' H', Gr M F H F' H' → P v F' H' → Q v H') : if c = true then ta σ H Q else tb σ H Q := by
  cases e : c with
  | true => exact iteT (h2 e Q q)
  | false => exact iteF (h3 e Q q)
end

section
variable {M : Addr → Prop} {F H : Hp} {σ : L2.St} {tb : TE} {ub : TT} {Q : VK} {U : Bool → Hp → Prop} {a c : Bool} {P : Hp → Hp → Prop}
theorem andJV (h2 : a = true → ∀ Q : VK, (∀ F' H', Gr M F H F' H' → P F' H' → Q (.bl c) H') → tb σ H Q) (h3 : a = false → c = false ∧ P F H) (fh : Same F H)
    (q : ∀ F' H', Gr M F H F' H' → P F' H' → Q (.bl c) H') : if a = true then tb σ H Q else Q (.bl false) H := by
  cases e : a with
  | true => exact iteT (h2 e Q q)
  | false =>
    obtain ⟨ec, p⟩ := h3 e
    subst ec
    exact iteF (q _ _ (Gr.refl fh) p)
theorem orJV (h2 : a = false → ∀ Q : VK, (∀ F' H', Gr M F H F' H' → P F' H' → Q (.bl c) H') → tb σ H Q) (h3 : a = true → c = true ∧ P F H) (fh : Same F H)
    (q : ∀ F' H', Gr M F H F' H' → P F' H' → Q (.bl c) H') : if a = true then Q (.bl true) H else tb σ H Q := by
  cases e : a with
  | false => exact iteF (h2 e Q q)
  | true =>
    obtain ⟨ec, p⟩ := h3 e
    subst ec
    exact iteT (q _ _ (Gr.refl fh) p)
theorem andJT (h2 : a = true → ∀ U : Bool → Hp → Prop, (∀ F' H', Gr M F H F' H' → P F' H' → U c H') → ub σ H U) (h3 : a = false → c = false ∧ P F H) (fh : Same F H)
    (q : ∀ F' H', Gr M F H F' H' → P F' H' → U c H') : if a = true then ub σ H U else U false H := by
  cases e : a with
  | true => exact iteT (h2 e U q)
  | false =>
    obtain ⟨ec, p⟩ := h3 e
    subst ec
    exact iteF (q _ _ (Gr.refl fh) p)
theorem orJT (h2 : a = false → ∀ U : Bool → Hp → Prop, (∀ F' H', Gr M F H F' H' → P F' H' → U c H') → ub σ H U) (h3 : a = true → c = true ∧ P F H) (fh : Same F H)
    (q : ∀ F' H', Gr M F H F' H' → P F' H' → U c H') : if a = true then U true H else ub σ H U := by
  cases e : a with
  | false => exact iteF (h2 e U q)
  | true =>
    obtain ⟨ec, p⟩ := h3 e
    subst ec
    exact iteT (q _ _ (Gr.refl fh) p)
end
theorem qOv {a b : Bool} {H : Hp} {Q : VK} (h : a = false) (q : Q (.bl (a || b)) H) : Q (.bl b) H := by subst h; exact q
theorem qOb {a b : Bool} {H : Hp} {Q : Bool → Hp → Prop} (h : a = false) (q : Q (a || b) H) : Q b H := by subst h; exact q
theorem anF {a b : Bool} (h : a = false) : (a && b) = false := by rw [h]; rfl
theorem orTt {a b : Bool} (h : a = true) : (a || b) = true := by rw [h]; rfl
theorem ifTr {c : Bool} {A B : Prop} (h : c = true) (q : A) : if c = true then A else B := by rw [if_pos h]; exact q
theorem ifFr {c : Bool} {A B : Prop} (h : c = false) (q : B) : if c = true then A else B := by rw [if_neg (by rw [h]; decide)]; exact q

/-! ### None -/
class NN (α : Type) [Enc α] : Prop where
  ne : ∀ x : α, Enc.d x ≠ .none
instance : NN Int := ⟨fun _ => nofun⟩
instance : NN Bool := ⟨fun _ => nofun⟩
instance : NN Str := ⟨fun _ => nofun⟩
instance {α : Type} [Enc α] : NN (List α) := ⟨fun _ => nofun⟩
instance {α : Type} [Enc α] : NN (VT α) := ⟨fun _ => nofun⟩
instance {α β : Type} [Enc α] [Enc β] : NN (α × β) := ⟨fun _ => nofun⟩
instance {α β γ : Type} [Enc α] [Enc β] [Enc γ] : NN (T3 α β γ) := ⟨fun _ => nofun⟩
instance {α β γ δ : Type} [Enc α] [Enc β] [Enc γ] [Enc δ] : NN (T4 α β γ δ) := ⟨fun _ => nofun⟩
instance {α β γ δ ε : Type} [Enc α] [Enc β] [Enc γ] [Enc δ] [Enc ε] : NN (T5 α β γ δ ε) := ⟨fun _ => nofun⟩
theorem isN_eq {α : Type} [Enc α] [NN α] {K : PySem.W.Frag} {F : Hp} {v : V} {o : Option α} (r : R K F v o) : decide (v = .non) = o.isNone := by
  cases o with
  | none =>
    have e := R.non_v r
    subst e
    rfl
  | some x =>
    have r' : Rp K F v (Enc.d x) := r
    have h : v ≠ .non := fun e => by
      subst e
      have n := NN.ne x
      revert r' n
      generalize Enc.d x = d
      intro r' n
      cases r'
      exact n rfl
    exact decide_eq_false h

/-! ### walks over texts -/
theorem str_lt {x : Str} {i c : Nat} (h : x.cps[i]? = some c) : i < x.cps.size := (Array.getElem?_eq_some_iff.mp h).1
theorem for_str {z : Str} {g : TG} {tb : TS} {D : Ends} {σ : L2.St} {H : Hp} (Pv : Nat → L2.St → Hp → Prop) (h0 : Pv 0 σ H)
    (hs : ∀ i c σ H, z.cps[i]? = some c → Pv i σ H → g (.str (sgn c)) σ H fun σ2 H2 => tb { D with nx := Pv (i + 1), ct := Pv (i + 1), bk := D.nx } σ2 H2) (hd : ∀ σ H, Pv z.cps.size σ H → D.nx σ H) :
    ∃ W : Nat → Nat → L2.St → Hp → Prop, (∃ m, W 0 m σ H) ∧ ∀ i m σ H, W i m σ H →
      ((Its z).stop i H ∧ D.nx σ H) ∨ ((Its z).go i H ∧ ∃ N : L2.St → Hp → Prop, (∀ σ' H', N σ' H' → ∃ m', m' < m ∧ W (i + 1) m' σ' H') ∧ ∀ x H', (Its z).yld i H x H' → g x σ H' fun σ2 H2 => tb { D with nx := N, ct := N, bk := D.nx } σ2 H2) :=
  for_it walk_str Pv h0 (fun _ _ _ _ _ => trivial) (fun i x σ H H' _ p y => by
    obtain ⟨rfl, c, hc, rfl⟩ := y
    exact hs i c σ _ hc p) hd
theorem lc_str {z : Str} {g : TG} {tt : TT} {te : TE} {vs : List Nat} {σ : L2.St} {H1 : Hp} {D : Addr} {Qd : Hp → Prop} (Pv : Nat → Hp → Prop) (h0 : Pv 0 (upd H1 D (.lst [])))
    (hs : ∀ i c H, z.cps[i]? = some c → Pv i H → g (.str (sgn c)) (wipe σ vs) H fun σ2 H2 => wipe σ2 vs = wipe σ vs ∧ tt σ2 H2 fun b H3 =>
      if b = true then te σ2 H3 fun y H4 => ∃ acc, H4 D = some (.lst acc) ∧ acc.length < sizeLine ∧ Pv (i + 1) (upd H4 D (.lst (acc ++ [y]))) else Pv (i + 1) H3) (hd : ∀ H, Pv z.cps.size H → Qd H) :
    ∃ W : Nat → Nat → Hp → Prop, (∃ m, W 0 m (upd H1 D (.lst []))) ∧ ∀ i m H, W i m H →
      ((Its z).stop i H ∧ Qd H) ∨ ((Its z).go i H ∧ ∃ Nx : Hp → Prop, (∀ H', Nx H' → ∃ m', m' < m ∧ W (i + 1) m' H') ∧ ∀ x H', (Its z).yld i H x H' → g x (wipe σ vs) H' fun σ2 H2 => wipe σ2 vs = wipe σ vs ∧ tt σ2 H2 fun b H3 =>
        if b = true then te σ2 H3 fun y H4 => ∃ acc, H4 D = some (.lst acc) ∧ acc.length < sizeLine ∧ Nx (upd H4 D (.lst (acc ++ [y]))) else Nx H3) :=
  lc_it walk_str Pv h0 (fun _ _ _ _ => trivial) (fun i x H H' _ p y => by
    obtain ⟨rfl, c, hc, rfl⟩ := y
    exact hs i c _ hc p) hd

/-! ### ranges from nought, lists -/
def rangeO1 (hi : Int) : Option (List Int) := if (-(2 ^ 62) ≤ hi ∧ hi < 2 ^ 62) ∧ hi.toNat ≤ sizeLine then some (rangeL 0 hi.toNat) else none
theorem rangeO1_ok {hi : Int} {l : List Int} (h : rangeO1 hi = some l) : ((-(2 ^ 62) ≤ hi ∧ hi < 2 ^ 62) ∧ hi.toNat ≤ sizeLine) ∧ rangeL 0 hi.toNat = l := by
  unfold rangeO1 at h
  split at h
  · exact ⟨by assumption, Option.some.inj h⟩
  · cases h
def setL {α : Type} (xs : List α) (i : Int) (x : α) : Option (List α) := (ixN xs.length i).map fun j => xs.set j x
theorem setL_ok {α : Type} {xs r : List α} {i : Int} {x : α} (h : setL xs i x = some r) : ∃ j, ixN xs.length i = some j ∧ xs.set j x = r := by
  unfold setL at h
  cases e : ixN xs.length i with
  | none => rw [e] at h; cases h
  | some j =>
    rw [e] at h
    exact ⟨j, rfl, Option.some.inj h⟩
/-- sorted whole numbers -/
def sortI (xs : List Int) : List Int := xs.mergeSort fun a b => decide (a ≤ b)
theorem sortI_perm (xs : List Int) : (sortI xs).Perm xs := List.mergeSort_perm _ _
theorem sortI_sorted (xs : List Int) : (sortI xs).Pairwise (· ≤ ·) := by
  have h := List.pairwise_mergeSort (le := fun a b : Int => decide (a ≤ b)) (fun a b c h1 h2 => decide_eq_true (Int.le_trans (of_decide_eq_true h1) (of_decide_eq_true h2)))
    (fun a b => by
      rcases Int.le_total a b with h | h
      · rw [decide_eq_true h]; rfl
      · rw [decide_eq_true h, Bool.or_true]) xs
  exact h.imp fun h => of_decide_eq_true h
theorem sortI_len (xs : List Int) : (sortI xs).length = xs.length := (sortI_perm xs).length_eq
theorem sorted_uniq : ∀ {xs ys : List Int}, xs.Perm ys → xs.Pairwise (· ≤ ·) → ys.Pairwise (· ≤ ·) → xs = ys
  | xs, ys, h, h1, h2 => h.eq_of_pairwise (le := (· ≤ ·)) (fun a b _ _ h3 h4 => Int.le_antisymm h3 h4) h1 h2
theorem sortI_uniq {ns ys : List Int} (h : ys.Perm ns) (h2 : ys.Pairwise (· ≤ ·)) : sortI ns = ys :=
  sorted_uniq ((sortI_perm ns).trans h.symm) (sortI_sorted ns) h2

/-! ### texts: what is stripped, joined -/
theorem GS.sub {x y : Str} (g : GS x) (h : ∀ c ∈ tl y, c ∈ tl x) (hl : (tl y).length ≤ (tl x).length) : GS y := GS.of (Nat.le_trans hl g.tll) fun c hc => g.mem c (h c hc)
theorem GS.join {sep r : Str} {ys : List Str} (gs : GS sep) (gy : ∀ y ∈ ys, GS y) (h : joinS sep ys = some r) : GS r := by
  obtain ⟨h1, rfl⟩ := joinS_ok h
  refine GS.of ?_ fun c hc => ?_
  · rw [← len_tl]
    have e : Txt.join sep ys = Str.join sep ys := by unfold Txt.join; exact StrLaws.glued_eq_join sep ys
    rw [e]
    refine Nat.le_trans (StrLaws.join_length_le sep ys) ?_
    rw [sizeLine_eq]
    exact h1
  · rw [tl_joinS] at hc
    have mem : ∀ (l : List (List Nat)), c ∈ joinL (tl sep) l → c ∈ tl sep ∨ ∃ p ∈ l, c ∈ p := by
      intro l
      induction l with
      | nil => intro h; cases h
      | cons p r ih =>
        cases r with
        | nil => intro h; exact .inr ⟨p, List.mem_singleton.mpr rfl, h⟩
        | cons q r =>
          intro h
          rcases List.mem_append.mp (show c ∈ p ++ (tl sep ++ joinL (tl sep) (q :: r)) from h) with h | h
          · exact .inr ⟨p, List.mem_cons_self .., h⟩
          · rcases List.mem_append.mp h with h | h
            · exact .inl h
            · rcases ih h with h | ⟨p', hp, h⟩
              · exact .inl h
              · exact .inr ⟨p', List.mem_cons_of_mem _ hp, h⟩
    rcases mem _ hc with h | ⟨p, hp, h⟩
    · exact gs.mem c h
    · obtain ⟨y, hy, rfl⟩ := List.mem_map.mp hp
      exact (gy y hy).mem c h
theorem GS.strip {x : Str} (g : GS x) (y : Str) : GS (Txt.stripChars x y) := by
  unfold Txt.stripChars Txt.stripBy
  split
  · exact g
  · have e : ∀ i j, tl (Builtin.Str.strSub x i j) = ((tl x).take j).drop i := fun i j => by
      show (x.cps.extract i j).toList = _
      rw [List.drop_take]
      simp [tl]
    refine g.sub (fun c hc => ?_) ?_
    · unfold stripped at hc
      rw [e] at hc
      exact List.mem_of_mem_take (List.mem_of_mem_drop hc)
    · unfold stripped
      rw [e, List.length_drop, List.length_take]
      omega
end G
/-! My base, part 6: defs by data. -/
namespace G
open PySem PySem.Spec PyProof.Rows L2 TL
abbrev FnP (K : PySem.W.Frag) (x : Str) (st : Stmt) (f : Addr) (fd : FuncData) : Prop := FunD K x x (defArgs st) (defBody st) (defScope st) [] [] f fd
section
variable {P : Program} {w : World} {K : PySem.W.Frag} {mg : Str → Option Value} {base : Heap} {x qual : Str} {params : Arguments} {body : List Stmt} {scope : Scope} {f : Addr} {fd : FuncData}
theorem fd_ok {N ps : List Str} {k : Nat} {sp : Sp} (F : FunD K x qual params body scope [] [] f fd) (S : FnScope N ps scope) (len : ∀ vs H Q E, sp vs H Q E → vs.length = ps.length)
    (hbody : ∀ (cdv : Value) (A : Around) (outer : List Env) (s : Shared) (H : Hp) (vs : List V) (Q : VK) (E : XK), Room k (A.deeper (envOfC qual scope s.heap.objs.size f cdv)) → sp vs H Q E →
      ∃ t, PSs (cxOf CX0 P w K mg base N qual scope f cdv A outer s H E).nox body t ∧ t { nx := fun _ H' => Q .non H', rt := Q } (start N vs) H) : FnOk P w K mg base CX0 (k + 1) f fd ps sp :=
  FunD.ok F S len fun cdv A outer s H vs Q E hr hsp =>
    let ⟨t, h, q⟩ := hbody cdv A outer s H vs Q E hr hsp
    ⟨t, h.nox, q⟩
theorem fd_plain (F : FunD K x qual params body scope [] [] f fd) : ∃ kV doc pm an cdv ct, fd = PySem.W.fnOf x qual params body scope .none kV doc pm an cdv ct := by
  obtain ⟨oc, od, dV, kV, doc, pm, an, cdv, ct, osl, rfl, lk, hcd, hD, hK⟩ := F.ex
  rcases hD with ⟨_, rfl⟩ | ⟨e, _⟩
  · exact ⟨kV, doc, pm, an, cdv, ct, rfl⟩
  · exact absurd rfl e
end
end G
/-! My base, part 7: a text turned round. -/
namespace G
open PySem PySem.Spec PyProof.Rows L2 TL
def revS (x : Str) : Str := ⟨(tl x).reverse.toArray⟩
theorem tl_revS (x : Str) : tl (revS x) = (tl x).reverse := by unfold revS tl; simp
theorem revS_len (x : Str) : (revS x).length = x.length := by rw [len_tl, tl_revS, List.length_reverse, ← len_tl]
theorem GS.rev {x : Str} (g : GS x) : GS (revS x) := g.sub (fun c hc => by rw [tl_revS] at hc; exact List.mem_reverse.mp hc) (by rw [tl_revS, List.length_reverse]; exact Nat.le_refl _)
theorem rev_pick (z : Str) : (⟨((Builtin.Str.strSliceIndices none none (-1) z.length).filterMap (z.cps[·]?)).toArray⟩ : Str) = revS z := by
  have h := step_rev_list z default
  unfold Txt.sliceBy slicePicked at h
  rw [if_neg (by intro h; exact absurd (Bool.and_eq_true_iff.mp h).1 (by decide))] at h
  unfold revS
  have e2 : (tl z).reverse = (List.range z.length).map fun k => z.cps.getD (z.length - 1 - k) 0 := by
    refine List.ext_getElem (by rw [List.length_reverse, List.length_map, List.length_range, ← len_tl]) fun i h1 h2 => ?_
    rw [List.getElem_reverse, List.getElem_map, List.getElem_range]
    have hi : i < z.length := by rw [List.length_reverse, ← len_tl] at h1; exact h1
    have hz : z.cps.size = z.length := rfl
    simp only [tl, Array.getElem_toList, Array.length_toList]
    rw [Array.getD, dif_pos (show z.length - 1 - i < z.cps.size by omega)]
    rfl
  rw [e2, ← h]
  rfl
def tRevS (te : TE) : TE := fun σ H Q => te σ H fun x H1 => ∃ z, x = .str z ∧ z.length ≤ sizeLine ∧ Q (.str (revS z)) H1
theorem pe_revS {X : Cx} {e : Expr} {te : TE} {k : Nat} {p1 p2 p3 pos : Pos} (he : PE X e te) : PE X (.Subscript e (.Slice none none (some (.UnaryOp .USub (.Constant (.int 1) k p1) p2)) p3) pos) (tRevS te) := by
  refine ⟨fun pins s σ H Q I h => ?_⟩
  refine Subscript_ (thn (he.run pins s σ H _ I h) fun v s1 ⟨x, H1, I1, r1, q1⟩ => ?_)
  obtain ⟨z, ex, hz, q⟩ := q1
  subst ex
  obtain ⟨t, rfl⟩ := r1
  have hst : PO X (some (.UnaryOp .USub (.Constant (.int 1) k p1) p2)) (tPart (tUn (rU fun i => .int (-i)) (tC (.int 1)))) := po_some (pe_un un_neg pe_int)
  refine wpAny_Slice (thn (po_none.run pins s1 σ H1 (fun o H2 => o = none ∧ H2 = H1) I1 ⟨rfl, rfl⟩) fun vl s2 ⟨l, H2, I2, pl, el, e2⟩ => ?_)
  subst el e2
  refine thn (po_none.run pins s2 σ H2 (fun o H3 => o = none ∧ H3 = H2) I2 ⟨rfl, rfl⟩) fun vu s3 ⟨u, H3, I3, pu, eu, e3⟩ => ?_
  subst eu e3
  refine thn (hst.run pins s3 σ H3 (fun o H4 => o = some (-1) ∧ H4 = H3) I3 ⟨1, rfl, -1, rfl, rfl, rfl⟩) fun vs s4 ⟨o, H4, I4, ps, eo, e4⟩ => ?_
  subst eo e4
  have I5 : Inv X pins σ H4 { s4 with heap := s4.heap.push { cls := .type "slice", data := .fields #[vl, vu, vs] } } := I4.kept (t' := s4.toks) fun b ob q => Heap.get?_push_of_some _ q
  cases pl
  cases pu
  cases ps with | int _ t2 => ?_
  show wpAny (model X.prog X.w) X.A (subscriptTail e (.Slice none none (some (.UnaryOp .USub (.Constant (.int 1) k p1) p2)) p3) (.str z t) (.ref s4.heap.objs.size)) (EP X pins σ Q) X.xe { s4 with heap := s4.heap.push { cls := .type "slice", data := .fields #[.none, .none, .int (-1) t2] } }
  refine tail_any (ops := [.str z t, .ref s4.heap.objs.size]) (typeIs_str _ _ _) F.slot_str_getitem.lookup ?_ (by with_unfolding_all rfl)
  obtain ⟨os, hos, hcs, hds⟩ := Heap.IsSliceOf.new s4.heap Value.none Value.none (Value.int (-1) t2)
  refine wpAny_getItem_str_slice (l := none) (u := none) (st := some (-1, t2)) ⟨os, hos, hcs, hds⟩ rfl ?_
  have e1 : sliceMade z t none none (some (-1, t2)) = .str (revS z) := by
    unfold sliceMade
    rw [if_neg (by intro h; exact absurd (show ((-1 : Int) == 1) = true from (Bool.and_eq_true_iff.mp h).1) (by decide))]
    exact congrArg Made.str (rev_pick z)
  rw [e1]
  have hl : (revS z).length ≤ sizeLine := by rw [revS_len]; exact hz
  exact ⟨hl, .str _, _, I5.tok _, ⟨_, rfl⟩, q⟩
end G
/-! My base, part 8: which type a thing is of; alike. -/
namespace G
open PySem PySem.Spec PyProof.Rows L2 TL
def tyD : PyData → String
  | .none => "NoneType"
  | .bool _ => "bool"
  | .int _ => "int"
  | .str _ => "str"
  | .list _ => "list"
  | .tuple _ => "tuple"
  | .dict _ => "dict"
def isSq (d : PyData) : Bool := tyD d == "list" || tyD d == "tuple"
section
variable {K : PySem.W.Frag} {F H : Hp} {v : V} {d : PyData} {a : Addr} {xs : List V}
theorem SqL.ty (h : SqL K H a xs) : TyX K H (.ref a) (.type "list") := by
  rcases h with (h | ⟨o, h⟩) | ⟨o, its, n, e, c, _⟩
  · exact .base (.lst h)
  · exact .base (.frz h)
  · exact .kList e c
theorem SqT.ty (h : SqT K H a xs) : TyX K H (.ref a) (.type "tuple") := by
  rcases h with (h | ⟨o, h⟩) | ⟨o, its, n, e, c, _⟩
  · exact .base (.tup h)
  · exact .fTuple h
  · exact .kTuple e c
theorem Rp.ty (h : Rp K H v d) : TyX K H v (.type (tyD d)) := by
  cases h with
  | non => exact .base .non
  | bl b => exact .base (.bl b)
  | int i => exact .base (.int i)
  | str x _ => exact .base (.str x)
  | lst hs _ _ => exact SqL.ty hs
  | tup hs _ _ => exact SqT.ty hs
/-- the six kinds -/
def Knd (s : String) : Prop := s = "NoneType" ∨ s = "bool" ∨ s = "int" ∨ s = "str" ∨ s = "list" ∨ s = "tuple"
theorem Rp.knd (h : Rp K H v d) : Knd (tyD d) := by
  cases h with
  | non => exact .inl rfl
  | bl _ => exact .inr (.inl rfl)
  | int _ => exact .inr (.inr (.inl rfl))
  | str _ _ => exact .inr (.inr (.inr (.inl rfl)))
  | lst _ _ _ => exact .inr (.inr (.inr (.inr (.inl rfl))))
  | tup _ _ _ => exact .inr (.inr (.inr (.inr (.inr rfl))))
theorem kit_two (s : String) (b c : Bool) (h1 : kitB s "list" = some b) (h2 : kitB s "tuple" = some c) : PySem.W.kitAny K (.type s) [.type "list", .type "tuple"] = some (b || c) := by
  refine kitAny_cons (b := b) (kit_ty h1) (fun hb => ?_) (fun hb => by rw [hb]; rfl)
  refine kitAny_cons (b := c) (kit_ty h2) (fun hc => ?_) (fun hc => by rw [hc, Bool.or_true])
  rw [hb, hc]
  exact kitAny_nil
theorem kit_lt {s : String} (h : Knd s) : PySem.W.kitAny K (.type s) [.type "list", .type "tuple"] = some (s == "list" || s == "tuple") := by
  rcases h with rfl | rfl | rfl | rfl | rfl | rfl <;> exact kit_two _ _ _ (by decide +kernel) (by decide +kernel)
theorem kit_one {s : String} (h : Knd s) (t : String) (ht : t = "list" ∨ t = "bool" ∨ t = "str") : PySem.W.kitOne K (.type s) (.type t) = some (s == t) := by
  rcases ht with rfl | rfl | rfl <;> rcases h with rfl | rfl | rfl | rfl | rfl | rfl <;> exact kit_ty (by decide +kernel)
theorem kit_int {s : String} (h : Knd s) : PySem.W.kitOne K (.type s) (.type "int") = some (s == "int" || s == "bool") := by
  rcases h with rfl | rfl | rfl | rfl | rfl | rfl <;> exact kit_ty (by decide +kernel)
end
/-- no value of the data is deeper than n -/
theorem depth_list {n : Nat} {ds : List PyData} (h : PyData.depthAll ds + 1 ≤ n + 1) {d : PyData} (hd : d ∈ ds) : d.depth ≤ n := by
  have : ∀ (l : List PyData), d ∈ l → d.depth ≤ PyData.depthAll l := by
    intro l
    induction l with
    | nil => intro h; cases h
    | cons x l ih =>
      intro h
      simp only [PyData.depthAll]
      rcases List.mem_cons.mp h with rfl | h
      · omega
      · have := ih h
        omega
  have := this ds hd
  omega
def sp_alike (n : Nat) (K : PySem.W.Frag) : Sp := fun vs H Q _ => ∃ (v1 v2 : V) (d : PyData), vs = [v1, v2] ∧ Rp K H v1 d ∧ Rp K H v2 d ∧ d.depth ≤ n ∧ (∀ F' H', Gr M0 H H F' H' → Q (.bl true) H')
theorem al_sc {K : PySem.W.Frag} {H : Hp} {v1 v2 : V} {d : PyData} (r1 : Rp K H v1 d) (r2 : Rp K H v2 d) (hc : (tyD d == "list" || tyD d == "tuple") = false) : v1 = v2 ∧ scal v1 v2 = true := by
  cases r1 with
  | non => cases r2; exact ⟨rfl, rfl⟩
  | bl b => cases r2; exact ⟨rfl, rfl⟩
  | int i => cases r2; exact ⟨rfl, rfl⟩
  | str x _ => cases r2; exact ⟨rfl, rfl⟩
  | lst h1 h2 h3 => exact absurd hc (by simp [tyD])
  | tup h1 h2 h3 => exact absurd hc (by simp [tyD])
theorem ix_go {K : PySem.W.Frag} {H : Hp} {p : Addr} {xs : List V} {i : Nat} {v : V} {Q : VK} (h : SqL K H p xs ∨ SqT K H p xs) (e : xs[i]? = some v) (q : Q v H) : rIx K (.ref p) (.int (0 + (i : Nat))) H Q := by
  have ha : atI xs (0 + (i : Nat)) = some v := by rw [Int.zero_add]; exact atI_nat e
  rcases h with h | h
  · exact .inl ⟨p, xs, _, v, rfl, rfl, h, ha, q⟩
  · exact .inr (.inl ⟨p, xs, _, v, rfl, rfl, h, ha, q⟩)
theorem sq_up {K : PySem.W.Frag} {H H' : Hp} {p : Addr} {xs : List V} (h : SqL K H p xs ∨ SqT K H p xs) (e : Same H H') : SqL K H' p xs ∨ SqT K H' p xs := by
  rcases h with h | h
  · exact .inl (e.seq h)
  · exact .inr (SqT_mono e h)
def spA : Nat → PySem.W.Frag → Sp
  | 0, _ => fun _ _ _ _ => False
  | n + 1, K => sp_alike n K
theorem al_sq {K : PySem.W.Frag} {H : Hp} {v1 v2 : V} {d : PyData} {n : Nat} (r1 : Rp K H v1 d) (r2 : Rp K H v2 d) (hc : (tyD d == "list" || tyD d == "tuple") = true) (hd : d.depth ≤ n) :
    ∃ a1 ws1 a2 ws2 ds m, v1 = .ref a1 ∧ v2 = .ref a2 ∧ (SqL K H a1 ws1 ∨ SqT K H a1 ws1) ∧ (SqL K H a2 ws2 ∨ SqT K H a2 ws2) ∧ ws1.length ≤ sizeLine ∧ ws2.length ≤ sizeLine ∧ RpA K H ws1 ds ∧ RpA K H ws2 ds ∧ n = m + 1 ∧ ∀ d ∈ ds, d.depth ≤ m := by
  cases r1 with
  | non => exact absurd hc (by decide)
  | bl b => exact absurd hc (by simp [tyD])
  | int i => exact absurd hc (by simp [tyD])
  | str x _ => exact absurd hc (by simp [tyD])
  | lst h1 h2 h3 =>
    cases r2 with
    | lst k1 k2 k3 =>
      cases n with
      | zero => exact absurd hd (Nat.not_succ_le_zero _)
      | succ m => exact ⟨_, _, _, _, _, m, rfl, rfl, .inl h1, .inl k1, h2, k2, h3, k3, rfl, fun d hd2 => depth_list hd hd2⟩
  | tup h1 h2 h3 =>
    cases r2 with
    | tup k1 k2 k3 =>
      cases n with
      | zero => exact absurd hd (Nat.not_succ_le_zero _)
      | succ m => exact ⟨_, _, _, _, _, m, rfl, rfl, .inr h1, .inr k1, h2, k2, h3, k3, rfl, fun d hd2 => depth_list hd hd2⟩
theorem R.of_eq {α : Type} [Enc α] {K : PySem.W.Frag} {F : Hp} {v : V} {x y : α} (h : x = y) (r : R K F v y) : R K F v x := by rw [h]; exact r
theorem retQ {e : Bool} {Q : VK} {H : Hp} (h : e = true) (q : Q (.bl true) H) : Q (.bl e) H := by rw [h]; exact q
def m_l_alike {α : Type} [DecidableEq α] (x y : α) : Option Bool := if x = y then some true else none
theorem alike_ok {α : Type} [DecidableEq α] {x y : α} {r : Bool} (h : m_l_alike x y = some r) : x = y ∧ true = r := by
  unfold m_l_alike at h
  split at h
  · exact ⟨by assumption, Option.some.inj h⟩
  · cases h
theorem op_powW {X : Cx} : OpR X (binaryOp .Pow) (rI (fun i j => 0 ≤ j ∧ (Builtin.Int.intBits i : Int) * j ≤ 2 ^ 27) fun i j => .int (i ^ j.toNat)) := opI fun _ _ _ _ _ _ _ hc q => pow_int hc.1 hc.2 q
end G
/-! My base, part 9: parts of a text. -/
namespace G
open PySem PySem.Spec PyProof.Rows L2 TL
theorem GS.sub_ {x : Str} (g : GS x) (i j : Nat) : GS (Builtin.Str.strSub x i j) := by
  have e : tl (Builtin.Str.strSub x i j) = ((tl x).take j).drop i := by
    show (x.cps.extract i j).toList = _
    rw [List.drop_take]
    simp [tl]
  refine g.sub (fun c hc => ?_) ?_
  · rw [e] at hc
    exact List.mem_of_mem_take (List.mem_of_mem_drop hc)
  · rw [e, List.length_drop, List.length_take]
    omega
theorem GS.empty : GS Str.empty := ⟨Nat.zero_le _, by decide +kernel⟩
theorem GS.part {x y : Str} (gx : GS x) (gy : GS y) : GS (Txt.partition x y).1 ∧ GS (Txt.partition x y).2.1 ∧ GS (Txt.partition x y).2.2 := by
  unfold Txt.partition
  split
  · exact ⟨gx.sub_ _ _, gy, gx.sub_ _ _⟩
  · exact ⟨gx, .empty, .empty⟩
def partS (x y : Str) : T3 Str Str Str := ⟨(Txt.partition x y).1, (Txt.partition x y).2.1, (Txt.partition x y).2.2⟩
theorem lpgo {S R T : Type} {s : S} {f : S → Option T} {g : R → Option T} {t : T} (h : lpK (.go s) f g = some t) : f s = some t := h
end G
/-! Plain laws: how the makings come out. -/
namespace G
open PySem PySem.Spec PyProof.Rows L2 TL
section
variable {α β γ δ S : Type} {I : S → Prop}
def O1 (o : Option α) (P : α → Prop) : Prop := ∃ a, o = some a ∧ P a
def O2 (I : S → Prop) (o : Option (α × S)) (P : α → Prop) : Prop := ∃ a b, o = some (a, b) ∧ I b ∧ P a
theorem O1.ret {a : α} {P : α → Prop} (h : P a) : O1 (some a) P := ⟨a, rfl, h⟩
theorem O1.imp {o : Option α} {P Q : α → Prop} (h : O1 o P) (k : ∀ a, P a → Q a) : O1 o Q := let ⟨a, e, p⟩ := h; ⟨a, e, k a p⟩
theorem O1.bind {o : Option α} {f : α → Option β} {P : α → Prop} {Q : β → Prop} (h : O1 o P) (k : ∀ a, P a → O1 (f a) Q) : O1 (Option.bind o f) Q := by
  obtain ⟨a, rfl, p⟩ := h
  exact k a p
theorem O2.ret {a : α} {b : S} {P : α → Prop} (hb : I b) (h : P a) : O2 I (some (a, b)) P := ⟨a, b, rfl, hb, h⟩
theorem O2.imp {o : Option (α × S)} {P Q : α → Prop} (h : O2 I o P) (k : ∀ a, P a → Q a) : O2 I o Q := let ⟨a, b, e, i, p⟩ := h; ⟨a, b, e, i, k a p⟩
theorem O2.bind1 {o : Option α} {f : α → Option (β × S)} {P : α → Prop} {Q : β → Prop} (h : O1 o P) (k : ∀ a, P a → O2 I (f a) Q) : O2 I (Option.bind o f) Q := by
  obtain ⟨a, rfl, p⟩ := h
  exact k a p
theorem O2.ite {c : Bool} {x y : Option (α × S)} {P : α → Prop} (h1 : c = true → O2 I x P) (h2 : c = false → O2 I y P) : O2 I (if c = true then x else y) P := by
  cases c with
  | true => exact h1 rfl
  | false => exact h2 rfl
theorem O1.ite {c : Bool} {x y : Option α} {P : α → Prop} (h1 : c = true → O1 x P) (h2 : c = false → O1 y P) : O1 (if c = true then x else y) P := by
  cases c with
  | true => exact h1 rfl
  | false => exact h2 rfl
end
section
variable {α β : Type} {S : Type} {I : S → Prop}
theorem O2.bind {o : Option (α × S)} {f : α → S → Option (β × S)} {P : α → Prop} {Q : β → Prop} (h : O2 I o P) (k : ∀ a b, I b → P a → O2 I (f a b) Q) : O2 I (bind2 o f) Q := by
  obtain ⟨a, b, rfl, i, p⟩ := h
  exact k a b i p
end
section
variable {α β γ δ R T S : Type} {I : S → Prop} {Q : T → Prop} {g : R → Option (T × S)}
theorem O2.bL0 {o : Option (Lp Unit R)} {f : Option (T × S)} (e : o = some (.go ())) (k : O2 I f Q) : O2 I (bindL0 o f g) Q := by subst e; exact k
theorem O2.bL1 {o : Option (Lp α R)} {f : α → Option (T × S)} {a : α} (e : o = some (.go a)) (k : O2 I (f a) Q) : O2 I (bindL1 o f g) Q := by subst e; exact k
theorem O2.bL2 {o : Option (Lp (α × β) R)} {f : α → β → Option (T × S)} {a : α} {b : β} (e : o = some (.go (a, b))) (k : O2 I (f a b) Q) : O2 I (bindL2 o f g) Q := by subst e; exact k
theorem O2.bL3 {o : Option (Lp (α × β × γ) R)} {f : α → β → γ → Option (T × S)} {a : α} {b : β} {c : γ} (e : o = some (.go (a, b, c))) (k : O2 I (f a b c) Q) : O2 I (bindL3 o f g) Q := by subst e; exact k
end
theorem O2.true_ {S : Type} {I : S → Prop} {o : Option (Bool × S)} (h : O2 I o (fun r => r = true)) : ∃ b, o = some (true, b) := by
  obtain ⟨r, b, e, _, rfl⟩ := h
  exact ⟨b, e⟩
/-! ### lists and texts -/
theorem atI_O {α : Type} {xs : List α} {i : Int} {P : α → Prop} (h0 : 0 ≤ i) (h1 : i < xs.length) (h : ∀ x ∈ xs, P x) : O1 (atI xs i) P := by
  obtain ⟨n, rfl⟩ := Int.eq_ofNat_of_zero_le h0
  have hn : n < xs.length := by omega
  have e : xs[n]? = some xs[n] := List.getElem?_eq_getElem hn
  exact ⟨_, atI_nat e, h _ (List.getElem_mem hn)⟩
theorem tl_inj {x y : Str} (h : tl x = tl y) : x = y := by
  obtain ⟨⟨l⟩⟩ := x
  obtain ⟨⟨m⟩⟩ := y
  have h' : l = m := h
  rw [h']
theorem eqS_tl {x y : Str} : eqS x y = decide (tl x = tl y) := by
  rw [eqS_iff]
  exact decide_eq_decide.mpr ⟨fun h => by rw [h], tl_inj⟩
theorem tl_cut {z : Str} {lo hi : Option Int} : tl (cutS z lo hi) = ((tl z).drop (HT.sIx (tl z).length 0 lo)).take (HT.sIx (tl z).length (tl z).length hi - HT.sIx (tl z).length 0 lo) := by
  rw [← len_tl]
  unfold cutS tl
  rfl
theorem sIx_neg (n d : Nat) {k : Nat} (hk : 0 < k) : HT.sIx n d (some (-(k : Int))) = n - k := by
  show (if (-(k : Int)) < 0 then (-(k : Int) + (n : Int)).toNat else min (-(k : Int)).toNat n) = n - k
  rw [if_pos (by omega)]
  omega
theorem sIx_neg1 (n d : Nat) : HT.sIx n d (some (-1)) = n - 1 := sIx_neg n d (k := 1) (by decide)
theorem sIx_n (n d : Nat) : HT.sIx n d none = d := rfl
theorem tl_sgn (c : Nat) : tl (sgn c) = [c] := rfl
theorem catS_O {a b : Str} {P : Str → Prop} (h : (tl a).length + (tl b).length ≤ 16777216) (p : P (a ++ b)) : O1 (catS a b) P := by
  refine ⟨a ++ b, ?_, p⟩
  unfold catS
  rw [if_pos (by rw [len_tl, len_tl, sizeLine_eq]; exact h)]
theorem mulS_O {x : Str} {n : Int} {P : Str → Prop} (h1 : -(2 ^ 63 : Int) ≤ n) (h2 : n ≤ 16777216) (h3 : (tl x).length * n.toNat ≤ 16777216) (p : P (Txt.mul x n)) : O1 (mulS x n) P := by
  refine ⟨_, ?_, p⟩
  unfold mulS
  rw [if_pos ⟨h1, h2, by rw [len_tl]; exact h3⟩]
theorem codeAt_O {x : Str} {i : Int} {P : Nat → Prop} (h0 : 0 ≤ i) (h1 : i < (tl x).length) (h : ∀ c ∈ tl x, P c) : O1 (codeAt x i) P := atI_O h0 h1 h
theorem rangeO1_O {n : Int} {P : List Int → Prop} (h : n ≤ 16777216) (h0 : -(2 ^ 62) ≤ n) (p : P (rangeL 0 n.toNat)) : O1 (rangeO1 n) P := by
  refine ⟨_, ?_, p⟩
  unfold rangeO1
  rw [if_pos ⟨⟨h0, by omega⟩, by rw [sizeLine_eq]; omega⟩]
theorem joinS_O {sep : Str} {ys : List Str} {P : Str → Prop} (h : (ys.map fun y => (tl y).length).sum + ys.length * (tl sep).length ≤ 16777216) (p : P (Txt.join sep ys)) : O1 (joinS sep ys) P := by
  refine ⟨_, ?_, p⟩
  unfold joinS
  rw [if_pos]
  have e : (ys.map fun y => y.length) = ys.map fun y => (tl y).length := List.map_congr_left fun y _ => len_tl y
  show (ys.map fun y => y.length).sum + ys.length * sep.length ≤ _
  rw [e, len_tl]
  exact h
theorem tl_empty : tl ("" : Str) = [] := by decide +kernel
theorem joinL_nil : ∀ (ys : List (List Nat)), joinL [] ys = ys.flatten
  | [] => rfl
  | [y] => by show y = [y].flatten; simp
  | y :: z :: r => by
    show y ++ ([] ++ joinL [] (z :: r)) = _
    rw [joinL_nil (z :: r)]
    simp
theorem tl_join0 (ys : List Str) : tl (Txt.join ("" : Str) ys) = (ys.map tl).flatten := by rw [tl_joinS, tl_empty, joinL_nil]
/-- a text of no more than n signs -/
def Sh (n : Nat) (x : Str) : Prop := (tl x).length ≤ n
theorem Sh.mono {n m : Nat} {x : Str} (h : Sh n x) (k : n ≤ m) : Sh m x := Nat.le_trans h k
theorem Sh.cut {n : Nat} {x : Str} {lo hi : Option Int} (h : Sh n x) : Sh n (cutS x lo hi) := by
  unfold Sh at *
  rw [tl_cut, List.length_take, List.length_drop]
  omega
theorem Sh.sgn {c : Nat} : Sh 1 (sgn c) := Nat.le_refl 1
theorem Sh.rev {n : Nat} {x : Str} (h : Sh n x) : Sh n (revS x) := by
  unfold Sh at *
  rw [tl_revS, List.length_reverse]
  exact h
theorem Sh.cat {n m : Nat} {a b : Str} (ha : Sh n a) (hb : Sh m b) : Sh (n + m) (a ++ b) := by
  unfold Sh at *
  rw [tl_append, List.length_append]
  omega
theorem Sh.cat_O {n m : Nat} {a b : Str} (ha : Sh n a) (hb : Sh m b) (h : n + m ≤ 16777216 := by decide) : O1 (catS a b) (Sh (n + m)) :=
  catS_O (Nat.le_trans (Nat.add_le_add ha hb) h) (ha.cat hb)
theorem tl_mul_len (x : Str) (n : Int) : (tl (Txt.mul x n)).length = n.toNat * (tl x).length := by
  rw [tl_mul, List.length_flatten, List.map_replicate, List.sum_replicate_nat]
theorem Sh.mul_O {n m : Nat} {x : Str} {i : Int} (hx : Sh n x) (h0 : -1000000 ≤ i) (h1 : i ≤ (m : Nat)) (h2 : m * n ≤ 16777216) (h3 : m ≤ 16777216) : O1 (mulS x i) (Sh (m * n)) := by
  have h4 : i.toNat ≤ m := by omega
  have h5 : i.toNat * (tl x).length ≤ m * n := Nat.mul_le_mul h4 hx
  refine mulS_O (by omega) (by omega) (by rw [Nat.mul_comm]; omega) ?_
  unfold Sh
  rw [tl_mul_len]
  exact h5
theorem sh_sum {n : Nat} : ∀ {ys : List Str}, (∀ y ∈ ys, Sh n y) → (ys.map fun y => (tl y).length).sum ≤ ys.length * n
  | [], _ => by simp
  | y :: ys, h => by
    have h1 := sh_sum (n := n) (ys := ys) fun z hz => h z (List.mem_cons_of_mem _ hz)
    have h2 : (tl y).length ≤ n := h y (List.mem_cons_self ..)
    rw [List.map_cons, List.sum_cons, List.length_cons, Nat.add_mul, Nat.one_mul]
    omega
theorem Sh.join_O {n m : Nat} {ys : List Str} (h : ∀ y ∈ ys, Sh n y) (hm : ys.length ≤ m) (h2 : m * n ≤ 16777216) : O1 (joinS ("" : Str) ys) (Sh (m * n)) := by
  have h1 := sh_sum h
  have h3 : ys.length * n ≤ m * n := Nat.mul_le_mul_right n hm
  have e : (tl ("" : Str)).length = 0 := by rw [tl_empty]; rfl
  refine joinS_O (by rw [e]; omega) ?_
  unfold Sh
  rw [tl_join0, List.length_flatten, List.map_map]
  exact Nat.le_trans h1 h3
theorem rangeL_length {lo : Int} {n : Nat} : (rangeL lo n).length = n := rangeL_len lo n
/-! ### == of data -/
class EqvD (α : Type) [Enc α] : Prop where
  iff : ∀ x y : α, PyData.eqv (Enc.d x) (Enc.d y) = true ↔ x = y
instance : EqvD Int := ⟨fun x y => by show (x == y) = true ↔ _; exact beq_iff_eq⟩
instance : EqvD Bool := ⟨fun x y => by show (x == y) = true ↔ _; exact beq_iff_eq⟩
instance : EqvD Str := ⟨fun x y => by show (x == y) = true ↔ _; exact beq_iff_eq⟩
instance {α : Type} [Enc α] [EqvD α] [NN α] : EqvD (Option α) := ⟨fun x y => by
  cases x with
  | none =>
    cases y with
    | none => exact ⟨fun _ => rfl, fun _ => rfl⟩
    | some y =>
      have n := NN.ne y
      refine ⟨fun h => ?_, (fun h => nomatch h)⟩
      have h' : PyData.eqv .none (Enc.d y) = true := h
      revert h' n
      generalize Enc.d y = d
      intro n h'
      cases d <;> first | exact absurd rfl n | cases h'
  | some x =>
    cases y with
    | none =>
      have n := NN.ne x
      refine ⟨fun h => ?_, (fun h => nomatch h)⟩
      have h' : PyData.eqv (Enc.d x) .none = true := h
      revert h' n
      generalize Enc.d x = d
      intro n h'
      cases d <;> first | exact absurd rfl n | cases h'
    | some y => exact ⟨fun h => congrArg some ((EqvD.iff x y).mp h), fun h => (EqvD.iff x y).mpr (Option.some.inj h)⟩⟩
theorem eqvAll_iff {α : Type} [Enc α] [EqvD α] : ∀ xs ys : List α, PyData.eqvAll (xs.map Enc.d) (ys.map Enc.d) = true ↔ xs = ys
  | [], [] => ⟨fun _ => rfl, fun _ => rfl⟩
  | [], _ :: _ => ⟨(fun h => nomatch h), (fun h => nomatch h)⟩
  | _ :: _, [] => ⟨(fun h => nomatch h), (fun h => nomatch h)⟩
  | x :: xs, y :: ys => by
    show (PyData.eqv (Enc.d x) (Enc.d y) && PyData.eqvAll (xs.map Enc.d) (ys.map Enc.d)) = true ↔ _
    rw [Bool.and_eq_true, EqvD.iff, eqvAll_iff xs ys, List.cons.injEq]
instance {α : Type} [Enc α] [EqvD α] : EqvD (List α) := ⟨fun x y => eqvAll_iff x y⟩
instance {α : Type} [Enc α] [EqvD α] : EqvD (VT α) := ⟨fun x y => by
  obtain ⟨x⟩ := x
  obtain ⟨y⟩ := y
  rw [VT.mk.injEq]
  exact eqvAll_iff x y⟩
instance {α β : Type} [Enc α] [Enc β] [EqvD α] [EqvD β] : EqvD (α × β) := ⟨fun x y => by
  obtain ⟨a, b⟩ := x
  obtain ⟨c, d⟩ := y
  show (PyData.eqv (Enc.d a) (Enc.d c) && (PyData.eqv (Enc.d b) (Enc.d d) && true)) = true ↔ _
  rw [Bool.and_true, Bool.and_eq_true, EqvD.iff, EqvD.iff, Prod.mk.injEq]⟩
instance {α β γ : Type} [Enc α] [Enc β] [Enc γ] [EqvD α] [EqvD β] [EqvD γ] : EqvD (T3 α β γ) := ⟨fun x y => by
  obtain ⟨a, b, e⟩ := x
  obtain ⟨c, d, f⟩ := y
  show (PyData.eqv (Enc.d a) (Enc.d c) && (PyData.eqv (Enc.d b) (Enc.d d) && (PyData.eqv (Enc.d e) (Enc.d f) && true))) = true ↔ _
  rw [Bool.and_true, Bool.and_eq_true, Bool.and_eq_true, EqvD.iff, EqvD.iff, EqvD.iff, T3.mk.injEq]⟩
instance {α β γ δ : Type} [Enc α] [Enc β] [Enc γ] [Enc δ] [EqvD α] [EqvD β] [EqvD γ] [EqvD δ] : EqvD (T4 α β γ δ) := ⟨fun x y => by
  obtain ⟨a, b, e, g⟩ := x
  obtain ⟨c, d, f, h⟩ := y
  show (PyData.eqv (Enc.d a) (Enc.d c) && (PyData.eqv (Enc.d b) (Enc.d d) && (PyData.eqv (Enc.d e) (Enc.d f) && (PyData.eqv (Enc.d g) (Enc.d h) && true)))) = true ↔ _
  rw [Bool.and_true, Bool.and_eq_true, Bool.and_eq_true, Bool.and_eq_true, EqvD.iff, EqvD.iff, EqvD.iff, EqvD.iff, T4.mk.injEq]⟩
theorem eqD_iff {α : Type} [Enc α] [EqvD α] {x y : α} : eqD x y = true ↔ x = y := EqvD.iff x y
theorem eqD_dec {α : Type} [Enc α] [EqvD α] [DecidableEq α] {x y : α} : eqD x y = decide (x = y) := by
  rw [Bool.eq_iff_iff, eqD_iff, decide_eq_true_iff]
theorem eqD_refl {α : Type} [Enc α] [EqvD α] (x : α) : eqD x x = true := eqD_iff.mpr rfl
theorem eqD_false {α : Type} [Enc α] [EqvD α] {x y : α} (h : x ≠ y) : eqD x y = false := Bool.eq_false_iff.mpr fun e => h (eqD_iff.mp e)
theorem alike_self {α : Type} [DecidableEq α] (x : α) : m_l_alike x x = some true := by
  unfold m_l_alike
  rw [if_pos rfl]
theorem bind2_some {α β γ : Type} {a : α} {b : β} {f : α → β → Option γ} : bind2 (some (a, b)) f = f a b := rfl
theorem notT {α : Type} {a b : α} : (if (!true) = true then a else b) = b := rfl
theorem alike_O {α : Type} [DecidableEq α] {x y : α} {P : Bool → Prop} (h : x = y) (p : P true) : O1 (m_l_alike x y) P := by
  refine ⟨true, ?_, p⟩
  unfold m_l_alike
  rw [if_pos h]
end G
/-! Plain laws: patterns, their worth, addresses written. -/
namespace G
open PySem PySem.Spec PyProof.Rows L2 TL
/-- a sign of '01' -/
def isB (c : Nat) : Bool := decide (c ∈ [48, 49])
theorem isB_iff {c : Nat} : isB c = true ↔ c = 48 ∨ c = 49 := by unfold isB; simp
theorem tl01 : tl ("01" : Str) = [48, 49] := by decide +kernel
theorem tlStar : tl ("*" : Str) = [42] := by decide +kernel
theorem tl0 : tl ("0" : Str) = [48] := by decide +kernel
theorem tl1 : tl ("1" : Str) = [49] := by decide +kernel
def Bits (bs : List Nat) : Prop := ∀ c ∈ bs, isB c = true
theorem Bits.nil : Bits [] := fun _ h => nomatch h
theorem Bits.app {a b : List Nat} (ha : Bits a) (hb : Bits b) : Bits (a ++ b) := fun c h => (List.mem_append.mp h).elim (ha c) (hb c)
theorem Bits.take {a : List Nat} (n : Nat) (ha : Bits a) : Bits (a.take n) := fun c h => ha c (List.mem_of_mem_take h)
theorem Bits.drop {a : List Nat} (n : Nat) (ha : Bits a) : Bits (a.drop n) := fun c h => ha c (List.mem_of_mem_drop h)
theorem Bits.one {c : Nat} (h : isB c = true) : Bits [c] := fun d hd => by rw [List.mem_singleton.mp hd]; exact h
theorem Bits.mem01 {c : Nat} (h : c ∈ tl ("01" : Str)) : isB c = true := by rw [tl01] at h; exact decide_eq_true h
theorem Bits.no42 {a : List Nat} (ha : Bits a) : 42 ∉ a := fun h => absurd (ha 42 h) (by decide)
/-- the pattern of w signs that bits bs make -/
def patL (w : Nat) (bs : List Nat) : List Nat := bs ++ (if bs.length < w then [42] else [])
structure Pat (w : Nat) (bs : List Nat) (x : Str) : Prop where
  bits : Bits bs
  le : bs.length ≤ w
  eq : tl x = patL w bs
theorem tl_strip (x y : Str) : tl (Txt.stripChars x y) = ((tl x).take (stripHi y.cps.contains true x (stripLo y.cps.contains true x))).drop (stripLo y.cps.contains true x) := by
  unfold Txt.stripChars
  rw [stripBy_eq]
  show (x.cps.extract _ _).toList = _
  rw [List.drop_take]
  simp [tl]
theorem tw0 {p : Nat → Bool} : ∀ l : List Nat, (∀ c, l.head? = some c → p c = false) → l.takeWhile p = []
  | [], _ => rfl
  | c :: r, h => by rw [List.takeWhile_cons, if_neg (by rw [h c rfl]; exact Bool.false_ne_true)]
theorem strip_star {x : Str} {bs st : List Nat} (e : tl x = bs ++ st) (h : 42 ∉ bs) (hs : st = [] ∨ st = [42]) : tl (Txt.stripChars x ("*" : Str)) = bs := by
  have hc : ∀ c : Nat, (("*" : Str)).cps.contains c = decide (c = 42) := fun c => by
    have e1 : (("*" : Str)).cps = #[42] := by decide +kernel
    rw [e1]
    simp [Bool.beq_eq_decide_eq]
  rw [tl_strip]
  generalize hg : (("*" : Str)).cps.contains = g at *
  have hx : x.cps.toList = bs ++ st := e
  have hlen : x.length = bs.length + st.length := by rw [len_tl, e, List.length_append]
  cases bs with
  | nil =>
    rcases hs with rfl | rfl
    · rw [e]; simp
    · have h1 : stripLo g true x = 1 := by
        unfold stripLo
        rw [if_pos rfl, hx]
        show (List.takeWhile g [42]).length = 1
        rw [List.takeWhile_cons, if_pos (by rw [hc]; decide)]
        rfl
      rw [h1, e]
      rw [List.drop_eq_nil_iff, List.length_take]
      exact Nat.min_le_right _ _
  | cons c r =>
    have hc42 : g c = false := by rw [hc]; exact decide_eq_false fun z => h (by rw [z]; exact List.mem_cons_self ..)
    have h1 : stripLo g true x = 0 := by
      unfold stripLo
      rw [if_pos rfl, hx]
      show (List.takeWhile g (c :: (r ++ st))).length = 0
      rw [List.takeWhile_cons, if_neg (by rw [hc42]; decide)]
      rfl
    have hlast : ∀ l : List Nat, 42 ∉ l → l.reverse.takeWhile g = [] := fun l hl => tw0 _ fun d hd => by
      rw [hc]
      refine decide_eq_false fun z => hl ?_
      rw [← z]
      exact List.mem_reverse.mp (List.mem_of_mem_head? hd)
    have h2 : stripHi g true x 0 = (c :: r).length := by
      unfold stripHi
      rw [if_pos rfl, hx, List.drop_zero, hlen]
      rcases hs with rfl | rfl
      · rw [List.append_nil, hlast _ h]
        simp
      · rw [List.reverse_append]
        show _ - (List.takeWhile g (42 :: (c :: r).reverse)).length = _
        rw [List.takeWhile_cons, if_pos (by rw [hc]; decide), hlast _ h]
        simp
    rw [h1, h2, e, List.drop_zero, List.take_left]
theorem part_star {x : Str} {bs st : List Nat} (e : tl x = bs ++ st) (h : 42 ∉ bs) (hs : st = [] ∨ st = [42]) : tl (partS x ("*" : Str)).a = bs := by
  have ex : x = ⟨bs.toArray⟩ ++ (⟨st.toArray⟩ : Str) := tl_inj (by rw [tl_append, e])
  have hb : 42 ∉ tl (⟨bs.toArray⟩ : Str) := by simpa [tl] using h
  rcases hs with rfl | rfl
  · have e2 : x = ⟨bs.toArray⟩ := tl_inj (by rw [e]; simp [tl])
    show tl (Txt.partition x ("*" : Str)).1 = bs
    rw [e2, TL.partition_none tlStar hb]
  · have e2 : x = (⟨bs.toArray⟩ : Str) ++ ("*" : Str) ++ Str.empty := tl_inj (by rw [tl_append, tl_append, tlStar, e]; simp [tl, Str.empty])
    show tl (Txt.partition x ("*" : Str)).1 = bs
    rw [e2, TL.partition_app tlStar hb]
theorem Pat.strip {w : Nat} {bs : List Nat} {x : Str} (p : Pat w bs x) : tl (Txt.stripChars x ("*" : Str)) = bs := by
  refine strip_star (st := if bs.length < w then [42] else []) p.eq p.bits.no42 ?_
  split
  · exact .inr rfl
  · exact .inl rfl
theorem Pat.part {w : Nat} {bs : List Nat} {x : Str} (p : Pat w bs x) : tl (partS x ("*" : Str)).a = bs := by
  refine part_star (st := if bs.length < w then [42] else []) p.eq p.bits.no42 ?_
  split
  · exact .inr rfl
  · exact .inl rfl
theorem Pat.len {w : Nat} {bs : List Nat} {x : Str} (p : Pat w bs x) : (tl x).length ≤ w := by
  rw [p.eq, patL, List.length_append]
  have := p.le
  split
  · simp; omega
  · simp; omega
/-! ### worth -/
def wr (bs : List Nat) : Nat := bs.foldl (fun n c => 2 * n + (if c = 49 then 1 else 0)) 0
theorem wr_from (bs : List Nat) : ∀ a : Nat, bs.foldl (fun n c => 2 * n + (if c = 49 then 1 else 0)) a = a * 2 ^ bs.length + wr bs := by
  induction bs with
  | nil => intro a; simp [wr]
  | cons c bs ih =>
    intro a
    have h0 := ih (2 * 0 + (if c = 49 then 1 else 0))
    show List.foldl _ (2 * a + (if c = 49 then 1 else 0)) bs = _
    rw [ih]
    have h1 : wr (c :: bs) = (2 * 0 + (if c = 49 then 1 else 0)) * 2 ^ bs.length + wr bs := h0
    rw [h1, List.length_cons, Nat.pow_succ]
    generalize (if c = 49 then 1 else 0) = d
    generalize 2 ^ bs.length = p
    rw [Nat.add_mul, Nat.mul_zero, Nat.zero_add, Nat.add_assoc, Nat.mul_comm 2 a, Nat.mul_assoc, Nat.mul_comm 2 p]
theorem wr_app (a b : List Nat) : wr (a ++ b) = wr a * 2 ^ b.length + wr b := by
  unfold wr
  rw [List.foldl_append]
  exact wr_from b _
theorem wr_cons (c : Nat) (b : List Nat) : wr (c :: b) = (if c = 49 then 1 else 0) * 2 ^ b.length + wr b := by
  have := wr_app [c] b
  rw [List.singleton_append] at this
  rw [this]
  congr 2
  simp [wr]
theorem wr_snoc (a : List Nat) (c : Nat) : wr (a ++ [c]) = 2 * wr a + (if c = 49 then 1 else 0) := by
  unfold wr
  rw [List.foldl_append]
  rfl
theorem wr_lt : ∀ bs : List Nat, wr bs < 2 ^ bs.length
  | [] => by decide
  | c :: bs => by
    have := wr_lt bs
    rw [wr_cons, List.length_cons, Nat.pow_succ]
    split <;> omega
theorem wr_zeros (k : Nat) : wr (List.replicate k 48) = 0 := by
  induction k with
  | zero => rfl
  | succ k ih => rw [List.replicate_succ, wr_cons, ih]; simp
theorem wr_ones (k : Nat) : wr (List.replicate k 49) + 1 = 2 ^ k := by
  induction k with
  | zero => rfl
  | succ k ih =>
    rw [List.replicate_succ, wr_cons, List.length_replicate, Nat.pow_succ, if_pos rfl]
    omega
theorem wr_inj : ∀ {a b : List Nat}, Bits a → Bits b → a.length = b.length → wr a = wr b → a = b
  | [], [], _, _, _, _ => rfl
  | [], _ :: _, _, _, h, _ => nomatch h
  | _ :: _, [], _, _, h, _ => nomatch h
  | c :: a, d :: b, ha, hb, h, e => by
    have hl : a.length = b.length := Nat.succ.inj h
    rw [wr_cons, wr_cons, hl] at e
    have h1 := wr_lt a
    have h2 := wr_lt b
    rw [hl] at h1
    have hc := isB_iff.mp (ha c (List.mem_cons_self ..))
    have hd := isB_iff.mp (hb d (List.mem_cons_self ..))
    have he : c = d ∧ wr a = wr b := by
      rcases hc with rfl | rfl <;> rcases hd with rfl | rfl <;> simp at e ⊢ <;> omega
    rw [he.1, wr_inj (fun x hx => ha x (List.mem_cons_of_mem _ hx)) (fun x hx => hb x (List.mem_cons_of_mem _ hx)) hl he.2]
theorem toI_sgn1 (c : Nat) : toI (eqS (sgn c) ("1" : Str)) = ((if c = 49 then 1 else 0 : Nat) : Int) := by
  rw [eqS_tl, tl_sgn, tl1]
  by_cases h : c = 49
  · subst h; rfl
  · rw [decide_eq_false (fun e => h (List.cons.inj e).1), if_neg h]; rfl
theorem log2_lt64 {a : Nat} (h : a < 2 ^ 64) : a.log2 < 64 := by
  by_cases h0 : a = 0
  · subst h0; decide
  · exact (Nat.log2_lt h0).mpr h
theorem mulI_nat {a b : Nat} (ha : a < 2 ^ 64) (hb : b < 2 ^ 64) : mulI (a : Int) (b : Int) = some ((a * b : Nat) : Int) := by
  unfold mulI
  have h1 := log2_lt64 ha
  have h2 := log2_lt64 hb
  rw [if_pos (by rw [Int.natAbs_natCast, Int.natAbs_natCast]; omega)]
  rfl
theorem shlI_one {k : Nat} (h : k ≤ 1000000) : shlI 1 (k : Int) = some ((2 ^ k : Nat) : Int) := by
  unfold shlI
  rw [if_pos ⟨by omega, by omega, by decide⟩, Int.one_mul, Int.toNat_natCast]
  simp
theorem shrI_nat {n k : Nat} : shrI (n : Int) (k : Int) = some ((n / 2 ^ k : Nat) : Int) := by
  unfold shrI
  rw [if_pos (by omega), Int.toNat_natCast]
  simp
theorem and_one (n : Nat) : Builtin.bitAnd (n : Int) 1 = ((n % 2 : Nat) : Int) := by
  have := Bits.bitAnd_mask (x := (n : Int)) 1 (by omega)
  rw [show ((2 : Int) ^ 1 - 1) = 1 by decide] at this
  rw [this]
  simp
theorem pow_lt64 {k : Nat} (h : k < 64) : 2 ^ k < 2 ^ 64 := Nat.pow_lt_pow_right (by decide) h
/-! ### an address written with w signs -/
def bin : Nat → Nat → List Nat
  | 0, _ => []
  | w + 1, n => bin w (n / 2) ++ [48 + n % 2]
theorem bin_len : ∀ w n : Nat, (bin w n).length = w
  | 0, _ => rfl
  | w + 1, n => by rw [bin, List.length_append, bin_len w]; rfl
theorem bin_bits : ∀ w n : Nat, Bits (bin w n)
  | 0, _ => Bits.nil
  | w + 1, n => (bin_bits w _).app (Bits.one (isB_iff.mpr (by have := Nat.mod_two_eq_zero_or_one n; omega)))
theorem wr_bin : ∀ w n : Nat, wr (bin w n) = n % 2 ^ w
  | 0, n => by rw [Nat.pow_zero, Nat.mod_one]; rfl
  | w + 1, n => by
    rw [bin, wr_snoc, wr_bin w, Nat.pow_succ, Nat.mul_comm (2 ^ w) 2, Nat.mod_mul]
    have : (if 48 + n % 2 = 49 then 1 else 0) = n % 2 := by
      have := Nat.mod_two_eq_zero_or_one n
      split <;> omega
    rw [this]
    omega
theorem bin_take : ∀ (k j n : Nat), (bin (k + j) n).take k = bin k (n / 2 ^ j)
  | k, 0, n => by
    rw [Nat.add_zero, Nat.pow_zero, Nat.div_one]
    exact List.take_of_length_le (by rw [bin_len]; exact Nat.le_refl _)
  | k, j + 1, n => by
    show (bin (k + j) (n / 2) ++ [48 + n % 2]).take k = _
    rw [List.take_append_of_le_length (by rw [bin_len]; omega), bin_take k j, Nat.div_div_eq_div_mul, Nat.pow_succ, Nat.mul_comm 2]
theorem bin_top : ∀ k n : Nat, bin (k + 1) n = (48 + n / 2 ^ k % 2) :: bin k n
  | 0, n => by rw [Nat.pow_zero, Nat.div_one]; rfl
  | k + 1, n => by
    rw [bin, bin_top k (n / 2), Nat.div_div_eq_div_mul, Nat.mul_comm 2, ← Nat.pow_succ]
    rfl
theorem code01 {d : Nat} (h : d < 2) : codeAt ("01" : Str) (d : Nat) = some (48 + d) := by
  have : d = 0 ∨ d = 1 := by omega
  rcases this with rfl | rfl
  · exact atI_nat (by rw [tl01]; rfl)
  · exact atI_nat (by rw [tl01]; rfl)
end G
namespace K02
open PySem PySem.Spec PyProof.Rows L2 TL G
def topS (i : Nat) : Stmt := PySem.Challenge.pw_wishnet_k02_spans_and_members.main.body.getD i (.Pass ⟨0, 0, 0, 0⟩)
abbrev s_bits_of : Stmt := topS 2
abbrev s_span_of : Stmt := topS 3
abbrev s_has : Stmt := topS 4
abbrev s_l_bag : Stmt := topS 6
abbrev s_l_draw : Stmt := topS 7
abbrev s_l_bits : Stmt := topS 8
abbrev s_l_worth : Stmt := topS 9
abbrev s_l_size : Stmt := topS 10
abbrev s_l_one : Stmt := topS 11
abbrev s_l_span : Stmt := topS 12
abbrev s_l_alike : Stmt := topS 13
abbrev s_l_writing : Stmt := topS 14
abbrev s_l_members_right : Stmt := topS 15
abbrev s_law : Stmt := topS 16
structure Txt (K : PySem.W.Frag) (mg : Str → Option Value) where
  a_bits_of : Addr
  d_bits_of : FuncData
  F_bits_of : FnP K "bits_of" s_bits_of a_bits_of d_bits_of
  g_bits_of : mg "bits_of" = some (.ref a_bits_of)
  a_span_of : Addr
  d_span_of : FuncData
  F_span_of : FnP K "span_of" s_span_of a_span_of d_span_of
  g_span_of : mg "span_of" = some (.ref a_span_of)
  a_has : Addr
  d_has : FuncData
  F_has : FnP K "has" s_has a_has d_has
  g_has : mg "has" = some (.ref a_has)
  a_l_bag : Addr
  d_l_bag : FuncData
  F_l_bag : FnP K "_law_bag" s_l_bag a_l_bag d_l_bag
  g_l_bag : mg "_law_bag" = some (.ref a_l_bag)
  a_l_draw : Addr
  d_l_draw : FuncData
  F_l_draw : FnP K "_law_draw" s_l_draw a_l_draw d_l_draw
  g_l_draw : mg "_law_draw" = some (.ref a_l_draw)
  a_l_bits : Addr
  d_l_bits : FuncData
  F_l_bits : FnP K "_law_bits" s_l_bits a_l_bits d_l_bits
  g_l_bits : mg "_law_bits" = some (.ref a_l_bits)
  a_l_worth : Addr
  d_l_worth : FuncData
  F_l_worth : FnP K "_law_worth" s_l_worth a_l_worth d_l_worth
  g_l_worth : mg "_law_worth" = some (.ref a_l_worth)
  a_l_size : Addr
  d_l_size : FuncData
  F_l_size : FnP K "_law_size" s_l_size a_l_size d_l_size
  g_l_size : mg "_law_size" = some (.ref a_l_size)
  a_l_one : Addr
  d_l_one : FuncData
  F_l_one : FnP K "_law_one" s_l_one a_l_one d_l_one
  g_l_one : mg "_law_one" = some (.ref a_l_one)
  a_l_span : Addr
  d_l_span : FuncData
  F_l_span : FnP K "_law_span" s_l_span a_l_span d_l_span
  g_l_span : mg "_law_span" = some (.ref a_l_span)
  a_l_alike : Addr
  d_l_alike : FuncData
  F_l_alike : FnP K "_law_alike" s_l_alike a_l_alike d_l_alike
  g_l_alike : mg "_law_alike" = some (.ref a_l_alike)
  a_l_writing : Addr
  d_l_writing : FuncData
  F_l_writing : FnP K "_law_writing" s_l_writing a_l_writing d_l_writing
  g_l_writing : mg "_law_writing" = some (.ref a_l_writing)
  a_l_members_right : Addr
  d_l_members_right : FuncData
  F_l_members_right : FnP K "_law_members_right" s_l_members_right a_l_members_right d_l_members_right
  g_l_members_right : mg "_law_members_right" = some (.ref a_l_members_right)
  a_law : Addr
  d_law : FuncData
  F_law : FnP K "law" s_law a_law d_law
  g_law : mg "law" = some (.ref a_law)
  n_abs : mg "abs" = none
  n_all : mg "all" = none
  n_bool : mg "bool" = none
  n_int : mg "int" = none
  n_isinstance : mg "isinstance" = none
  n_len : mg "len" = none
  n_list : mg "list" = none
  n_range : mg "range" = none
  n_str : mg "str" = none
  n_tuple : mg "tuple" = none
  t_STAR : Tok
  k_STAR : mg "STAR" = some (.str "*" t_STAR)
/-! ### the bag -/
structure BOk (b : Bag) : Prop where
  lo : 0 ≤ b.seed
  hi : b.seed < 2147483648
  len : b.cells.length ≤ 63
abbrev N_l_bag : List Str := ["_law_script", "_law_seed", "_law_cell"]
theorem sc_l_bag : FnScope N_l_bag ["_law_script"] (defScope s_l_bag) := ⟨rfl, rfl, rfl, by decide +kernel, rfl, by decide +kernel, by decide +kernel⟩
def sp_l_bag (K : PySem.W.Frag) : Sp := fun vs H Q _ => ∃ (a : Addr) (ns : List Int), vs = [.ref a] ∧ SqL K H a (ns.map V.int) ∧ ns.length ≤ 63 ∧ (∀ (B C : Addr) (b : Bag) (F H' : Hp), Same F H' → BagAt F H' B C b → BOk b → Q (.ref B) H')
/-! ### the draw -/
def skip0 : List Int → Nat → Nat
  | [], k => k
  | x :: r, k => if x = 0 then skip0 r (k + 1) else k
def stir (s c : Int) : Int := (s ^ 3 + 48271 * s + 2039 * c + 7) % 2147483647
def m_l_draw (b : Bag) (n : Int) : Option (Int × Bag) :=
  if (0 < n ∧ n.natAbs.log2 < 9000) ∧ (0 ≤ b.seed ∧ b.seed < 2147483648 ∧ b.cells.length ≤ sizeLine) then
    match b.cells[skip0 (b.cells.drop b.at_) b.at_]? with
    | some x => some (x % n, { b with at_ := skip0 (b.cells.drop b.at_) b.at_, cells := b.cells.set (skip0 (b.cells.drop b.at_) b.at_) (x / n) })
    | none => some (stir b.seed (b.cnt + 1) / 16 % n, { b with at_ := skip0 (b.cells.drop b.at_) b.at_, seed := stir b.seed (b.cnt + 1), cnt := b.cnt + 1 })
  else none
theorem BagAt.put {F H : Hp} {B C : Addr} {b b' : Bag} (a : BagAt F H B C b) (e : b'.cells = b.cells) : BagAt F (upd H B (.lst [.ref C, .int (b'.at_ : Nat), .int b'.seed, .int b'.cnt])) B C b' :=
  ⟨upd_same, by rw [upd_ne a.ne.symm, a.hC, e], a.ne, a.fB, a.fC⟩
theorem BagAt.cell {F H : Hp} {B C : Addr} {b : Bag} (a : BagAt F H B C b) (cs : List Int) : BagAt F (upd H C (.lst (cs.map V.int))) B C { b with cells := cs } :=
  ⟨by rw [upd_ne a.ne, a.hB], upd_same, a.ne, a.fB, a.fC⟩
theorem atI_map {xs : List Int} {k : Nat} {x : Int} (h : xs[k]? = some x) : atI (xs.map V.int) (k : Nat) = some (.int x) := atI_nat (by rw [List.getElem?_map, h]; rfl)
theorem ixN_nat {n k : Nat} (h : k < n) : ixN n (k : Nat) = some k := by unfold ixN; simp; omega
abbrev N_l_draw : List Str := ["_law_bag_here", "_law_many", "_law_left"]
theorem sc_l_draw : FnScope N_l_draw ["_law_bag_here", "_law_many"] (defScope s_l_draw) := ⟨rfl, rfl, rfl, by decide +kernel, rfl, by decide +kernel, by decide +kernel⟩
def sp_l_draw (K : PySem.W.Frag) : Sp := fun vs H Q _ => ∃ (F : Hp) (B C : Addr) (b : Bag) (y_many : Int) (r : Int) (b' : Bag), vs = [.ref B, .int y_many] ∧ Same F H ∧ BagAt F H B C b ∧ m_l_draw b y_many = some (r, b') ∧ (∀ F' H', Gr (Bc B C) F H F' H' → BagAt F' H' B C b' → Q (.int r) H')
/-! ### alike -/
abbrev N_l_alike : List Str := ["_law_found", "_law_due", "_law_k"]
theorem sc_l_alike : FnScope N_l_alike ["_law_found", "_law_due"] (defScope s_l_alike) := ⟨rfl, rfl, rfl, by decide +kernel, rfl, by decide +kernel, by decide +kernel⟩

/-! ### bits_of -/
def m_bits_of (x_pattern : Str) : Str :=
  (partS x_pattern ("*" : Str)).a
abbrev N_bits_of : List Str := ["pattern"]
theorem sc_bits_of : FnScope N_bits_of ["pattern"] (defScope s_bits_of) := ⟨rfl, rfl, rfl, by decide +kernel, rfl, by decide +kernel, by decide +kernel⟩
def sp_bits_of (K : PySem.W.Frag) : Sp := fun vs H Q _ => ∃ (x_pattern : Str), vs = [.str x_pattern] ∧ GS x_pattern ∧ (∀ F' H', Gr M0 H H F' H' → GS (m_bits_of x_pattern) → Q (.str (m_bits_of x_pattern)) H')
/-! ### span_of -/
def m_span_of_l1  : List Nat → Int → (Option (Int))
  | [], x_number => some x_number
  | e14 :: xs_, x_number =>
    Option.bind (some (((2 : Int) * x_number) + (toI (eqS (sgn e14) ("1" : Str))))) fun x_number16 =>
    m_span_of_l1  xs_ x_number16
def m_span_of (x_pattern : Str) (x_width : Int) : Option (Int × Int) :=
  Option.bind (some (m_bits_of x_pattern)) fun x_bits7 =>
  Option.bind (m_span_of_l1  (x_bits7).cps.toList (0 : Int)) fun x_number11 =>
  Option.bind (shlI (1 : Int) (x_width - ((x_bits7.length : Nat) : Int))) fun t27 =>
  Option.bind (mulI x_number11 t27) fun t32 =>
  Option.bind (mulI (x_number11 + (1 : Int)) t27) fun t35 =>
  some (t32, t35)
abbrev N_span_of : List Str := ["pattern", "width", "bits", "number", "sign", "size"]
theorem sc_span_of : FnScope N_span_of ["pattern", "width"] (defScope s_span_of) := ⟨rfl, rfl, rfl, by decide +kernel, rfl, by decide +kernel, by decide +kernel⟩
def sp_span_of (K : PySem.W.Frag) : Sp := fun vs H Q _ => ∃ (F : Hp) (x_pattern : Str) (x_width : Int) (r : (Int × Int)), vs = [.str x_pattern, .int x_width] ∧ Same F H ∧ GS x_pattern ∧ m_span_of x_pattern x_width = some r ∧ (∀ v F' H', Gr M0 F H F' H' → R K F' v r → Q v H')
/-! ### has -/
def m_has (x_pattern : Str) (x_address : Int) (x_width : Int) : Option Bool :=
  Option.bind (m_span_of x_pattern x_width) fun r1 =>
  some ((decide (r1.1 ≤ x_address)) && (decide (x_address < r1.2)))
abbrev N_has : List Str := ["pattern", "address", "width", "first", "behind"]
theorem sc_has : FnScope N_has ["pattern", "address", "width"] (defScope s_has) := ⟨rfl, rfl, rfl, by decide +kernel, rfl, by decide +kernel, by decide +kernel⟩
def sp_has (K : PySem.W.Frag) : Sp := fun vs H Q _ => ∃ (x_pattern : Str) (x_address : Int) (x_width : Int) (r : Bool), vs = [.str x_pattern, .int x_address, .int x_width] ∧ GS x_pattern ∧ m_has x_pattern x_address x_width = some r ∧ (∀ F' H', Gr M0 H H F' H' → Q (.bl r) H')
/-! ### l_bits -/
def m_l_bits_c1  : List Int → Bag → Option (List Str × Bag)
  | [], b => some ([], b)
  | e66 :: xs_, b =>
    bind2 (m_l_draw b (2 : Int)) fun r68 b69 =>
    Option.bind (codeAt ("01" : Str) r68) fun c78 =>
    bind2 (m_l_bits_c1  xs_ b69) fun rest81 b82 => some ((sgn c78) :: rest81, b82)
def m_l_bits (b : Bag) (y_size_here : Int) : Option (Str × Bag) :=
  bind2 (m_l_draw b (4 : Int)) fun r1 b2 =>
  if (eqI r1 (0 : Int)) then (bind2 (m_l_draw b2 (2 : Int)) fun r10 b11 =>
 Option.bind (codeAt ("01" : Str) r10) fun c19 =>
 bind2 (if (decide ((0 : Int) < y_size_here)) then (Option.bind (mulS (sgn c19) y_size_here) fun t26 => bind2 (m_l_draw b11 (2 : Int)) fun r29 b30 => Option.bind (codeAt ("01" : Str) r29) fun c39 => Option.bind (catS t26 (sgn c39)) fun t41 => some ((cutS t41 (some (1 : Int)) (some (y_size_here + (1 : Int)))), b30)) else ( some (("" : Str), b11))) fun c21 b22 =>
 some (c21, b22)) else (Option.bind (rangeO1 y_size_here) fun l53 =>
 bind2 (m_l_bits_c1  l53 b2) fun l62 b63 =>
 Option.bind (joinS ("" : Str) l62) fun t102 =>
 some (t102, b63))
abbrev N_l_bits : List Str := ["_law_bag_here", "_law_size_here", "_law_sign", "_law_k"]
theorem sc_l_bits : FnScope N_l_bits ["_law_bag_here", "_law_size_here"] (defScope s_l_bits) := ⟨rfl, rfl, rfl, by decide +kernel, rfl, by decide +kernel, by decide +kernel⟩
def sp_l_bits (K : PySem.W.Frag) : Sp := fun vs H Q _ => ∃ (F : Hp) (B C : Addr) (b : Bag) (y_size_here : Int) (r : Str) (b' : Bag), vs = [.ref B, .int y_size_here] ∧ Same F H ∧ BagAt F H B C b ∧ m_l_bits b y_size_here = some (r, b') ∧ (∀ F' H', Gr (Bc B C) F H F' H' → BagAt F' H' B C b' → GS r → Q (.str r) H')
/-! ### l_worth -/
def m_l_worth_l1  : List Nat → Int → (Option (Int))
  | [], y_found => some y_found
  | e4 :: xs_, y_found =>
    Option.bind (some ((y_found * (2 : Int)) + (toI (eqS (sgn e4) ("1" : Str))))) fun y_found6 =>
    m_l_worth_l1  xs_ y_found6
def m_l_worth (y_bits_here : Str) : Option Int :=
  Option.bind (m_l_worth_l1  (y_bits_here).cps.toList (0 : Int)) fun y_found1 =>
  some y_found1
abbrev N_l_worth : List Str := ["_law_bits_here", "_law_found", "_law_sign"]
theorem sc_l_worth : FnScope N_l_worth ["_law_bits_here"] (defScope s_l_worth) := ⟨rfl, rfl, rfl, by decide +kernel, rfl, by decide +kernel, by decide +kernel⟩
def sp_l_worth (K : PySem.W.Frag) : Sp := fun vs H Q _ => ∃ (y_bits_here : Str) (r : Int), vs = [.str y_bits_here] ∧ GS y_bits_here ∧ m_l_worth y_bits_here = some r ∧ (∀ F' H', Gr M0 H H F' H' → Q (.int r) H')
/-! ### l_size -/
def m_l_size (b : Bag)  : Option (Int × Bag) :=
  bind2 (m_l_draw b (6 : Int)) fun r1 b2 =>
  bind2 (m_l_draw b2 (30 : Int)) fun r10 b11 =>
  bind2 (m_l_draw b11 (3 : Int)) fun r19 b20 =>
  bind2 (m_l_draw b20 (4 : Int)) fun r35 b36 =>
  Option.bind (atI ([((1 : Int) + r1), ((1 : Int) + r10), (30 : Int), ((1 : Int) + r19)] : List Int) r35) fun t45 =>
  some (t45, b36)
abbrev N_l_size : List Str := ["_law_bag_here"]
theorem sc_l_size : FnScope N_l_size ["_law_bag_here"] (defScope s_l_size) := ⟨rfl, rfl, rfl, by decide +kernel, rfl, by decide +kernel, by decide +kernel⟩
def sp_l_size (K : PySem.W.Frag) : Sp := fun vs H Q _ => ∃ (F : Hp) (B C : Addr) (b : Bag) (r : Int) (b' : Bag), vs = [.ref B] ∧ Same F H ∧ BagAt F H B C b ∧ m_l_size b  = some (r, b') ∧ (∀ F' H', Gr (Bc B C) F H F' H' → BagAt F' H' B C b' → Q (.int r) H')
/-! ### l_one -/
def m_l_one (b : Bag) (y_size_here : Int) (y_some : (List Str)) : Option (Str × Bag) :=
  bind2 (m_l_draw b (y_size_here + (1 : Int))) fun r1 b2 =>
  bind2 (m_l_bits b2 r1) fun r10 b11 =>
  bind2 (m_l_draw b11 (5 : Int)) fun r19 b20 =>
  bind2 (if ((!eqD y_some ([] : (List Str))) && (decide (r19 < (3 : Int)))) then (bind2 (m_l_draw b20 (((y_some).length : Nat) : Int)) fun r52 b53 =>
 Option.bind (atI y_some r52) fun t62 =>
 Option.bind (some (Txt.stripChars t62 ("*" : Str))) fun y_near68 =>
 Option.bind (some (dgetS [(("0" : Str), ("1" : Str)), (("1" : Str), ("0" : Str))] (cutS y_near68 (some (-(1 : Int))) none) ("" : Str))) fun y_turned79 =>
 bind2 (m_l_draw b53 (((y_near68.length : Nat) : Int) + (1 : Int))) fun r83 b84 =>
 bind2 (m_l_draw b84 (2 : Int)) fun r93 b94 =>
 Option.bind (codeAt ("01" : Str) r93) fun c103 =>
 Option.bind (catS y_near68 (sgn c103)) fun t105 =>
 Option.bind (catS (cutS y_near68 none (some (-(1 : Int)))) y_turned79) fun t108 =>
 Option.bind (atI ([(cutS y_near68 none (some r83)), t105, t108] : List Str) r19) fun t120 =>
 some (t120, b94)) else (some (r10, b20))) fun y_bits_here28 b29 =>
  bind2 (if (eqI r19 (4 : Int)) then (bind2 (m_l_bits b29 (y_size_here - ((y_bits_here28.length : Nat) : Int))) fun r140 b141 =>
 Option.bind (catS y_bits_here28 r140) fun t149 =>
 some (t149, b141)) else (some (y_bits_here28, b29))) fun y_bits_here137 b138 =>
  Option.bind (some (cutS y_bits_here137 none (some y_size_here))) fun y_bits_here163 =>
  Option.bind (mulS ("*" : Str) (toI (decide (((y_bits_here163.length : Nat) : Int) < y_size_here)))) fun t167 =>
  Option.bind (catS y_bits_here163 t167) fun t170 =>
  some (t170, b138)
abbrev N_l_one : List Str := ["_law_bag_here", "_law_size_here", "_law_some", "_law_bits_here", "_law_pick", "_law_near", "_law_turned", "_law_cut"]
theorem sc_l_one : FnScope N_l_one ["_law_bag_here", "_law_size_here", "_law_some"] (defScope s_l_one) := ⟨rfl, rfl, rfl, by decide +kernel, rfl, by decide +kernel, by decide +kernel⟩
def sp_l_one (K : PySem.W.Frag) : Sp := fun vs H Q _ => ∃ (F : Hp) (B C : Addr) (b : Bag) (y_size_here : Int) (p_y_some : Addr) (ws_y_some : List V) (y_some : (List Str)) (r : Str) (b' : Bag), vs = [.ref B, .int y_size_here, .ref p_y_some] ∧ Same F H ∧ BagAt F H B C b ∧ SqL K H p_y_some ws_y_some ∧ ws_y_some.length ≤ sizeLine ∧ RL K F ws_y_some y_some ∧ ¬ (Bc B C) p_y_some ∧ m_l_one b y_size_here y_some = some (r, b') ∧ (∀ F' H', Gr (Bc B C) F H F' H' → BagAt F' H' B C b' → GS r → Q (.str r) H')
/-! ### l_span -/
def m_l_span (y_one_here : Str) (y_size_here : Int) : Option (Int × Int) :=
  Option.bind (some (Txt.stripChars y_one_here ("*" : Str))) fun y_bits_here1 =>
  Option.bind (some (y_size_here - ((y_bits_here1.length : Nat) : Int))) fun y_left5 =>
  Option.bind (mulS ("0" : Str) y_left5) fun t8 =>
  Option.bind (catS y_bits_here1 t8) fun t11 =>
  Option.bind (m_l_worth t11) fun r14 =>
  Option.bind (mulS ("1" : Str) y_left5) fun t21 =>
  Option.bind (catS y_bits_here1 t21) fun t24 =>
  Option.bind (m_l_worth t24) fun r27 =>
  some (r14, (r27 + (1 : Int)))
abbrev N_l_span : List Str := ["_law_one_here", "_law_size_here", "_law_bits_here", "_law_left"]
theorem sc_l_span : FnScope N_l_span ["_law_one_here", "_law_size_here"] (defScope s_l_span) := ⟨rfl, rfl, rfl, by decide +kernel, rfl, by decide +kernel, by decide +kernel⟩
def sp_l_span (K : PySem.W.Frag) : Sp := fun vs H Q _ => ∃ (F : Hp) (y_one_here : Str) (y_size_here : Int) (r : (Int × Int)), vs = [.str y_one_here, .int y_size_here] ∧ Same F H ∧ GS y_one_here ∧ m_l_span y_one_here y_size_here = some r ∧ (∀ v F' H', Gr M0 F H F' H' → R K F' v r → Q v H')
/-! ### l_writing -/
def m_l_writing_l1 (y_number : Int) : List Int → Str → (Option (Str))
  | [], y_signs => some y_signs
  | e7 :: xs_, y_signs =>
    Option.bind (shrI y_number e7) fun t9 =>
    Option.bind (codeAt ("01" : Str) (Builtin.bitAnd t9 (1 : Int))) fun c12 =>
    Option.bind (catS (sgn c12) y_signs) fun t14 =>
    m_l_writing_l1 y_number xs_ t14
def m_l_writing (y_number : Int) (y_size_here : Int) : Option Str :=
  Option.bind (rangeO1 y_size_here) fun l1 =>
  Option.bind (m_l_writing_l1 y_number l1 ("" : Str)) fun y_signs4 =>
  some y_signs4
abbrev N_l_writing : List Str := ["_law_number", "_law_size_here", "_law_signs", "_law_k"]
theorem sc_l_writing : FnScope N_l_writing ["_law_number", "_law_size_here"] (defScope s_l_writing) := ⟨rfl, rfl, rfl, by decide +kernel, rfl, by decide +kernel, by decide +kernel⟩
def sp_l_writing (K : PySem.W.Frag) : Sp := fun vs H Q _ => ∃ (y_number : Int) (y_size_here : Int) (r : Str), vs = [.int y_number, .int y_size_here] ∧ m_l_writing y_number y_size_here = some r ∧ (∀ F' H', Gr M0 H H F' H' → GS r → Q (.str r) H')
/-! ### l_members_right -/
def m_l_members_right_l1 (y_one_here : Str) (y_size_here : Int) (y_bits_here : Str) : List Int → Bag → (Option (Lp (Bag) (Bool × Bag)))
  | [], b => some (.go b)
  | e108 :: xs_, b =>
    Option.bind (shlI (1 : Int) y_size_here) fun t111 =>
    if ((decide ((0 : Int) ≤ e108)) && (decide (e108 < t111))) then (Option.bind (m_l_writing e108 y_size_here) fun r114 =>
 Option.bind (some (eqS (cutS r114 none (some ((y_bits_here.length : Nat) : Int))) y_bits_here)) fun y_due123 =>
 Option.bind (m_has y_one_here e108 y_size_here) fun r126 =>
 Option.bind (m_has y_one_here e108 y_size_here) fun r135 =>
 Option.bind (some ([r126, r135] : List Bool)) fun y_told153 =>
 Option.bind (m_l_alike y_told153 ([y_due123, y_due123] : List Bool)) fun r170 =>
 if (!r170) then (some (.ret (false, b))) else (m_l_members_right_l1 y_one_here y_size_here y_bits_here xs_ b)) else (m_l_members_right_l1 y_one_here y_size_here y_bits_here xs_ b)
def m_l_members_right (b : Bag) (y_one_here : Str) (y_size_here : Int) : Option (Bool × Bag) :=
  Option.bind (some (Txt.stripChars y_one_here ("*" : Str))) fun y_bits_here1 =>
  Option.bind (m_l_span y_one_here y_size_here) fun r5 =>
  Option.bind (shlI (1 : Int) y_size_here) fun t21 =>
  Option.bind (some ([r5.1, (r5.2 - (1 : Int)), (r5.1 - (1 : Int)), r5.2, (0 : Int), (t21 - (1 : Int))] : List Int)) fun y_near31 =>
  bind2 (m_l_bits b y_size_here) fun r35 b36 =>
  Option.bind (m_l_worth r35) fun r45 =>
  bind2 (m_l_bits b36 (y_size_here - ((y_bits_here1.length : Nat) : Int))) fun r54 b55 =>
  Option.bind (catS y_bits_here1 r54) fun t64 =>
  Option.bind (m_l_worth t64) fun r67 =>
  Option.bind (conL y_near31 ([r45, r67] : List Int)) fun t85 =>
  bindL1 (m_l_members_right_l1 y_one_here y_size_here y_bits_here1 t85 b55) (fun b104 => some (true, b104)) (fun r_ => some r_)
abbrev N_l_members_right : List Str := ["_law_bag_here", "_law_one_here", "_law_size_here", "_law_bits_here", "_law_first", "_law_behind", "_law_near", "_law_number", "_law_due", "_law_told"]
theorem sc_l_members_right : FnScope N_l_members_right ["_law_bag_here", "_law_one_here", "_law_size_here"] (defScope s_l_members_right) := ⟨rfl, rfl, rfl, by decide +kernel, rfl, by decide +kernel, by decide +kernel⟩
def sp_l_members_right (K : PySem.W.Frag) : Sp := fun vs H Q _ => ∃ (F : Hp) (B C : Addr) (b : Bag) (y_one_here : Str) (y_size_here : Int) (r : Bool) (b' : Bag), vs = [.ref B, .str y_one_here, .int y_size_here] ∧ Same F H ∧ BagAt F H B C b ∧ GS y_one_here ∧ m_l_members_right b y_one_here y_size_here = some (r, b') ∧ (∀ F' H', Gr (Bc B C) F H F' H' → BagAt F' H' B C b' → Q (.bl r) H')
/-! ### law -/
def m_law_l1 (y_size_here : Int) : List Int → (List Str) → Bag → (Option (Lp ((List Str) × Bag) (Bool × Bag)))
  | [], y_some, b => some (.go (y_some, b))
  | e22 :: xs_, y_some, b =>
    bind2 (m_l_one b y_size_here y_some) fun r24 b25 =>
    Option.bind (appL y_some r24) fun t34 =>
    Option.bind (m_span_of r24 y_size_here) fun r42 =>
    Option.bind (m_l_span r24 y_size_here) fun r52 =>
    Option.bind (m_l_alike r42 r52) fun r64 =>
    if (!r64) then (some (.ret (false, b25))) else (Option.bind (m_span_of r24 y_size_here) fun r74 =>
 Option.bind (m_l_span r24 y_size_here) fun r84 =>
 Option.bind (m_l_alike r74 r84) fun r96 =>
 if (!r96) then (some (.ret (false, b25))) else (bind2 (m_l_members_right b25 r24 y_size_here) fun r106 b107 =>
 if (!r106) then (some (.ret (false, b107))) else (m_law_l1 y_size_here xs_ t34 b107)))
def m_law (b : Bag)  : Option (Bool × Bag) :=
  bind2 (m_l_size b ) fun r1 b2 =>
  bindL2 (m_law_l1 r1 (rangeL (0 : Int) 6) ([] : (List Str)) b2) (fun y_some17 b18 => Option.bind (m_span_of ("*" : Str) (30 : Int)) fun r132 =>
 Option.bind (shlI (1 : Int) (30 : Int)) fun t142 =>
 Option.bind (if (eqD r132 ((0 : Int), t142)) then (Option.bind (m_span_of ("1" : Str) (1 : Int)) fun r161 => Option.bind (if (eqD r161 ((1 : Int), (2 : Int))) then (Option.bind (m_has ("*" : Str) (0 : Int) (1 : Int)) fun r189 => some ((decide (r189 = true)))) else some false) fun c184 => some (c184)) else some false) fun c156 =>
 some (c156, b18)) (fun r_ => some r_)
abbrev N_law : List Str := ["_law_script", "_law_bag_here", "_law_size_here", "_law_some", "_law_k", "_law_one_here"]
theorem sc_law : FnScope N_law ["_law_script"] (defScope s_law) := ⟨rfl, rfl, rfl, by decide +kernel, rfl, by decide +kernel, by decide +kernel⟩
def sp_law (K : PySem.W.Frag) : Sp := fun vs H Q _ => ∃ (a : Addr) (ns : List Int), vs = [.ref a] ∧ SqL K H a (ns.map V.int) ∧ ns.length ≤ 63 ∧ (∀ H', Q (.bl true) H')
def kb_has_0_g {α : Type} : List α → List α → List α
  | [], [w0, w1, w2] => [w2, w1, w0]
  | _, _ => []
theorem kb_has_0 {K : PySem.W.Frag} {f : Addr} {fd : FuncData} (F : FnP K "has" s_has f fd) : KBinds K fd ["pattern", "address", "width"] ["width", "address", "pattern"] kb_has_0_g kb_has_0_g := by
  obtain ⟨kV, doc, pm, an, cdv, ct, rfl⟩ := fd_plain F
  refine ⟨fun s us ws _ hl => ?_, fun {vs us zs ws} h1 h2 => ?_⟩
  · unfold kb_has_0_g at hl ⊢
    split at hl
    · exact BindsTo.of_eq rfl
    · cases hl
  · rcases h1 with _ | ⟨_, _⟩ <;> rcases h2 with _ | ⟨r_w0, _ | ⟨r_w1, _ | ⟨r_w2, _ | ⟨_, _⟩⟩⟩⟩ <;> first | exact (.cons r_w2 (.cons r_w1 (.cons r_w0 .nil))) | exact .nil
def kb_span_of_1_g {α : Type} : List α → List α → List α
  | [], [w0, w1] => [w1, w0]
  | _, _ => []
theorem kb_span_of_1 {K : PySem.W.Frag} {f : Addr} {fd : FuncData} (F : FnP K "span_of" s_span_of f fd) : KBinds K fd ["pattern", "width"] ["width", "pattern"] kb_span_of_1_g kb_span_of_1_g := by
  obtain ⟨kV, doc, pm, an, cdv, ct, rfl⟩ := fd_plain F
  refine ⟨fun s us ws _ hl => ?_, fun {vs us zs ws} h1 h2 => ?_⟩
  · unfold kb_span_of_1_g at hl ⊢
    split at hl
    · exact BindsTo.of_eq rfl
    · cases hl
  · rcases h1 with _ | ⟨_, _⟩ <;> rcases h2 with _ | ⟨r_w0, _ | ⟨r_w1, _ | ⟨_, _⟩⟩⟩ <;> first | exact (.cons r_w1 (.cons r_w0 .nil)) | exact .nil
end K02
namespace K02
open PySem PySem.Spec PyProof.Rows L2 TL G
theorem ok_bits_of {P : Program} {w : World} {K : PySem.W.Frag} {mg : Str → Option Value} {base : Heap} (T : Txt K mg) : FnOk P w K mg base CX0 1 T.a_bits_of T.d_bits_of ["pattern"] (sp_bits_of K) := by
  refine fd_ok T.F_bits_of sc_bits_of (fun vs H Q E h => ?_) (fun cdv A outer s H0 vs Q E hr h => ?_)
  · obtain ⟨_, rfl, _⟩ := h
    rfl
  · obtain ⟨x_pattern, rfl, gs_x_pattern, hQ⟩ := h
    refine ⟨_, (pss_one (ps_ret (pe_ix ix_tup (pe_partition (pv 0) (pe_glob (v := (V.str ("*" : Str))) rfl T.k_STAR ⟨_, rfl⟩)) pe_int (fun _ _ => rfl)))), ?_⟩
    have g0 : Gr M0 H0 H0 H0 H0 := Gr.refl (Same.refl _)
    unfold m_bits_of at hQ
    refine p_ret ?_
    refine ⟨(V.str x_pattern), rfl, ⟨_, rfl⟩, _, _, rfl, rfl, (by decide +kernel), (gs_x_pattern : GS x_pattern).len, fun p1 np2 => ?_⟩
    have sm3 := same_new (o := (.tup [.str (Txt.partition x_pattern ("*" : Str)).1, .str (Txt.partition x_pattern ("*" : Str)).2.1, .str (Txt.partition x_pattern ("*" : Str)).2.2])) (g0.noneF np2)
    have g4 := g0.frz (o := (.tup [.str (Txt.partition x_pattern ("*" : Str)).1, .str (Txt.partition x_pattern ("*" : Str)).2.1, .str (Txt.partition x_pattern ("*" : Str)).2.2])) np2
    have gp6 := GS.part (gs_x_pattern : GS x_pattern) (⟨by decide +kernel, by decide +kernel⟩ : GS ("*" : Str))
    have r5 : R K (upd H0 p1 (.tup [.str (Txt.partition x_pattern ("*" : Str)).1, .str (Txt.partition x_pattern ("*" : Str)).2.1, .str (Txt.partition x_pattern ("*" : Str)).2.2])) (.ref p1) ((partS x_pattern ("*" : Str)) : (T3 Str Str Str)) := R.mk3 fzT (.str _ gp6.1) (.str _ gp6.2.1) (.str _ gp6.2.2)
    obtain ⟨p7, v10, v11, v12, ev8, hS9, r13, r14, r15⟩ := R.p3_v r5
    obtain ⟨rfl, gs16⟩ := R.str_v r13
    obtain ⟨rfl, gs17⟩ := R.str_v r14
    obtain ⟨rfl, gs18⟩ := R.str_v r15
    refine ⟨p7, _, _, (V.str (partS x_pattern ("*" : Str)).a), ev8, rfl, (SqT_mono g4.fh hS9), rfl, (hQ _ _ g4 gs16)⟩
end K02
namespace K02
open PySem PySem.Spec PyProof.Rows L2 TL G
theorem ok_span_of {P : Program} {w : World} {K : PySem.W.Frag} {mg : Str → Option Value} {base : Heap} (T : Txt K mg) : FnOk P w K mg base CX0 2 T.a_span_of T.d_span_of ["pattern", "width"] (sp_span_of K) := by
  have G_bits_of : FnOk P w K mg base CX0 1 T.a_bits_of T.d_bits_of ["pattern"] (sp_bits_of K) := ok_bits_of T
  have b_bits_of := T.F_bits_of.bindsN (ps := ["pattern"]) fun _ _ _ _ _ _ us hl => match us, hl with | [_], _ => rfl
  refine fd_ok T.F_span_of sc_span_of (fun vs H Q E h => ?_) (fun cdv A outer s H0 vs Q E hr h => ?_)
  · obtain ⟨_, _, _, _, rfl, _⟩ := h
    rfl
  · obtain ⟨F0, x_pattern, x_width, r, rfl, hS0, gs_x_pattern, hm, hQ⟩ := h
    refine ⟨_, (pss_cons (ps_set (i := 2) sc_span_of.nd rfl (.inl rfl) (pe_call G_bits_of (hr.mono (by decide)) (by rfl) T.g_bits_of T.F_bits_of.kp b_bits_of .nil pass0 (pa_cons (pv 0) pa_nil))) (pss_cons (ps_set (i := 3) sc_span_of.nd rfl (.inl rfl) pe_int) (pss_cons (ps_for PassesOwn.never rfl (pi_str (pv 2)) (pg_name (i := 4) sc_span_of.nd rfl (Or.inl rfl)) (pss_one (ps_set (i := 3) sc_span_of.nd rfl (.inl rfl) (pe_op op_add (pe_op op_mul pe_int (pv 3)) (pe_callTy call_toI (by rfl) T.n_int (by decide +kernel) (pa_cons (pe_cmpR op_eq (pv 4) pe_str (nomark _)) pa_nil)))))) (pss_cons (ps_set (i := 5) sc_span_of.nd rfl (.inl rfl) (pe_op op_shl pe_int (pe_op op_sub (pv 1) (pe_callB call_len_str (by rfl) T.n_len (by decide +kernel) (pa_cons (pv 2) pa_nil))))) (pss_one (ps_ret (pe_tup (pa_cons (pe_op op_mulW (pv 3) (pv 5)) (pa_cons (pe_op op_mulW (pe_op op_add (pv 3) pe_int) (pv 5)) pa_nil))))))))), ?_⟩
    have g0 : Gr M0 F0 H0 F0 H0 := Gr.refl hS0
    unfold m_span_of at hm
    refine p_seq ?_
    refine p_asg ?_
    refine ⟨(V.str x_pattern), rfl, x_pattern, rfl, gs_x_pattern, fun F2 H3 g4 gs5 => ?_⟩
    have g6 := Gr.apart g0 g4
    obtain ⟨x_bits7, hb8, hm⟩ := bnd hm
    have hx9 : (m_bits_of x_pattern) = x_bits7 := sjoin hb8
    have gs10 : GS x_bits7 := hx9 ▸ (gs5 : GS (m_bits_of x_pattern))
    refine p_nm (v' := (V.str x_bits7)) (congrArg V.str hx9) ?_
    refine p_nx ?_
    refine p_seq ?_
    refine p_asg ?_
    refine p_name ?_
    refine p_nx ?_
    refine p_seq ?_
    refine p_for ?_
    refine ⟨(V.str x_bits7), rfl, x_bits7, rfl, ?_⟩
    obtain ⟨x_number11, ht12, hm⟩ := bnd hm
    refine for_str (z := x_bits7) (fun i σ' H' => ∃ (F' : Hp) (x_number : Int) (o_x_sign : Option V), σ' = [(some (V.str x_pattern)), (some (V.int x_width)), (some (V.str x_bits7)), (some (V.int x_number)), o_x_sign, none] ∧ Gr M0 F0 H0 F' H' ∧ Same F0 F' ∧ m_span_of_l1  ((x_bits7).cps.toList.drop i) x_number = some x_number11) ?_ ?_ ?_
    · exact ⟨F0, (0 : Int), none, rfl, g6, (Same.refl _), ht12⟩
    · intro i xv13 σ' H' hx hP
      obtain ⟨F', x_number, o_x_sign, rfl, g_, sm_, hm_⟩ := hP
      have he15 := str_at hx
      rw [drop_at he15, m_span_of_l1.eq_2] at hm_
      refine p_name ?_
      refine p_asg ?_
      refine ⟨(V.int x_number), rfl, _, _, rfl, rfl, (.inl ⟨by decide, by decide⟩), (V.str (sgn xv13)), rfl, rfl, _, rfl, _, _, rfl, rfl, ?_⟩
      obtain ⟨x_number16, hb17, hm_⟩ := bnd hm_
      have hx18 : (((2 : Int) * x_number) + (toI (eqS (sgn xv13) ("1" : Str)))) = x_number16 := sjoin hb17
      refine p_nm (v' := (V.int x_number16)) (congrArg V.int hx18) ?_
      exact ⟨F', x_number16, (some (V.str (sgn xv13))), rfl, g_, sm_, hm_⟩
    intro σ19 H20 hP
    obtain ⟨F21, x_number22, o_x_sign23, rfl, g24, sm25, hm26⟩ := hP
    rw [drop_end str_size, m_span_of_l1.eq_1] at hm26
    obtain rfl := sjoin hm26
    refine p_nx ?_
    refine p_seq ?_
    refine p_asg ?_
    obtain ⟨t27, hb28, hm⟩ := bnd hm
    obtain ⟨hk29, rfl⟩ := shlI_ok hb28
    refine ⟨(V.int x_width), rfl, (V.str x_bits7), rfl, _, rfl, (gs10 : GS x_bits7).len, _, _, rfl, rfl, _, _, rfl, rfl, hk29, ?_⟩
    obtain ⟨x_size30, hx31⟩ : ∃ z_, ((1 : Int) * 2 ^ ((x_width - ((x_bits7.length : Nat) : Int))).toNat) = z_ := ⟨_, rfl⟩
    try rw [hx31] at hm
    refine p_nm (v' := (V.int x_size30)) (congrArg V.int hx31) ?_
    refine p_nx ?_
    refine p_ret ?_
    obtain ⟨t32, hb33, hm⟩ := bnd hm
    obtain ⟨hk34, rfl⟩ := mulI_ok hb33
    obtain ⟨t35, hb36, hm⟩ := bnd hm
    obtain ⟨hk37, rfl⟩ := mulI_ok hb36
    refine ⟨(V.int x_number22), rfl, (V.int x_size30), rfl, _, _, rfl, rfl, hk34, (V.int x_number22), rfl, _, _, rfl, rfl, (V.int x_size30), rfl, _, _, rfl, rfl, hk37, (by show 2 ≤ sizeLine; decide), fun p38 np39 => ?_⟩
    have sm40 := same_new (o := (.tup [(V.int (x_number22 * x_size30)), (V.int ((x_number22 + (1 : Int)) * x_size30))])) (g24.noneF np39)
    have g41 := g24.frz (o := (.tup [(V.int (x_number22 * x_size30)), (V.int ((x_number22 + (1 : Int)) * x_size30))])) np39
    have r42 : R K (upd F21 p38 (.tup [(V.int (x_number22 * x_size30)), (V.int ((x_number22 + (1 : Int)) * x_size30))])) (.ref p38) (((x_number22 * x_size30), ((x_number22 + (1 : Int)) * x_size30)) : (Int × Int)) := R.mk2 fzT (Rp.int (x_number22 * x_size30)) (Rp.int ((x_number22 + (1 : Int)) * x_size30))
    obtain rfl := sjoin hm
    exact (hQ _ _ _ g41 r42)
end K02
namespace K02
open PySem PySem.Spec PyProof.Rows L2 TL G
theorem ok_has {P : Program} {w : World} {K : PySem.W.Frag} {mg : Str → Option Value} {base : Heap} (T : Txt K mg) : FnOk P w K mg base CX0 3 T.a_has T.d_has ["pattern", "address", "width"] (sp_has K) := by
  have G_span_of : FnOk P w K mg base CX0 2 T.a_span_of T.d_span_of ["pattern", "width"] (sp_span_of K) := ok_span_of T
  have b_span_of := T.F_span_of.bindsN (ps := ["pattern", "width"]) fun _ _ _ _ _ _ us hl => match us, hl with | [_, _], _ => rfl
  refine fd_ok T.F_has sc_has (fun vs H Q E h => ?_) (fun cdv A outer s H0 vs Q E hr h => ?_)
  · obtain ⟨_, _, _, _, rfl, _⟩ := h
    rfl
  · obtain ⟨x_pattern, x_address, x_width, r, rfl, gs_x_pattern, hm, hQ⟩ := h
    refine ⟨_, (pss_cons (ps_asg (pe_call G_span_of (hr.mono (by decide)) (by rfl) T.g_span_of T.F_span_of.kp b_span_of .nil pass0 (pa_cons (pv 0) (pa_cons (pv 2) pa_nil))) (pg_tup rfl (pgs_cons (pg_name (i := 3) sc_has.nd rfl (Or.inl rfl)) (pgs_cons (pg_name (i := 4) sc_has.nd rfl (Or.inl rfl)) pgs_nil)))) (pss_one (ps_ret (pe_val (pe_chain op_le op_lt (pv 3) (pv 1) (pv 4)))))), ?_⟩
    have g0 : Gr M0 H0 H0 H0 H0 := Gr.refl (Same.refl _)
    unfold m_has at hm
    refine p_seq ?_
    refine p_asg ?_
    obtain ⟨r1, hb2, hm⟩ := bnd hm
    refine ⟨(V.str x_pattern), rfl, (V.int x_width), rfl, H0, x_pattern, x_width, r1, rfl, g0.fh, gs_x_pattern, hb2, fun v6 F3 H4 g5 r7 => ?_⟩
    have g8 := Gr.trans g0 g5
    obtain ⟨p9, v12, v13, ev10, hS11, r14, r15⟩ := R.p2_v r7
    obtain rfl := R.int_v r14
    obtain rfl := R.int_v r15
    refine ⟨p9, [(V.int r1.1), (V.int r1.2)], ev10, (SqT_mono g8.fh hS11), rfl, (V.int r1.1), [(V.int r1.2)], rfl, (V.int r1.2), [], rfl, rfl, ?_⟩
    refine p_nx ?_
    refine p_ret ?_
    obtain rfl := sjoin hm
    refine ⟨(V.bl ((decide (r1.1 ≤ x_address)) && (decide (x_address < r1.2)))), (fun Q q => ⟨(V.int r1.1), rfl, (V.int x_address), rfl, _, _, rfl, rfl, _, rfl, iteB (fun hc => ⟨(V.int r1.2), rfl, _, _, rfl, rfl, qTv hc q⟩) (fun hc => qFv hc q)⟩), (hQ _ _ g8)⟩
end K02
namespace K02
open PySem PySem.Spec PyProof.Rows L2 TL G
theorem ok_l_bag {P : Program} {w : World} {K : PySem.W.Frag} {mg : Str → Option Value} {base : Heap} (T : Txt K mg) : FnOk P w K mg base CX0 1 T.a_l_bag T.d_l_bag ["_law_script"] (sp_l_bag K) := by
  refine fd_ok T.F_l_bag sc_l_bag (fun vs H Q E h => ?_) (fun cdv A outer s H0 vs Q E hr h => ?_)
  · obtain ⟨_, _, rfl, _⟩ := h
    rfl
  · obtain ⟨a, ns, rfl, hS, hl, hQ⟩ := h
    refine ⟨_, (pss_cons (ps_set (i := 1) sc_l_bag.nd rfl (.inl rfl) pe_int)
      (pss_cons (ps_for PassesOwn.never rfl (pi_list (pe_slice sl_list (pv 0) po_none (po_some pe_int))) (pg_name (i := 2) sc_l_bag.nd rfl (Or.inl rfl))
          (pss_one (ps_set (i := 1) sc_l_bag.nd rfl (.inl rfl) (pe_op op_mod (pe_op op_add (pe_op op_add (pe_op op_mul (pv 1) pe_int) (pe_op op_mod (pv 2) pe_int)) pe_int) pe_int))))
      (pss_one (ps_ret (pe_lst (pa_cons (pe_lc (own := [("_law_cell", 2)]) rfl sc_l_bag.nd (pi_list (pe_slice sl_list (pv 0) po_none (po_some pe_int)))
          (blkOk_by (own := [("_law_cell", 2)]) (N := N_l_bag) (sc := defScope s_l_bag) (by decide +kernel)) (fun _ _ _ _ _ => pg_name (i := 2) sc_l_bag.nd rfl (Or.inl rfl)) (fun _ _ _ _ _ => pts_nil)
          (fun _ _ _ _ _ => pe_op op_mod (pe_callB call_abs (by rfl) T.n_abs (by decide +kernel) (pa_cons (pv 2) pa_nil)) (pe_op op_powW (pe_op op_pow pe_int pe_int) pe_int)))
        (pa_cons pe_int (pa_cons (pv 1) (pa_cons pe_int pa_nil))))))))), ?_⟩
    have g0 : Gr M0 (fun _ => none) H0 (fun _ => none) H0 := Gr.refl (fun _ _ h => nomatch h)
    have hcut : ∀ (lo hi : Option Int), cutV (ns.map V.int) lo hi = (cutL ns lo hi).map V.int := fun lo hi => by
      unfold cutV cutL
      rw [List.length_map, List.map_take, List.map_drop]
    have hcl : ∀ (lo hi : Option Int), (cutL ns lo hi).length ≤ 63 := fun lo hi => by
      unfold cutL
      rw [List.length_take, List.length_drop]
      omega
    refine p_seq ?_
    refine p_asg ?_
    refine p_name ?_
    refine p_nx ?_
    refine p_seq ?_
    refine p_for ?_
    refine ⟨.ref a, rfl, 60, rfl, a, ns.map V.int, rfl, hS, fun p np => ?_⟩
    rw [hcut]
    generalize hcs : cutL ns none (some 60) = cs
    have hc1 : cs.length ≤ 63 := by rw [← hcs]; exact hcl _ _
    have hc2 : (cs.map V.int).length = cs.length := List.length_map ..
    have g1 := g0.own (o := .lst (cs.map V.int)) np
    have ow1 : Ow H0 (fun _ => none) _ p (cs.map V.int) := Ow.new g0 np
    generalize hH1 : upd H0 p (.lst (cs.map V.int)) = H1 at g1 ow1 ⊢
    refine ⟨p, rfl, ⟨_, ow1.sq⟩, ?_⟩
    refine for_list (xs := cs.map V.int) (fun i σ' H' => ∃ (z : Int) (c : Option V), σ' = [some (.ref a), some (.int z), c] ∧ 0 ≤ z ∧ z < 2147483648 ∧ H' = H1) ⟨29, none, rfl, by decide, by decide, rfl⟩ (fun i σ' H' _ hP => ?_) (fun i x σ' H' hx hP => ?_) (fun σ' H' hP => ?_)
    · obtain ⟨z, c, _, _, _, rfl⟩ := hP
      exact ow1.sq
    · obtain ⟨z, c, rfl, h1, h2, rfl⟩ := hP
      obtain ⟨x, rfl⟩ : ∃ x', x = V.int x' := by
        rw [List.getElem?_map] at hx
        obtain ⟨y, _, e⟩ := Option.map_eq_some_iff.mp hx
        exact ⟨y, e.symm⟩
      refine p_asg ?_
      refine ⟨.int z, rfl, _, _, rfl, rfl, (.inr ⟨by decide, by decide⟩), .int x, rfl, _, _, rfl, rfl, (show (0 : Int) < 2147483629 by decide), _, _, rfl, rfl, _, _, rfl, rfl, _, _, rfl, rfl, (show (0 : Int) < 2147483647 by decide), ?_⟩
      refine ⟨_, _, rfl, Int.emod_nonneg _ (by decide), ?_, rfl⟩
      have := Int.emod_lt_of_pos (z * 69621 + x % 2147483629 + 1) (show (0 : Int) < 2147483647 by decide)
      omega
    · obtain ⟨z, c, rfl, h1, h2, rfl⟩ := hP
      refine p_nx ?_
      refine p_ret ?_
      have hS1 : SqL K H' a (ns.map V.int) := g1.seq id hS
      refine ⟨.ref a, rfl, 60, rfl, a, ns.map V.int, rfl, hS1, fun p2 np2 => ?_⟩
      rw [hcut, hcs]
      have g2 := g1.own (o := .lst (cs.map V.int)) np2
      have ow2 : Ow H0 (fun _ => none) _ p2 (cs.map V.int) := Ow.new g1 np2
      generalize hH2 : upd H' p2 (.lst (cs.map V.int)) = H2 at g2 ow2 ⊢
      refine ⟨p2, rfl, ⟨_, ow2.sq⟩, fun D nD => ?_⟩
      refine lc_list (xs := cs.map V.int) (fun i H' => ∃ ds : List Int, ds.length = i ∧ H' = upd H2 D (.lst (ds.map V.int))) ⟨[], rfl, rfl⟩ (fun i H' _ hP => ?_) (fun i x H' hx hP => ?_) (fun H' hP => ?_)
      · obtain ⟨ds, _, rfl⟩ := hP
        exact (ow2.own nD).sq
      · obtain ⟨ds, hds, rfl⟩ := hP
        have hi : i < cs.length := by rw [← hc2]; exact (List.getElem?_eq_some_iff.mp hx).1
        obtain ⟨x, rfl⟩ : ∃ x', x = V.int x' := by
          rw [List.getElem?_map] at hx
          obtain ⟨y, _, e⟩ := Option.map_eq_some_iff.mp hx
          exact ⟨y, e.symm⟩
        refine ⟨rfl, p_yes ?_⟩
        refine ⟨.int x, rfl, x, rfl, _, _, rfl, rfl, ⟨by decide, by decide, by decide⟩, _, _, rfl, rfl, ⟨by decide, by decide +kernel⟩, _, _, rfl, rfl, (show (0 : Int) < ((10 : Int) ^ (60 : Int).toNat) ^ (10 : Int).toNat by decide +kernel), ?_⟩
        refine ⟨_, upd_same, ?_, ds ++ [(if x < 0 then -x else x) % ((10 : Int) ^ (60 : Int).toNat) ^ (10 : Int).toNat], ?_, ?_⟩
        · rw [List.length_map, sizeLine_eq]; omega
        · rw [List.length_append, hds]; rfl
        · rw [upd_upd, List.map_append]; rfl
      · obtain ⟨ds, hds, rfl⟩ := hP
        rw [hc2] at hds
        refine ⟨.int z, rfl, (by show 4 ≤ sizeLine; decide), fun B nB => ?_⟩
        have hne : D ≠ B := fun e => by rw [← e, upd_same] at nB; cases nB
        exact hQ B D ⟨ds, 0, z, 0⟩ (fun _ => none) _ (fun _ _ h => nomatch h) ⟨upd_same, by rw [upd_ne hne, upd_same], hne.symm, rfl, rfl⟩ ⟨h1, h2, by show ds.length ≤ 63; omega⟩

end K02
namespace K02
open PySem PySem.Spec PyProof.Rows L2 TL G
theorem ok_l_draw {P : Program} {w : World} {K : PySem.W.Frag} {mg : Str → Option Value} {base : Heap} (T : Txt K mg) : FnOk P w K mg base CX0 1 T.a_l_draw T.d_l_draw ["_law_bag_here", "_law_many"] (sp_l_draw K) := by
  refine fd_ok T.F_l_draw sc_l_draw (fun vs H Q E h => ?_) (fun cdv A outer s H0 vs Q E hr h => ?_)
  · obtain ⟨_, _, _, _, _, _, _, rfl, _⟩ := h
    rfl
  · obtain ⟨F0, B, C, b, n, r, b', rfl, hS0, hB, hm, hQ⟩ := h
    refine ⟨_, (pss_cons (ps_while PassesOwn.never (PW.pt (pw_and (pt_cmpR op_lt (pe_ix ix_list (pv 0) pe_int (fun _ _ => rfl)) (pe_callB call_lenL (by rfl) T.n_len (by decide +kernel) (pa_cons (pe_ix ix_list (pv 0) pe_int (fun _ _ => rfl)) pa_nil)) (nomark _))
        (pw_and1 (pt_cmpR op_eq (pe_ix ix_list (pe_ix ix_list (pv 0) pe_int (fun _ _ => rfl)) (pe_ix ix_list (pv 0) pe_int (fun _ _ => rfl)) (fun _ _ => rfl)) pe_int (nomark _)))))
        (pss_one (ps_asg (pe_op op_add (pe_ix ix_list (pv 0) pe_int (fun _ _ => rfl)) pe_int) (pg_sub (pv 0) pe_int set_list))))
      (pss_cons (ps_if (pt_cmpR op_lt (pe_ix ix_list (pv 0) pe_int (fun _ _ => rfl)) (pe_callB call_lenL (by rfl) T.n_len (by decide +kernel) (pa_cons (pe_ix ix_list (pv 0) pe_int (fun _ _ => rfl)) pa_nil)) (nomark _))
          (pss_cons (ps_set (i := 2) sc_l_draw.nd rfl (.inl rfl) (pe_ix ix_list (pe_ix ix_list (pv 0) pe_int (fun _ _ => rfl)) (pe_ix ix_list (pv 0) pe_int (fun _ _ => rfl)) (fun _ _ => rfl)))
            (pss_cons (ps_asg (pe_op op_fdivW (pv 2) (pv 1)) (pg_sub (pe_ix ix_list (pv 0) pe_int (fun _ _ => rfl)) (pe_ix ix_list (pv 0) pe_int (fun _ _ => rfl)) set_list))
              (pss_one (ps_ret (pe_op op_mod (pv 2) (pv 1)))))) pss_nil)
      (pss_cons (ps_asg (pe_op op_add (pe_ix ix_list (pv 0) pe_int (fun _ _ => rfl)) pe_int) (pg_sub (pv 0) pe_int set_list))
      (pss_cons (ps_asg (pe_op op_mod (pe_op op_add (pe_op op_add (pe_op op_add (pe_op op_pow (pe_ix ix_list (pv 0) pe_int (fun _ _ => rfl)) pe_int) (pe_op op_mul pe_int (pe_ix ix_list (pv 0) pe_int (fun _ _ => rfl)))) (pe_op op_mul pe_int (pe_ix ix_list (pv 0) pe_int (fun _ _ => rfl)))) pe_int) pe_int) (pg_sub (pv 0) pe_int set_list))
      (pss_one (ps_ret (pe_op op_mod (pe_op op_fdiv (pe_ix ix_list (pv 0) pe_int (fun _ _ => rfl)) pe_int) (pv 1)))))))), ?_⟩
    have g0 : Gr (Bc B C) F0 H0 F0 H0 := Gr.refl hS0
    unfold m_l_draw at hm
    have hc : (0 < n ∧ n.natAbs.log2 < 9000) ∧ (0 ≤ b.seed ∧ b.seed < 2147483648 ∧ b.cells.length ≤ sizeLine) := by
      by_cases hc : (0 < n ∧ n.natAbs.log2 < 9000) ∧ (0 ≤ b.seed ∧ b.seed < 2147483648 ∧ b.cells.length ≤ sizeLine)
      · exact hc
      · rw [if_neg hc] at hm; cases hm
    rw [if_pos hc] at hm
    obtain ⟨⟨hn, hn2⟩, hs0, hs1, hsz⟩ := hc
    obtain ⟨cs, a0, sd, ct⟩ := b
    simp only at hm hs0 hs1 hsz
    generalize hK : skip0 (cs.drop a0) a0 = k at hm
    have hpow : CPow sd 3 := ⟨by decide, by decide, by omega⟩
    have lB : ∀ {H : Hp} {a : Nat} {z c : Int}, BagAt F0 H B C ⟨cs, a, z, c⟩ → SqL K H B [V.ref C, .int (a : Nat), .int z, .int c] := fun h => .inl (.inl h.hB)
    have lC : ∀ {H : Hp} {b1 : Bag}, BagAt F0 H B C b1 → SqL K H C (b1.cells.map V.int) := fun h => .inl (.inl h.hC)
    have hz : (cs.map V.int).length = cs.length := List.length_map ..
    refine p_seq ?_
    refine ⟨fun i σ' H' => ∃ a : Nat, σ' = [some (.ref B), some (.int n), none] ∧ Gr (Bc B C) F0 H0 F0 H' ∧ BagAt F0 H' B C ⟨cs, a, sd, ct⟩ ∧ skip0 (cs.drop a) a = k ∧ cs.length - a ≤ i, ⟨cs.length, a0, rfl, g0, hB, hK, Nat.sub_le _ _⟩, ?_⟩
    intro i σ1 H1 hP
    obtain ⟨a, rfl, g, hB, hK, hi⟩ := hP
    refine ⟨_, rfl, _, _, 1, .int (a : Nat), rfl, rfl, lB hB, rfl, _, rfl, _, _, 0, .ref C, rfl, rfl, lB hB, rfl, C, _, _, rfl, .inl (lC hB), hz, _, _, rfl, rfl, _, rfl, ?_⟩
    by_cases hl : a < cs.length
    · obtain ⟨x, hx⟩ : ∃ x, cs[a]? = some x := ⟨_, List.getElem?_eq_getElem hl⟩
      rw [drop_at hx] at hK
      refine ifTr (decide_eq_true (Int.ofNat_lt.mpr hl)) ?_
      refine ⟨_, rfl, _, _, 0, .ref C, rfl, rfl, lB hB, rfl, _, rfl, _, _, 1, .int (a : Nat), rfl, rfl, lB hB, rfl, _, _, (a : Nat), .int x, rfl, rfl, lC hB, atI_map hx, rfl, _, rfl, ?_⟩
      by_cases h0 : x = 0
      · subst h0
        refine ifTr (decide_eq_true rfl) ?_
        refine ⟨fun σ' H' => ∃ a : Nat, σ' = [some (.ref B), some (.int n), none] ∧ Gr (Bc B C) F0 H0 F0 H' ∧ BagAt F0 H' B C ⟨cs, a, sd, ct⟩ ∧ skip0 (cs.drop a) a = k ∧ cs.length - a ≤ i - 1, fun _ _ ⟨z1, z2, z3, z4, z5, z6⟩ => ⟨i - 1, by omega, z1, z2, z3, z4, z5, z6⟩, ?_⟩
        refine p_asg ?_
        refine ⟨_, rfl, _, _, 1, .int (a : Nat), rfl, rfl, lB hB, rfl, _, _, rfl, rfl, _, rfl, B, _, 1, 1, rfl, rfl, hB.hB, rfl, ?_⟩
        exact ⟨a + 1, rfl, g.mut hB.fB (.inr (.inl rfl)), BagAt.put (b' := ⟨cs, a + 1, sd, ct⟩) hB rfl, by rw [skip0, if_pos rfl] at hK; exact hK, by omega⟩
      · refine ifFr (decide_eq_false fun e => h0 (V.int.inj e)) ?_
        rw [skip0, if_neg h0] at hK
        subst hK
        rw [hx] at hm
        obtain ⟨rfl, rfl⟩ := pjoin hm
        refine p_nx ?_
        refine p_seq ?_
        refine p_if ?_
        refine ⟨_, rfl, _, _, 1, .int (a : Nat), rfl, rfl, lB hB, rfl, _, rfl, _, _, 0, .ref C, rfl, rfl, lB hB, rfl, C, _, _, rfl, .inl (lC hB), hz, _, _, rfl, rfl, _, rfl, ?_⟩
        refine ifTr (decide_eq_true (Int.ofNat_lt.mpr hl)) ?_
        refine p_seq ?_
        refine p_asg ?_
        refine ⟨_, rfl, _, _, 0, .ref C, rfl, rfl, lB hB, rfl, _, rfl, _, _, 1, .int (a : Nat), rfl, rfl, lB hB, rfl, _, _, (a : Nat), .int x, rfl, rfl, lC hB, atI_map hx, ?_⟩
        refine p_name ?_
        refine p_nx ?_
        refine p_seq ?_
        refine p_asg ?_
        refine ⟨.int x, rfl, .int n, rfl, x, n, rfl, rfl, ⟨hn, hn2⟩, _, rfl, _, _, 0, .ref C, rfl, rfl, lB hB, rfl, _, rfl, _, _, 1, .int (a : Nat), rfl, rfl, lB hB, rfl, C, _, (a : Nat), a, rfl, rfl, hB.hC, ixN_nat (by rw [hz]; exact hl), ?_⟩
        refine p_nx ?_
        refine p_ret ?_
        refine ⟨.int x, rfl, .int n, rfl, x, n, rfl, rfl, hn, ?_⟩
        have e : (cs.map V.int).set a (V.int (x / n)) = (cs.set a (x / n)).map V.int := List.map_set.symm
        rw [e]
        exact hQ _ _ (g.mut hB.fC (.inr (.inr rfl))) (BagAt.cell hB _)
    · refine ifFr (decide_eq_false fun e => hl (Int.ofNat_lt.mp e)) ?_
      have hd : cs.drop a = [] := List.drop_eq_nil_of_le (by omega)
      rw [hd, skip0] at hK
      subst hK
      rw [List.getElem?_eq_none (by omega)] at hm
      obtain ⟨rfl, rfl⟩ := pjoin hm
      refine p_nx ?_
      refine p_seq ?_
      refine p_if ?_
      refine ⟨_, rfl, _, _, 1, .int (a : Nat), rfl, rfl, lB hB, rfl, _, rfl, _, _, 0, .ref C, rfl, rfl, lB hB, rfl, C, _, _, rfl, .inl (lC hB), hz, _, _, rfl, rfl, _, rfl, ?_⟩
      refine ifFr (decide_eq_false fun e => hl (Int.ofNat_lt.mp e)) ?_
      refine p_next ?_
      refine p_nx ?_
      refine p_seq ?_
      refine p_asg ?_
      refine ⟨_, rfl, _, _, 3, .int ct, rfl, rfl, lB hB, rfl, _, _, rfl, rfl, _, rfl, B, _, 3, 3, rfl, rfl, hB.hB, rfl, ?_⟩
      have hB2 := BagAt.put (b' := ⟨cs, a, sd, ct + 1⟩) hB rfl
      have g2 := g.mut (o := .lst [.ref C, .int (a : Nat), .int sd, .int (ct + 1)]) hB.fB (.inr (.inl rfl))
      refine p_nx ?_
      refine p_seq ?_
      refine p_asg ?_
      refine ⟨_, rfl, _, _, 2, .int sd, rfl, rfl, lB hB2, rfl, _, _, rfl, rfl, hpow, _, rfl, _, _, 2, .int sd, rfl, rfl, lB hB2, rfl, _, _, rfl, rfl, (.inl ⟨by decide, by decide⟩), _, _, rfl, rfl, _, rfl, _, _, 3, .int (ct + 1), rfl, rfl, lB hB2, rfl, _, _, rfl, rfl, (.inl ⟨by decide, by decide⟩), _, _, rfl, rfl, _, _, rfl, rfl, _, _, rfl, rfl, (show (0 : Int) < 2147483647 by decide), _, rfl, B, _, 2, 2, rfl, rfl, hB2.hB, rfl, ?_⟩
      have hB3 := BagAt.put (b' := ⟨cs, a, stir sd (ct + 1), ct + 1⟩) hB2 rfl
      have g3 := g2.mut (o := .lst [.ref C, .int (a : Nat), .int (stir sd (ct + 1)), .int (ct + 1)]) hB2.fB (.inr (.inl rfl))
      refine p_nx ?_
      refine p_ret ?_
      refine ⟨_, rfl, _, _, 2, .int (stir sd (ct + 1)), rfl, rfl, lB hB3, rfl, _, _, rfl, rfl, ⟨by decide, by decide⟩, .int n, rfl, _, _, rfl, rfl, hn, ?_⟩
      exact hQ _ _ g3 hB3

end K02
namespace K02
open PySem PySem.Spec PyProof.Rows L2 TL G
theorem ok_l_bits {P : Program} {w : World} {K : PySem.W.Frag} {mg : Str → Option Value} {base : Heap} (T : Txt K mg) : FnOk P w K mg base CX0 2 T.a_l_bits T.d_l_bits ["_law_bag_here", "_law_size_here"] (sp_l_bits K) := by
  have G_l_draw : FnOk P w K mg base CX0 1 T.a_l_draw T.d_l_draw ["_law_bag_here", "_law_many"] (sp_l_draw K) := ok_l_draw T
  have b_l_draw := T.F_l_draw.bindsN (ps := ["_law_bag_here", "_law_many"]) fun _ _ _ _ _ _ us hl => match us, hl with | [_, _], _ => rfl
  refine fd_ok T.F_l_bits sc_l_bits (fun vs H Q E h => ?_) (fun cdv A outer s H0 vs Q E hr h => ?_)
  · obtain ⟨_, _, _, _, _, _, _, rfl, _⟩ := h
    rfl
  · obtain ⟨F0, B, C, b, y_size_here, r, b', rfl, hS0, hB, hm, hQ⟩ := h
    refine ⟨_, (pss_cons (ps_if (pt_cmpR op_eq (pe_call G_l_draw (hr.mono (by decide)) (by rfl) T.g_l_draw T.F_l_draw.kp b_l_draw .nil pass0 (pa_cons (pv 0) (pa_cons pe_int pa_nil))) pe_int (nomark _)) (pss_cons (ps_set (i := 2) sc_l_bits.nd rfl (.inl rfl) (pe_ix ix_str pe_str (pe_call G_l_draw (hr.mono (by decide)) (by rfl) T.g_l_draw T.F_l_draw.kp b_l_draw .nil pass0 (pa_cons (pv 0) (pa_cons pe_int pa_nil))) (fun _ _ => rfl))) (pss_one (ps_ret (pe_ifExp (pt_cmpR op_gt (pv 1) pe_int (nomark _)) (pe_slice sl_str (pe_op op_add_str (pe_op op_mulS (pv 2) (pv 1)) (pe_ix ix_str pe_str (pe_call G_l_draw (hr.mono (by decide)) (by rfl) T.g_l_draw T.F_l_draw.kp b_l_draw .nil pass0 (pa_cons (pv 0) (pa_cons pe_int pa_nil))) (fun _ _ => rfl))) (po_some pe_int) (po_some (pe_op op_add (pv 1) pe_int))) pe_str)))) pss_nil) (pss_one (ps_ret (pe_join pe_str (pe_lc (own := [("_law_k", 3)]) rfl sc_l_bits.nd (pi_range1 (by rfl) T.n_range (pa_cons (pv 1) pa_nil)) (blkOk_by (own := [("_law_k", 3)]) (N := N_l_bits) (sc := defScope s_l_bits) (by decide +kernel)) (fun _ _ _ _ _ => (pg_name (i := 3) sc_l_bits.nd rfl (Or.inl rfl))) (fun _ _ _ _ _ => pts_nil) (fun _ _ _ _ _ => (pe_ix ix_str pe_str (pe_call G_l_draw (hr.mono (by decide)) (by rfl) T.g_l_draw T.F_l_draw.kp b_l_draw .nil pass0 (pa_cons (pv 0) (pa_cons pe_int pa_nil))) (fun _ _ => rfl)))))))), ?_⟩
    have g0 : Gr (Bc B C) F0 H0 F0 H0 := Gr.refl hS0
    unfold m_l_bits at hm
    refine p_seq ?_
    refine p_if ?_
    obtain ⟨r1, b2, hb3, hm⟩ := bnd2 hm
    refine ⟨(V.ref B), rfl, F0, B, C, b, (4 : Int), r1, b2, rfl, g0.fh, hB, hb3, fun F4 H5 g6 hB7 => ?_⟩
    have g9 := Gr.trans g0 g6
    refine ⟨rfl, _, rfl, (iteB (fun hc => ?_) (fun hc => ?_))⟩
    · have hm := ifT hc hm
      refine p_seq ?_
      refine p_asg ?_
      obtain ⟨r10, b11, hb12, hm⟩ := bnd2 hm
      refine ⟨(V.ref B), rfl, F4, B, C, b2, (2 : Int), r10, b11, rfl, g9.fh, hB7, hb12, fun F13 H14 g15 hB16 => ?_⟩
      have g18 := Gr.trans g9 g15
      obtain ⟨c19, hb20, hm⟩ := bnd hm
      refine ⟨_, _, c19, rfl, rfl, (⟨by decide +kernel, by decide +kernel⟩ : GS ("01" : Str)).len, hb20, ?_⟩
      refine p_name ?_
      refine p_nx ?_
      refine p_ret ?_
      refine ⟨(V.int y_size_here), rfl, _, _, rfl, rfl, _, rfl, ?_⟩
      obtain ⟨c21, b22, hc23, hm⟩ := bnd2 hm
      refine ifJ (M := (Bc B C)) (F := F13) (P := fun v' F' H' => v' = V.str (c21 : Str) ∧ GS (c21 : Str) ∧ BagAt F' H' B C b22) (fun ha => ?_) (fun ha => ?_) ?_
      · intro Q24 q25
        have hc23 := ifT ha hc23
        obtain ⟨t26, hb27, hc23⟩ := bnd hc23
        obtain ⟨hk28, rfl⟩ := mulS_ok hb27
        obtain ⟨r29, b30, hb31, hc23⟩ := bnd2 hc23
        refine ⟨(V.str (sgn c19)), rfl, (V.int y_size_here), rfl, _, _, rfl, rfl, hk28, (V.ref B), rfl, F13, B, C, b11, (2 : Int), r29, b30, rfl, g18.fh, hB16, hb31, fun F32 H33 g34 hB35 => ?_⟩
        have g37 := Gr.trans g18 g34
        have g38 := Gr.trans (Gr.refl (M := (Bc B C)) g18.fh) g34
        obtain ⟨c39, hb40, hc23⟩ := bnd hc23
        obtain ⟨t41, hb42, hc23⟩ := bnd hc23
        obtain ⟨hk43, rfl⟩ := catS_ok hb42
        obtain ⟨rfl, rfl⟩ := pjoin hc23
        refine ⟨_, _, c39, rfl, rfl, (⟨by decide +kernel, by decide +kernel⟩ : GS ("01" : Str)).len, hb40, _, _, rfl, rfl, hk43, _, rfl, (V.int y_size_here), rfl, _, _, rfl, rfl, _, rfl, _, rfl, ((GS.cat (GS.mul (GS.sg ⟨by decide +kernel, by decide +kernel⟩ (codeAt_mem hb20)) hb27) (GS.sg ⟨by decide +kernel, by decide +kernel⟩ (codeAt_mem hb40)) hb42) : GS ((Txt.mul (sgn c19) y_size_here) ++ (sgn c39))).len, (q25 _ _ _ g38 ⟨rfl, (GS.cut (GS.cat (GS.mul (GS.sg ⟨by decide +kernel, by decide +kernel⟩ (codeAt_mem hb20)) hb27) (GS.sg ⟨by decide +kernel, by decide +kernel⟩ (codeAt_mem hb40)) hb42) (some (1 : Int)) (some (y_size_here + (1 : Int)))), hB35⟩)⟩
      · intro Q44 q45
        have hc23 := ifF ha hc23
        obtain ⟨rfl, rfl⟩ := pjoin hc23
        exact (q45 _ _ _ (Gr.refl (M := (Bc B C)) g18.fh) ⟨rfl, ⟨by decide +kernel, by decide +kernel⟩, hB16⟩)
      intro v49 F46 H47 g48 hp50
      obtain ⟨hp50, hp50g, hB51⟩ := hp50
      have g52 := Gr.trans g18 g48
      obtain rfl := hp50
      obtain ⟨rfl, rfl⟩ := pjoin hm
      exact (hQ _ _ g52 hB51 hp50g)
    · have hm := ifF hc hm
      refine p_next ?_
      refine p_nx ?_
      refine p_ret ?_
      obtain ⟨l53, hb55, hm⟩ := bnd hm
      obtain ⟨hk54, rfl⟩ := rangeO1_ok hb55
      refine ⟨⟨_, rfl⟩, (V.int y_size_here), rfl, _, rfl, hk54.1.1, hk54.1.2, fun D56 nD57 => ?_⟩
      have nb58 := hB7.nb nD57
      have g59 := g9.own (o := (.lst [])) nD57
      have hB60 := hB7.own (o := (.lst [])) nD57
      have ow61 : Ow H0 F4 (upd H5 D56 (.lst [])) D56 [] := Ow.new g9 nD57
      obtain ⟨l62, b63, hb64, hm⟩ := bnd2 hm
      refine lc_range (lo := (0 : Int)) (n := (y_size_here).toNat) (fun i H' => ∃ (F' : Hp) (acc : List V) (ds : List Str) (rest : List Str) (b : Bag), Gr (Bc B C) F0 H0 F' H' ∧ Same F4 F' ∧ Ow H0 F' H' D56 acc ∧ RL K F' acc ds ∧ acc.length ≤ i ∧ BagAt F' H' B C b ∧ m_l_bits_c1  ((rangeL (0 : Int) (y_size_here).toNat).drop i) b = some (rest, b63) ∧ ds ++ rest = l62) ?_ ?_ ?_
      · exact ⟨F4, [], [], l62, b2, g59, Same.refl _, ow61, RpA.nil, Nat.le_refl _, hB60, hb64, rfl⟩
      · intro i H' hx hP
        obtain ⟨F', acc, ds, rest, b, g0_, sm_, owD_, hA_, hi_, hB_, hm_, hr_⟩ := hP
        have he67 := rangeL_at (lo := (0 : Int)) hx
        rw [drop_at he67, m_l_bits_c1.eq_2] at hm_
        refine ⟨rfl, (p_yes ?_)⟩
        obtain ⟨r68, b69, hb70, hm_⟩ := bnd2 hm_
        refine ⟨(V.ref B), rfl, F', B, C, b, (2 : Int), r68, b69, rfl, g0_.fh, hB_, hb70, fun F71 H72 g73 hB74 => ?_⟩
        have g76 := Gr.trans g0_ g73
        have ow77 := owD_.gr g73 nb58
        obtain ⟨c78, hb79, hm_⟩ := bnd hm_
        have hA80 : RL K F71 (acc ++ [(V.str (sgn c78))]) (ds ++ [((sgn c78) : Str)]) := RL.snoc (hA_.up g73.ff) (Rp.str (sgn c78) (GS.sg ⟨by decide +kernel, by decide +kernel⟩ (codeAt_mem hb79)))
        obtain ⟨rest81, b82, h83, h84⟩ := bnd2 hm_
        obtain ⟨rfl, rfl⟩ := pjoin h84
        refine ⟨_, _, c78, rfl, rfl, (⟨by decide +kernel, by decide +kernel⟩ : GS ("01" : Str)).len, hb79, acc, ow77.h, (lt_line hi_ hx hk54.2), ?_⟩
        have g85 := g76.put (o := (.lst (acc ++ [(V.str (sgn c78))]))) ow77
        have hB86 := hB74.other (o := (.lst (acc ++ [(V.str (sgn c78))]))) nb58
        have ow87 := ow77.put (us := (acc ++ [(V.str (sgn c78))]))
        exact ⟨F71, (acc ++ [(V.str (sgn c78))]), (ds ++ [(sgn c78)]), rest81, b69, g85, (Same.trans sm_ g73.ff), ow87, hA80, (by rw [List.length_append]; exact Nat.succ_le_succ hi_), hB86, h83, (snoc_rest hr_)⟩
      intro H88 hP
      obtain ⟨F89, acc90, ds91, _rest, b92, g093, sm94, owD95, hA96, hi97, hB98, hm99, hr100⟩ := hP
      rw [drop_end (rangeL_len _ _).symm] at hm99
      rw [m_l_bits_c1.eq_1] at hm99
      obtain ⟨rfl, rfl⟩ := pjoin hm99
      rw [List.append_nil] at hr100
      obtain rfl := hr100
      have hl101 : acc90.length ≤ sizeLine := Nat.le_trans hi97 hk54.2
      obtain ⟨t102, hb103, hm⟩ := bnd hm
      obtain ⟨hk104, rfl⟩ := joinS_ok hb103
      obtain ⟨rfl, rfl⟩ := pjoin hm
      refine ⟨_, D56, ds91, rfl, rfl, (.inl (by rw [← (RL.strs hA96).1]; exact owD95.sq)), hk104, (hQ _ _ g093 hB98 (GS.join ⟨by decide +kernel, by decide +kernel⟩ (RL.strs hA96).2 hb103))⟩
end K02
namespace K02
open PySem PySem.Spec PyProof.Rows L2 TL G
theorem ok_l_worth {P : Program} {w : World} {K : PySem.W.Frag} {mg : Str → Option Value} {base : Heap} (T : Txt K mg) : FnOk P w K mg base CX0 1 T.a_l_worth T.d_l_worth ["_law_bits_here"] (sp_l_worth K) := by
  refine fd_ok T.F_l_worth sc_l_worth (fun vs H Q E h => ?_) (fun cdv A outer s H0 vs Q E hr h => ?_)
  · obtain ⟨_, _, rfl, _⟩ := h
    rfl
  · obtain ⟨y_bits_here, r, rfl, gs_y_bits_here, hm, hQ⟩ := h
    refine ⟨_, (pss_cons (ps_set (i := 1) sc_l_worth.nd rfl (.inl rfl) pe_int) (pss_cons (ps_for PassesOwn.never rfl (pi_str (pv 0)) (pg_name (i := 2) sc_l_worth.nd rfl (Or.inl rfl)) (pss_one (ps_set (i := 1) sc_l_worth.nd rfl (.inl rfl) (pe_op op_add (pe_op op_mul (pv 1) pe_int) (pe_callTy call_toI (by rfl) T.n_int (by decide +kernel) (pa_cons (pe_cmpR op_eq (pv 2) pe_str (nomark _)) pa_nil)))))) (pss_one (ps_ret (pv 1))))), ?_⟩
    have g0 : Gr M0 H0 H0 H0 H0 := Gr.refl (Same.refl _)
    unfold m_l_worth at hm
    refine p_seq ?_
    refine p_asg ?_
    refine p_name ?_
    refine p_nx ?_
    refine p_seq ?_
    refine p_for ?_
    refine ⟨(V.str y_bits_here), rfl, y_bits_here, rfl, ?_⟩
    obtain ⟨y_found1, ht2, hm⟩ := bnd hm
    refine for_str (z := y_bits_here) (fun i σ' H' => ∃ (F' : Hp) (y_found : Int) (o_y_sign : Option V), σ' = [(some (V.str y_bits_here)), (some (V.int y_found)), o_y_sign] ∧ Gr M0 H0 H0 F' H' ∧ Same H0 F' ∧ m_l_worth_l1  ((y_bits_here).cps.toList.drop i) y_found = some y_found1) ?_ ?_ ?_
    · exact ⟨H0, (0 : Int), none, rfl, g0, (Same.refl _), ht2⟩
    · intro i xv3 σ' H' hx hP
      obtain ⟨F', y_found, o_y_sign, rfl, g_, sm_, hm_⟩ := hP
      have he5 := str_at hx
      rw [drop_at he5, m_l_worth_l1.eq_2] at hm_
      refine p_name ?_
      refine p_asg ?_
      refine ⟨(V.int y_found), rfl, _, _, rfl, rfl, (.inr ⟨by decide, by decide⟩), (V.str (sgn xv3)), rfl, rfl, _, rfl, _, _, rfl, rfl, ?_⟩
      obtain ⟨y_found6, hb7, hm_⟩ := bnd hm_
      have hx8 : ((y_found * (2 : Int)) + (toI (eqS (sgn xv3) ("1" : Str)))) = y_found6 := sjoin hb7
      refine p_nm (v' := (V.int y_found6)) (congrArg V.int hx8) ?_
      exact ⟨F', y_found6, (some (V.str (sgn xv3))), rfl, g_, sm_, hm_⟩
    intro σ9 H10 hP
    obtain ⟨F11, y_found12, o_y_sign13, rfl, g14, sm15, hm16⟩ := hP
    rw [drop_end str_size, m_l_worth_l1.eq_1] at hm16
    obtain rfl := sjoin hm16
    refine p_nx ?_
    refine p_ret ?_
    obtain rfl := sjoin hm
    refine ⟨(V.int y_found12), rfl, (hQ _ _ g14)⟩
end K02
namespace K02
open PySem PySem.Spec PyProof.Rows L2 TL G
theorem ok_l_size {P : Program} {w : World} {K : PySem.W.Frag} {mg : Str → Option Value} {base : Heap} (T : Txt K mg) : FnOk P w K mg base CX0 2 T.a_l_size T.d_l_size ["_law_bag_here"] (sp_l_size K) := by
  have G_l_draw : FnOk P w K mg base CX0 1 T.a_l_draw T.d_l_draw ["_law_bag_here", "_law_many"] (sp_l_draw K) := ok_l_draw T
  have b_l_draw := T.F_l_draw.bindsN (ps := ["_law_bag_here", "_law_many"]) fun _ _ _ _ _ _ us hl => match us, hl with | [_, _], _ => rfl
  refine fd_ok T.F_l_size sc_l_size (fun vs H Q E h => ?_) (fun cdv A outer s H0 vs Q E hr h => ?_)
  · obtain ⟨_, _, _, _, _, _, rfl, _⟩ := h
    rfl
  · obtain ⟨F0, B, C, b, r, b', rfl, hS0, hB, hm, hQ⟩ := h
    refine ⟨_, (pss_one (ps_ret (pe_ix ix_list (pe_lst (pa_cons (pe_op op_add pe_int (pe_call G_l_draw (hr.mono (by decide)) (by rfl) T.g_l_draw T.F_l_draw.kp b_l_draw .nil pass0 (pa_cons (pv 0) (pa_cons pe_int pa_nil)))) (pa_cons (pe_op op_add pe_int (pe_call G_l_draw (hr.mono (by decide)) (by rfl) T.g_l_draw T.F_l_draw.kp b_l_draw .nil pass0 (pa_cons (pv 0) (pa_cons pe_int pa_nil)))) (pa_cons pe_int (pa_cons (pe_op op_add pe_int (pe_call G_l_draw (hr.mono (by decide)) (by rfl) T.g_l_draw T.F_l_draw.kp b_l_draw .nil pass0 (pa_cons (pv 0) (pa_cons pe_int pa_nil)))) pa_nil))))) (pe_call G_l_draw (hr.mono (by decide)) (by rfl) T.g_l_draw T.F_l_draw.kp b_l_draw .nil pass0 (pa_cons (pv 0) (pa_cons pe_int pa_nil))) (fun _ _ => rfl)))), ?_⟩
    have g0 : Gr (Bc B C) F0 H0 F0 H0 := Gr.refl hS0
    unfold m_l_size at hm
    refine p_ret ?_
    obtain ⟨r1, b2, hb3, hm⟩ := bnd2 hm
    refine ⟨(V.ref B), rfl, F0, B, C, b, (6 : Int), r1, b2, rfl, g0.fh, hB, hb3, fun F4 H5 g6 hB7 => ?_⟩
    have g9 := Gr.trans g0 g6
    obtain ⟨r10, b11, hb12, hm⟩ := bnd2 hm
    refine ⟨_, _, rfl, rfl, (V.ref B), rfl, F4, B, C, b2, (30 : Int), r10, b11, rfl, g9.fh, hB7, hb12, fun F13 H14 g15 hB16 => ?_⟩
    have g18 := Gr.trans g9 g15
    obtain ⟨r19, b20, hb21, hm⟩ := bnd2 hm
    refine ⟨_, _, rfl, rfl, (V.ref B), rfl, F13, B, C, b11, (3 : Int), r19, b20, rfl, g18.fh, hB16, hb21, fun F22 H23 g24 hB25 => ?_⟩
    have g27 := Gr.trans g18 g24
    refine ⟨_, _, rfl, rfl, (by show 4 ≤ sizeLine; decide), fun p28 np29 => ?_⟩
    have nb30 := hB25.nb np29
    have g31 := g27.own (o := (.lst [(V.int ((1 : Int) + r1)), (V.int ((1 : Int) + r10)), (V.int (30 : Int)), (V.int ((1 : Int) + r19))])) np29
    have hB32 := hB25.own (o := (.lst [(V.int ((1 : Int) + r1)), (V.int ((1 : Int) + r10)), (V.int (30 : Int)), (V.int ((1 : Int) + r19))])) np29
    have ow33 : Ow H0 F22 (upd H23 p28 (.lst [(V.int ((1 : Int) + r1)), (V.int ((1 : Int) + r10)), (V.int (30 : Int)), (V.int ((1 : Int) + r19))])) p28 [(V.int ((1 : Int) + r1)), (V.int ((1 : Int) + r10)), (V.int (30 : Int)), (V.int ((1 : Int) + r19))] := Ow.new g27 np29
    have hA34 : RL K F22 [(V.int ((1 : Int) + r1)), (V.int ((1 : Int) + r10)), (V.int (30 : Int)), (V.int ((1 : Int) + r19))] ([((1 : Int) + r1), ((1 : Int) + r10), (30 : Int), ((1 : Int) + r19)] : List Int) := (RpA.cons (Rp.int ((1 : Int) + r1)) (RpA.cons (Rp.int ((1 : Int) + r10)) (RpA.cons (Rp.int (30 : Int)) (RpA.cons (Rp.int ((1 : Int) + r19)) RpA.nil))))
    obtain ⟨r35, b36, hb37, hm⟩ := bnd2 hm
    refine ⟨(V.ref B), rfl, F22, B, C, b20, (4 : Int), r35, b36, rfl, g31.fh, hB32, hb37, fun F38 H39 g40 hB41 => ?_⟩
    have g43 := Gr.trans g31 g40
    have ow44 := ow33.gr g40 nb30
    obtain ⟨t45, hb46, hm⟩ := bnd hm
    obtain ⟨v47, ha48, r49⟩ := RL.at (hA34.up g40.ff) hb46
    obtain rfl := R.int_v r49
    obtain ⟨rfl, rfl⟩ := pjoin hm
    refine ⟨p28, [(V.int ((1 : Int) + r1)), (V.int ((1 : Int) + r10)), (V.int (30 : Int)), (V.int ((1 : Int) + r19))], _, (V.int t45), rfl, rfl, ow44.sq, ha48, (hQ _ _ g43 hB41)⟩
end K02
namespace K02
open PySem PySem.Spec PyProof.Rows L2 TL G
theorem ok_l_one {P : Program} {w : World} {K : PySem.W.Frag} {mg : Str → Option Value} {base : Heap} (T : Txt K mg) : FnOk P w K mg base CX0 3 T.a_l_one T.d_l_one ["_law_bag_here", "_law_size_here", "_law_some"] (sp_l_one K) := by
  have G_l_bits : FnOk P w K mg base CX0 2 T.a_l_bits T.d_l_bits ["_law_bag_here", "_law_size_here"] (sp_l_bits K) := ok_l_bits T
  have b_l_bits := T.F_l_bits.bindsN (ps := ["_law_bag_here", "_law_size_here"]) fun _ _ _ _ _ _ us hl => match us, hl with | [_, _], _ => rfl
  have G_l_draw : FnOk P w K mg base CX0 1 T.a_l_draw T.d_l_draw ["_law_bag_here", "_law_many"] (sp_l_draw K) := ok_l_draw T
  have b_l_draw := T.F_l_draw.bindsN (ps := ["_law_bag_here", "_law_many"]) fun _ _ _ _ _ _ us hl => match us, hl with | [_, _], _ => rfl
  refine fd_ok T.F_l_one sc_l_one (fun vs H Q E h => ?_) (fun cdv A outer s H0 vs Q E hr h => ?_)
  · obtain ⟨_, _, _, _, _, _, _, _, _, _, rfl, _⟩ := h
    rfl
  · obtain ⟨F0, B, C, b, y_size_here, p_y_some, ws_y_some, y_some, r, b', rfl, hS0, hB, hS_y_some, hl_y_some, hA_y_some, nm_y_some, hm, hQ⟩ := h
    refine ⟨_, (pss_cons (ps_set (i := 3) sc_l_one.nd rfl (.inl rfl) (pe_call G_l_bits (hr.mono (by decide)) (by rfl) T.g_l_bits T.F_l_bits.kp b_l_bits .nil pass0 (pa_cons (pv 0) (pa_cons (pe_call G_l_draw (hr.mono (by decide)) (by rfl) T.g_l_draw T.F_l_draw.kp b_l_draw .nil pass0 (pa_cons (pv 0) (pa_cons (pe_op op_add (pv 1) pe_int) pa_nil))) pa_nil)))) (pss_cons (ps_set (i := 4) sc_l_one.nd rfl (.inl rfl) (pe_call G_l_draw (hr.mono (by decide)) (by rfl) T.g_l_draw T.F_l_draw.kp b_l_draw .nil pass0 (pa_cons (pv 0) (pa_cons pe_int pa_nil)))) (pss_cut (ps_if (PW.pt (pw_and (pt_cmpR (op_neD hr.units) (pv 2) (pe_lst pa_nil) (nomark _)) (pw_and1 (pt_cmpR op_lt (pv 4) pe_int (nomark _))))) (pss_cons (ps_set (i := 5) sc_l_one.nd rfl (.inl rfl) (pe_bm PySem.F.plainAttrs_str PySem.F.slot_str_strip PySem.F.type_str_strip mt_stripChars (pe_ix ix_list (pv 2) (pe_call G_l_draw (hr.mono (by decide)) (by rfl) T.g_l_draw T.F_l_draw.kp b_l_draw .nil pass0 (pa_cons (pv 0) (pa_cons (pe_callB call_lenL (by rfl) T.n_len (by decide +kernel) (pa_cons (pv 2) pa_nil)) pa_nil))) (fun _ _ => rfl)) (pa_cons pe_str pa_nil))) (pss_cons (ps_set (i := 6) sc_l_one.nd rfl (.inl rfl) (pe_dget2 (hu_of hr) (pe_disp (pps_cons pe_str pe_str (pps_cons pe_str pe_str pps_nil)) (by rfl) (by rfl) (fun z => by cases z) (by decide)) (pe_slice sl_str (pv 5) (po_some (pe_un un_neg pe_int)) po_none) pe_str ⟨by rfl, by rfl, by rfl, by rfl⟩)) (pss_cons (ps_set (i := 7) sc_l_one.nd rfl (.inl rfl) (pe_call G_l_draw (hr.mono (by decide)) (by rfl) T.g_l_draw T.F_l_draw.kp b_l_draw .nil pass0 (pa_cons (pv 0) (pa_cons (pe_op op_add (pe_callB call_len_str (by rfl) T.n_len (by decide +kernel) (pa_cons (pv 5) pa_nil)) pe_int) pa_nil)))) (pss_one (ps_set (i := 3) sc_l_one.nd rfl (.inl rfl) (pe_ix ix_list (pe_lst (pa_cons (pe_slice sl_str (pv 5) po_none (po_some (pv 7))) (pa_cons (pe_op op_add_str (pv 5) (pe_ix ix_str pe_str (pe_call G_l_draw (hr.mono (by decide)) (by rfl) T.g_l_draw T.F_l_draw.kp b_l_draw .nil pass0 (pa_cons (pv 0) (pa_cons pe_int pa_nil))) (fun _ _ => rfl))) (pa_cons (pe_op op_add_str (pe_slice sl_str (pv 5) po_none (po_some (pe_un un_neg pe_int))) (pv 6)) pa_nil)))) (pv 4) (fun _ _ => rfl))))))) pss_nil) (pss_cut (ps_if (pt_cmpR op_eq (pv 4) pe_int (nomark _)) (pss_one (ps_set (i := 3) sc_l_one.nd rfl (.inl rfl) (pe_op op_add_str (pv 3) (pe_call G_l_bits (hr.mono (by decide)) (by rfl) T.g_l_bits T.F_l_bits.kp b_l_bits .nil pass0 (pa_cons (pv 0) (pa_cons (pe_op op_sub (pv 1) (pe_callB call_len_str (by rfl) T.n_len (by decide +kernel) (pa_cons (pv 3) pa_nil))) pa_nil)))))) pss_nil) (pss_cons (ps_set (i := 3) sc_l_one.nd rfl (.inl rfl) (pe_slice sl_str (pv 3) po_none (po_some (pv 1)))) (pss_one (ps_ret (pe_op op_add_str (pv 3) (pe_op op_mulS pe_str (pe_callTy call_toI (by rfl) T.n_int (by decide +kernel) (pa_cons (pe_cmpR op_lt (pe_callB call_len_str (by rfl) T.n_len (by decide +kernel) (pa_cons (pv 3) pa_nil)) (pv 1) (nomark _)) pa_nil))))))))))), ?_⟩
    have g0 : Gr (Bc B C) F0 H0 F0 H0 := Gr.refl hS0
    unfold m_l_one at hm
    refine p_seq ?_
    refine p_asg ?_
    obtain ⟨r1, b2, hb3, hm⟩ := bnd2 hm
    refine ⟨(V.ref B), rfl, (V.ref B), rfl, (V.int y_size_here), rfl, _, _, rfl, rfl, F0, B, C, b, (y_size_here + (1 : Int)), r1, b2, rfl, g0.fh, hB, hb3, fun F4 H5 g6 hB7 => ?_⟩
    have g9 := Gr.trans g0 g6
    obtain ⟨r10, b11, hb12, hm⟩ := bnd2 hm
    refine ⟨F4, B, C, b2, r1, r10, b11, rfl, g9.fh, hB7, hb12, fun F13 H14 g15 hB16 gs17 => ?_⟩
    have g18 := Gr.trans g9 g15
    refine p_name ?_
    refine p_nx ?_
    refine p_seq ?_
    refine p_asg ?_
    obtain ⟨r19, b20, hb21, hm⟩ := bnd2 hm
    refine ⟨(V.ref B), rfl, F13, B, C, b11, (5 : Int), r19, b20, rfl, g18.fh, hB16, hb21, fun F22 H23 g24 hB25 => ?_⟩
    have g27 := Gr.trans g18 g24
    refine p_name ?_
    refine p_nx ?_
    obtain ⟨y_bits_here28, b29, hj30, hm⟩ := bnd2 hm
    refine ⟨fun σ' H' => ∃ (F' : Hp) (o_y_near : Option V) (o_y_turned : Option V) (o_y_cut : Option V), σ' = [(some (V.ref B)), (some (V.int y_size_here)), (some (V.ref p_y_some)), (some (V.str y_bits_here28)), (some (V.int r19)), o_y_near, o_y_turned, o_y_cut] ∧ Gr (Bc B C) F0 H0 F' H' ∧ Same F22 F' ∧ GS y_bits_here28 ∧ BagAt F' H' B C b29, ?_, ?_⟩
    · refine p_if ?_
      refine ⟨(V.ref p_y_some), rfl, (by show 0 ≤ sizeLine; decide), fun p31 np32 => ?_⟩
      have nb33 := hB25.nb np32
      have g34 := g27.own (o := (.lst [])) np32
      have hB35 := hB25.own (o := (.lst [])) np32
      have ow36 : Ow H0 F22 (upd H23 p31 (.lst [])) p31 [] := Ow.new g27 np32
      have rH38 : R K (upd H23 p31 (.lst [])) (V.ref p_y_some) y_some := (R.mkl (g34.seq nm_y_some hS_y_some) hl_y_some (RpA.up (hA_y_some.up (Same.trans g6.ff (Same.trans g15.ff g24.ff))) g34.fh))
      have rH39 : R K (upd H23 p31 (.lst [])) (V.ref p31) ([] : (List Str)) := (R.mkl ow36.sq (by show 0 ≤ sizeLine; decide) (RpA.up RpA.nil g34.fh))
      refine ⟨_, _, (Rp.dp _ _ rH38), (Rp.dp _ _ rH39), (R.shaped rH38), (R.shaped rH39), _, rfl, ?_⟩
      refine andJT (M := M0) (F := F22) (c := ((!eqD y_some ([] : (List Str))) && (decide (r19 < (3 : Int))))) (P := fun _ _ => True) (fun ha => ?_) (fun ha => ⟨(anF ha), trivial⟩) g34.fh ?_
      · intro Q43 q44
        refine ⟨(V.int r19), rfl, _, _, rfl, rfl, _, rfl, (qTb ha (q44 _ _ (Gr.refl (M := M0) g34.fh) trivial))⟩
      intro F45 H46 g47 hB48
      have g49 := Gr.trans g34 (Gr.of0 g47)
      have ow50 := ow36.gr0 g47
      have hB51 := hB35.gr0 g47
      refine (iteB (fun hc => ?_) (fun hc => ?_))
      · have hj30 := ifT hc hj30
        refine p_seq ?_
        refine p_asg ?_
        obtain ⟨r52, b53, hb54, hj30⟩ := bnd2 hj30
        refine ⟨(V.ref p_y_some), rfl, (V.ref B), rfl, (V.ref p_y_some), rfl, p_y_some, ws_y_some, _, rfl, (.inl (g49.seq nm_y_some hS_y_some)), (RL.len (hA_y_some.up (Same.trans g6.ff (Same.trans g15.ff (Same.trans g24.ff g47.ff))))), F45, B, C, b20, (((y_some).length : Nat) : Int), r52, b53, rfl, g49.fh, hB51, hb54, fun F55 H56 g57 hB58 => ?_⟩
        have g60 := Gr.trans g49 g57
        have ow61 := ow50.gr g57 nb33
        obtain ⟨t62, hb63, hj30⟩ := bnd hj30
        obtain ⟨v64, ha65, r66⟩ := RL.at (hA_y_some.up (Same.trans g6.ff (Same.trans g15.ff (Same.trans g24.ff (Same.trans g47.ff g57.ff))))) hb63
        obtain ⟨rfl, gs67⟩ := R.str_v r66
        refine ⟨p_y_some, ws_y_some, _, (V.str t62), rfl, rfl, (g60.seq nm_y_some hS_y_some), ha65, rfl, _, _, rfl, rfl, (gs67 : GS t62).len, ?_⟩
        obtain ⟨y_near68, hb69, hj30⟩ := bnd hj30
        have hx70 : (Txt.stripChars t62 ("*" : Str)) = y_near68 := sjoin hb69
        have gs71 : GS y_near68 := hx70 ▸ ((GS.strip (gs67 : GS t62) ("*" : Str)) : GS (Txt.stripChars t62 ("*" : Str)))
        refine p_nm (v' := (V.str y_near68)) (congrArg V.str hx70) ?_
        refine p_nx ?_
        refine p_seq ?_
        refine p_asg ?_
        refine rd_dgets (k := (cutS y_near68 (some (-(1 : Int))) none)) (d := ("" : Str)) _ [(("0" : Str), ("1" : Str)), (("1" : Str), ("0" : Str))] rfl (by decide) (by decide +kernel) (fun H1 Q q => ⟨(V.str y_near68), rfl, _, rfl, _, rfl, _, rfl, (gs71 : GS y_near68).len, q⟩) (fun H1 Q q => q) (fun p72 np73 => ?_)
        have ne74 := ow61.ne np73
        have nb75 := hB58.nb np73
        have g76 := g60.own (o := (.dK (kvS [(("0" : Str), ("1" : Str)), (("1" : Str), ("0" : Str))]))) np73
        have ow77 := ow61.own (o := (.dK (kvS [(("0" : Str), ("1" : Str)), (("1" : Str), ("0" : Str))]))) np73
        have hB78 := hB58.own (o := (.dK (kvS [(("0" : Str), ("1" : Str)), (("1" : Str), ("0" : Str))]))) np73
        obtain ⟨y_turned79, hb80, hj30⟩ := bnd hj30
        have hx81 : (dgetS [(("0" : Str), ("1" : Str)), (("1" : Str), ("0" : Str))] (cutS y_near68 (some (-(1 : Int))) none) ("" : Str)) = y_turned79 := sjoin hb80
        have gs82 : GS y_turned79 := hx81 ▸ ((GS.dg (fun kv h => by simp only [List.mem_cons, List.not_mem_nil, or_false] at h; rcases h with rfl | rfl <;> exact ⟨by decide +kernel, by decide +kernel⟩) ⟨by decide +kernel, by decide +kernel⟩) : GS (dgetS [(("0" : Str), ("1" : Str)), (("1" : Str), ("0" : Str))] (cutS y_near68 (some (-(1 : Int))) none) ("" : Str)))
        refine p_nm (v' := (V.str y_turned79)) (congrArg V.str hx81) ?_
        refine p_nx ?_
        refine p_seq ?_
        refine p_asg ?_
        obtain ⟨r83, b84, hb85, hj30⟩ := bnd2 hj30
        refine ⟨(V.ref B), rfl, (V.str y_near68), rfl, _, rfl, (gs71 : GS y_near68).len, _, _, rfl, rfl, F55, B, C, b53, (((y_near68.length : Nat) : Int) + (1 : Int)), r83, b84, rfl, g76.fh, hB78, hb85, fun F86 H87 g88 hB89 => ?_⟩
        have g91 := Gr.trans g76 g88
        have ow92 := ow77.gr g88 nb33
        refine p_name ?_
        refine p_nx ?_
        refine p_asg ?_
        obtain ⟨r93, b94, hb95, hj30⟩ := bnd2 hj30
        refine ⟨(V.str y_near68), rfl, (V.int r83), rfl, _, rfl, _, rfl, (gs71 : GS y_near68).len, (V.str y_near68), rfl, (V.ref B), rfl, F86, B, C, b84, (2 : Int), r93, b94, rfl, g91.fh, hB89, hb95, fun F96 H97 g98 hB99 => ?_⟩
        have g101 := Gr.trans g91 g98
        have ow102 := ow92.gr g98 nb33
        obtain ⟨c103, hb104, hj30⟩ := bnd hj30
        obtain ⟨t105, hb106, hj30⟩ := bnd hj30
        obtain ⟨hk107, rfl⟩ := catS_ok hb106
        obtain ⟨t108, hb109, hj30⟩ := bnd hj30
        obtain ⟨hk110, rfl⟩ := catS_ok hb109
        refine ⟨_, _, c103, rfl, rfl, (⟨by decide +kernel, by decide +kernel⟩ : GS ("01" : Str)).len, hb104, _, _, rfl, rfl, hk107, (V.str y_near68), rfl, _, rfl, _, rfl, _, rfl, (gs71 : GS y_near68).len, (V.str y_turned79), rfl, _, _, rfl, rfl, hk110, (by show 3 ≤ sizeLine; decide), fun p111 np112 => ?_⟩
        have ne113 := ow102.ne np112
        have nb114 := hB99.nb np112
        have g115 := g101.own (o := (.lst [(V.str (cutS y_near68 none (some r83))), (V.str (y_near68 ++ (sgn c103))), (V.str ((cutS y_near68 none (some (-(1 : Int)))) ++ y_turned79))])) np112
        have ow116 := ow102.own (o := (.lst [(V.str (cutS y_near68 none (some r83))), (V.str (y_near68 ++ (sgn c103))), (V.str ((cutS y_near68 none (some (-(1 : Int)))) ++ y_turned79))])) np112
        have hB117 := hB99.own (o := (.lst [(V.str (cutS y_near68 none (some r83))), (V.str (y_near68 ++ (sgn c103))), (V.str ((cutS y_near68 none (some (-(1 : Int)))) ++ y_turned79))])) np112
        have ow118 : Ow H0 F96 (upd H97 p111 (.lst [(V.str (cutS y_near68 none (some r83))), (V.str (y_near68 ++ (sgn c103))), (V.str ((cutS y_near68 none (some (-(1 : Int)))) ++ y_turned79))])) p111 [(V.str (cutS y_near68 none (some r83))), (V.str (y_near68 ++ (sgn c103))), (V.str ((cutS y_near68 none (some (-(1 : Int)))) ++ y_turned79))] := Ow.new g101 np112
        have hA119 : RL K F96 [(V.str (cutS y_near68 none (some r83))), (V.str (y_near68 ++ (sgn c103))), (V.str ((cutS y_near68 none (some (-(1 : Int)))) ++ y_turned79))] ([(cutS y_near68 none (some r83)), (y_near68 ++ (sgn c103)), ((cutS y_near68 none (some (-(1 : Int)))) ++ y_turned79)] : List Str) := (RpA.cons (Rp.str (cutS y_near68 none (some r83)) (GS.cut gs71 none (some r83))) (RpA.cons (Rp.str (y_near68 ++ (sgn c103)) (GS.cat gs71 (GS.sg ⟨by decide +kernel, by decide +kernel⟩ (codeAt_mem hb104)) hb106)) (RpA.cons (Rp.str ((cutS y_near68 none (some (-(1 : Int)))) ++ y_turned79) (GS.cat (GS.cut gs71 none (some (-(1 : Int)))) gs82 hb109)) RpA.nil)))
        obtain ⟨t120, hb121, hj30⟩ := bnd hj30
        obtain ⟨v122, ha123, r124⟩ := RL.at hA119 hb121
        obtain ⟨rfl, gs125⟩ := R.str_v r124
        refine ⟨(V.int r19), rfl, p111, [(V.str (cutS y_near68 none (some r83))), (V.str (y_near68 ++ (sgn c103))), (V.str ((cutS y_near68 none (some (-(1 : Int)))) ++ y_turned79))], _, (V.str t120), rfl, rfl, ow118.sq, ha123, ?_⟩
        refine p_name ?_
        obtain ⟨rfl, rfl⟩ := pjoin hj30
        exact ⟨F96, (some (V.str y_near68)), (some (V.str y_turned79)), (some (V.int r83)), rfl, g115, (Same.trans g47.ff (Same.trans g57.ff (Same.trans g88.ff g98.ff))), gs125, hB117⟩
      · have hj30 := ifF hc hj30
        refine p_next ?_
        obtain ⟨rfl, rfl⟩ := pjoin hj30
        exact ⟨F45, none, none, none, rfl, g49, g47.ff, gs17, hB51⟩
    intro σ126 H127 hMid
    obtain ⟨F128, o_y_near134, o_y_turned135, o_y_cut136, rfl, g129, sm130, gs_y_bits_here28131, hB132⟩ := hMid
    obtain ⟨y_bits_here137, b138, hj139, hm⟩ := bnd2 hm
    refine ⟨fun σ' H' => ∃ (F' : Hp), σ' = [(some (V.ref B)), (some (V.int y_size_here)), (some (V.ref p_y_some)), (some (V.str y_bits_here137)), (some (V.int r19)), o_y_near134, o_y_turned135, o_y_cut136] ∧ Gr (Bc B C) F0 H0 F' H' ∧ Same F128 F' ∧ GS y_bits_here137 ∧ BagAt F' H' B C b138, ?_, ?_⟩
    · refine p_if ?_
      refine ⟨(V.int r19), rfl, rfl, _, rfl, (iteB (fun hc => ?_) (fun hc => ?_))⟩
      · have hj139 := ifT hc hj139
        refine p_asg ?_
        obtain ⟨r140, b141, hb142, hj139⟩ := bnd2 hj139
        refine ⟨(V.str y_bits_here28), rfl, (V.ref B), rfl, (V.int y_size_here), rfl, (V.str y_bits_here28), rfl, _, rfl, (gs_y_bits_here28131 : GS y_bits_here28).len, _, _, rfl, rfl, F128, B, C, b29, (y_size_here - ((y_bits_here28.length : Nat) : Int)), r140, b141, rfl, g129.fh, hB132, hb142, fun F143 H144 g145 hB146 gs147 => ?_⟩
        have g148 := Gr.trans g129 g145
        obtain ⟨t149, hb150, hj139⟩ := bnd hj139
        obtain ⟨hk151, rfl⟩ := catS_ok hb150
        refine ⟨_, _, rfl, rfl, hk151, ?_⟩
        obtain ⟨y_bits_here152, hx153⟩ : ∃ z_, (y_bits_here28 ++ r140) = z_ := ⟨_, rfl⟩
        try rw [hx153] at hj139
        have gs154 : GS y_bits_here152 := hx153 ▸ ((GS.cat gs_y_bits_here28131 gs147 hb150) : GS (y_bits_here28 ++ r140))
        refine p_nm (v' := (V.str y_bits_here152)) (congrArg V.str hx153) ?_
        obtain ⟨rfl, rfl⟩ := pjoin hj139
        exact ⟨F143, rfl, g148, g145.ff, gs154, hB146⟩
      · have hj139 := ifF hc hj139
        refine p_next ?_
        obtain ⟨rfl, rfl⟩ := pjoin hj139
        exact ⟨F128, rfl, g129, (Same.refl _), gs_y_bits_here28131, hB132⟩
    intro σ155 H156 hMid
    obtain ⟨F157, rfl, g158, sm159, gs_y_bits_here137160, hB161⟩ := hMid
    refine p_seq ?_
    refine p_asg ?_
    refine ⟨(V.str y_bits_here137), rfl, (V.int y_size_here), rfl, _, rfl, _, rfl, (gs_y_bits_here137160 : GS y_bits_here137).len, ?_⟩
    obtain ⟨y_bits_here163, hb164, hm⟩ := bnd hm
    have hx165 : (cutS y_bits_here137 none (some y_size_here)) = y_bits_here163 := sjoin hb164
    have gs166 : GS y_bits_here163 := hx165 ▸ ((GS.cut gs_y_bits_here137160 none (some y_size_here)) : GS (cutS y_bits_here137 none (some y_size_here)))
    refine p_nm (v' := (V.str y_bits_here163)) (congrArg V.str hx165) ?_
    refine p_nx ?_
    refine p_ret ?_
    obtain ⟨t167, hb168, hm⟩ := bnd hm
    obtain ⟨hk169, rfl⟩ := mulS_ok hb168
    obtain ⟨t170, hb171, hm⟩ := bnd hm
    obtain ⟨hk172, rfl⟩ := catS_ok hb171
    obtain ⟨rfl, rfl⟩ := pjoin hm
    refine ⟨(V.str y_bits_here163), rfl, (V.str y_bits_here163), rfl, _, rfl, (gs166 : GS y_bits_here163).len, (V.int y_size_here), rfl, _, _, rfl, rfl, _, rfl, _, _, rfl, rfl, hk169, _, _, rfl, rfl, hk172, (hQ _ _ g158 hB161 (GS.cat gs166 (GS.mul ⟨by decide +kernel, by decide +kernel⟩ hb168) hb171))⟩
end K02
namespace K02
open PySem PySem.Spec PyProof.Rows L2 TL G
theorem ok_l_span {P : Program} {w : World} {K : PySem.W.Frag} {mg : Str → Option Value} {base : Heap} (T : Txt K mg) : FnOk P w K mg base CX0 2 T.a_l_span T.d_l_span ["_law_one_here", "_law_size_here"] (sp_l_span K) := by
  have G_l_worth : FnOk P w K mg base CX0 1 T.a_l_worth T.d_l_worth ["_law_bits_here"] (sp_l_worth K) := ok_l_worth T
  have b_l_worth := T.F_l_worth.bindsN (ps := ["_law_bits_here"]) fun _ _ _ _ _ _ us hl => match us, hl with | [_], _ => rfl
  refine fd_ok T.F_l_span sc_l_span (fun vs H Q E h => ?_) (fun cdv A outer s H0 vs Q E hr h => ?_)
  · obtain ⟨_, _, _, _, rfl, _⟩ := h
    rfl
  · obtain ⟨F0, y_one_here, y_size_here, r, rfl, hS0, gs_y_one_here, hm, hQ⟩ := h
    refine ⟨_, (pss_cons (ps_set (i := 2) sc_l_span.nd rfl (.inl rfl) (pe_bm PySem.F.plainAttrs_str PySem.F.slot_str_strip PySem.F.type_str_strip mt_stripChars (pv 0) (pa_cons pe_str pa_nil))) (pss_cons (ps_set (i := 3) sc_l_span.nd rfl (.inl rfl) (pe_op op_sub (pv 1) (pe_callB call_len_str (by rfl) T.n_len (by decide +kernel) (pa_cons (pv 2) pa_nil)))) (pss_one (ps_ret (pe_tup (pa_cons (pe_call G_l_worth (hr.mono (by decide)) (by rfl) T.g_l_worth T.F_l_worth.kp b_l_worth .nil pass0 (pa_cons (pe_op op_add_str (pv 2) (pe_op op_mulS pe_str (pv 3))) pa_nil)) (pa_cons (pe_op op_add (pe_call G_l_worth (hr.mono (by decide)) (by rfl) T.g_l_worth T.F_l_worth.kp b_l_worth .nil pass0 (pa_cons (pe_op op_add_str (pv 2) (pe_op op_mulS pe_str (pv 3))) pa_nil)) pe_int) pa_nil))))))), ?_⟩
    have g0 : Gr M0 F0 H0 F0 H0 := Gr.refl hS0
    unfold m_l_span at hm
    refine p_seq ?_
    refine p_asg ?_
    refine ⟨(V.str y_one_here), rfl, rfl, _, _, rfl, rfl, (gs_y_one_here : GS y_one_here).len, ?_⟩
    obtain ⟨y_bits_here1, hb2, hm⟩ := bnd hm
    have hx3 : (Txt.stripChars y_one_here ("*" : Str)) = y_bits_here1 := sjoin hb2
    have gs4 : GS y_bits_here1 := hx3 ▸ ((GS.strip (gs_y_one_here : GS y_one_here) ("*" : Str)) : GS (Txt.stripChars y_one_here ("*" : Str)))
    refine p_nm (v' := (V.str y_bits_here1)) (congrArg V.str hx3) ?_
    refine p_nx ?_
    refine p_seq ?_
    refine p_asg ?_
    refine ⟨(V.int y_size_here), rfl, (V.str y_bits_here1), rfl, _, rfl, (gs4 : GS y_bits_here1).len, _, _, rfl, rfl, ?_⟩
    obtain ⟨y_left5, hb6, hm⟩ := bnd hm
    have hx7 : (y_size_here - ((y_bits_here1.length : Nat) : Int)) = y_left5 := sjoin hb6
    refine p_nm (v' := (V.int y_left5)) (congrArg V.int hx7) ?_
    refine p_nx ?_
    refine p_ret ?_
    obtain ⟨t8, hb9, hm⟩ := bnd hm
    obtain ⟨hk10, rfl⟩ := mulS_ok hb9
    obtain ⟨t11, hb12, hm⟩ := bnd hm
    obtain ⟨hk13, rfl⟩ := catS_ok hb12
    obtain ⟨r14, hb15, hm⟩ := bnd hm
    refine ⟨(V.str y_bits_here1), rfl, (V.int y_left5), rfl, _, _, rfl, rfl, hk10, _, _, rfl, rfl, hk13, (y_bits_here1 ++ (Txt.mul ("0" : Str) y_left5)), r14, rfl, (GS.cat gs4 (GS.mul ⟨by decide +kernel, by decide +kernel⟩ hb9) hb12), hb15, fun F16 H17 g18 => ?_⟩
    have g20 := Gr.apart g0 g18
    obtain ⟨t21, hb22, hm⟩ := bnd hm
    obtain ⟨hk23, rfl⟩ := mulS_ok hb22
    obtain ⟨t24, hb25, hm⟩ := bnd hm
    obtain ⟨hk26, rfl⟩ := catS_ok hb25
    obtain ⟨r27, hb28, hm⟩ := bnd hm
    refine ⟨(V.str y_bits_here1), rfl, (V.int y_left5), rfl, _, _, rfl, rfl, hk23, _, _, rfl, rfl, hk26, (y_bits_here1 ++ (Txt.mul ("1" : Str) y_left5)), r27, rfl, (GS.cat gs4 (GS.mul ⟨by decide +kernel, by decide +kernel⟩ hb22) hb25), hb28, fun F29 H30 g31 => ?_⟩
    have g33 := Gr.apart g20 g31
    refine ⟨_, _, rfl, rfl, (by show 2 ≤ sizeLine; decide), fun p34 np35 => ?_⟩
    have sm36 := same_new (o := (.tup [(V.int r14), (V.int (r27 + (1 : Int)))])) (g33.noneF np35)
    have g37 := g33.frz (o := (.tup [(V.int r14), (V.int (r27 + (1 : Int)))])) np35
    have r38 : R K (upd F0 p34 (.tup [(V.int r14), (V.int (r27 + (1 : Int)))])) (.ref p34) ((r14, (r27 + (1 : Int))) : (Int × Int)) := R.mk2 fzT (Rp.int r14) (Rp.int (r27 + (1 : Int)))
    obtain rfl := sjoin hm
    exact (hQ _ _ _ g37 r38)
end K02
namespace K02
open PySem PySem.Spec PyProof.Rows L2 TL G
theorem ok_al1 {P : Program} {w : World} {K : PySem.W.Frag} {mg : Str → Option Value} {base : Heap} (T : Txt K mg) (n : Nat) (ih : FnOk P w K mg base CX0 n T.a_l_alike T.d_l_alike ["_law_found", "_law_due"] (spA n K)) : FnOk P w K mg base CX0 (n + 1) T.a_l_alike T.d_l_alike ["_law_found", "_law_due"] (sp_alike n K) := by
  have b_l_alike := T.F_l_alike.bindsN (ps := ["_law_found", "_law_due"]) fun _ _ _ _ _ _ us hl => match us, hl with | [_, _], _ => rfl
  refine fd_ok T.F_l_alike sc_l_alike (fun vs H Q E h => ?_) (fun cdv A outer s H0 vs Q E hr h => ?_)
  · obtain ⟨_, _, _, rfl, _⟩ := h
    rfl
  · obtain ⟨v1, v2, d, rfl, r1, r2, hd, hQ⟩ := h
    refine ⟨_, (pss_cons (ps_if (pt_val (pe_callB call_isiT (by rfl) T.n_isinstance (by decide +kernel) (pa_cons (pv 1) (pa_cons (pe_tup (pa_cons (pe_bltn (v := .ty "list") (by rfl) T.n_list (by decide +kernel) rfl) (pa_cons (pe_bltn (v := .ty "tuple") (by rfl) T.n_tuple (by decide +kernel) rfl) pa_nil))) pa_nil))))
        (pss_cons (ps_if (PW.pt (pw_or (pt_not (pt_val (pe_callB call_isiT (by rfl) T.n_isinstance (by decide +kernel) (pa_cons (pv 0) (pa_cons (pe_tup (pa_cons (pe_bltn (v := .ty "list") (by rfl) T.n_list (by decide +kernel) rfl) (pa_cons (pe_bltn (v := .ty "tuple") (by rfl) T.n_tuple (by decide +kernel) rfl) pa_nil))) pa_nil)))))
            (pw_or1 (pt_cmpR op_ne (pe_callB call_isi (by rfl) T.n_isinstance (by decide +kernel) (pa_cons (pv 0) (pa_cons (pe_bltn (v := .ty "list") (by rfl) T.n_list (by decide +kernel) rfl) pa_nil))) (pe_callB call_isi (by rfl) T.n_isinstance (by decide +kernel) (pa_cons (pv 1) (pa_cons (pe_bltn (v := .ty "list") (by rfl) T.n_list (by decide +kernel) rfl) pa_nil))) (nomark _))))) (pss_one (ps_ret pe_bl)) pss_nil)
          (pss_one (ps_ret (pe_and (pe_cmpR op_eq (pe_callB call_lenL (by rfl) T.n_len (by decide +kernel) (pa_cons (pv 0) pa_nil)) (pe_callB call_lenL (by rfl) T.n_len (by decide +kernel) (pa_cons (pv 1) pa_nil)) (nomark _))
            (pe_one (pe_callB (cr_all rfl) (by rfl) T.n_all (by decide +kernel) (pa_cons (pe_lc (own := [("_law_k", 2)]) rfl sc_l_alike.nd (pi_range1 (by rfl) T.n_range (pa_cons (pe_callB call_lenL (by rfl) T.n_len (by decide +kernel) (pa_cons (pv 1) pa_nil)) pa_nil))
              (blkOk_by (own := [("_law_k", 2)]) (N := N_l_alike) (sc := defScope s_l_alike) (by decide +kernel)) (fun _ _ _ _ _ => pg_name (i := 2) sc_l_alike.nd rfl (Or.inl rfl)) (fun _ _ _ _ _ => pts_nil)
              (fun _ _ _ _ _ => pe_call ih hr (by rfl) T.g_l_alike T.F_l_alike.kp b_l_alike .nil pass0 (pa_cons (pe_ix (r := rIx K) ix_seq (pv 0) (pv 2) (fun _ _ => rfl)) (pa_cons (pe_ix (r := rIx K) ix_seq (pv 1) (pv 2) (fun _ _ => rfl)) pa_nil)))) pa_nil))))))) pss_nil)
      (pss_cons (ps_if (PW.pt (pw_or (pt_val (pe_callB call_isi (by rfl) T.n_isinstance (by decide +kernel) (pa_cons (pv 1) (pa_cons (pe_bltn (v := .ty "bool") (by rfl) T.n_bool (by decide +kernel) rfl) pa_nil)))) (pw_or1 (pt_val (pe_callB call_isi (by rfl) T.n_isinstance (by decide +kernel) (pa_cons (pv 0) (pa_cons (pe_bltn (v := .ty "bool") (by rfl) T.n_bool (by decide +kernel) rfl) pa_nil)))))))
          (pss_one (ps_ret (pe_and (pe_callB call_isi (by rfl) T.n_isinstance (by decide +kernel) (pa_cons (pv 1) (pa_cons (pe_bltn (v := .ty "bool") (by rfl) T.n_bool (by decide +kernel) rfl) pa_nil))) (pe_and (pe_callB call_isi (by rfl) T.n_isinstance (by decide +kernel) (pa_cons (pv 0) (pa_cons (pe_bltn (v := .ty "bool") (by rfl) T.n_bool (by decide +kernel) rfl) pa_nil))) (pe_one (pe_cmpR op_eq (pv 0) (pv 1) (nomark _))))))) pss_nil)
        (pss_one (ps_ret (pe_and (pe_cmpR op_eq (pe_callB call_isi (by rfl) T.n_isinstance (by decide +kernel) (pa_cons (pv 0) (pa_cons (pe_bltn (v := .ty "str") (by rfl) T.n_str (by decide +kernel) rfl) pa_nil))) (pe_callB call_isi (by rfl) T.n_isinstance (by decide +kernel) (pa_cons (pv 1) (pa_cons (pe_bltn (v := .ty "str") (by rfl) T.n_str (by decide +kernel) rfl) pa_nil))) (nomark _)) (pe_one (pe_cmpR op_eq (pv 0) (pv 1) (nomark _)))))))), ?_⟩
    have g0 : Gr M0 H0 H0 H0 H0 := Gr.refl (Same.refl _)
    refine p_seq ?_
    refine p_if ?_
    refine ⟨v2, rfl, (by show 2 ≤ sizeLine; decide), fun p1 np1 => ?_⟩
    refine ⟨v2, p1, [.ty "list", .ty "tuple"], _, [.type "list", .type "tuple"], _, rfl, upd_same, .cons (.ty _) (.cons (.ty _) .nil), (r2.up (same_new np1)).ty, kit_lt r2.knd, _, rfl, ?_⟩
    have g1 := g0.frz (o := .tup [.ty "list", .ty "tuple"]) np1
    have q1 := r1.up (same_new (o := .tup [.ty "list", .ty "tuple"]) np1)
    have q2 := r2.up (same_new (o := .tup [.ty "list", .ty "tuple"]) np1)
    generalize upd H0 p1 (.tup [.ty "list", .ty "tuple"]) = H1 at g1 q1 q2 ⊢
    refine iteB (fun hc => ?_) (fun hc => ?_)
    · refine p_seq ?_
      refine p_if ?_
      refine ⟨v1, rfl, (by show 2 ≤ sizeLine; decide), fun p2 np2 => ?_⟩
      refine ⟨v1, p2, [.ty "list", .ty "tuple"], _, [.type "list", .type "tuple"], _, rfl, upd_same, .cons (.ty _) (.cons (.ty _) .nil), (q1.up (same_new np2)).ty, kit_lt q1.knd, _, rfl, ?_⟩
      have g2 := g1.frz (o := .tup [.ty "list", .ty "tuple"]) np2
      have t1 := q1.up (same_new (o := .tup [.ty "list", .ty "tuple"]) np2)
      have t2 := q2.up (same_new (o := .tup [.ty "list", .ty "tuple"]) np2)
      generalize upd H1 p2 (.tup [.ty "list", .ty "tuple"]) = H2 at g2 t1 t2 ⊢
      refine ifFr (by rw [hc]; rfl) ?_
      refine ⟨v1, rfl, v1, .ty "list", _, .type "list", _, rfl, .ty _, t1.ty, kit_one t1.knd "list" (.inl rfl), v2, rfl, v2, .ty "list", _, .type "list", _, rfl, .ty _, t2.ty, kit_one t2.knd "list" (.inl rfl), rfl, _, rfl, ?_⟩
      refine ifFr (by simp) ?_
      refine p_next ?_
      refine p_nx ?_
      refine p_ret ?_
      obtain ⟨a1, ws1, a2, ws2, ds, m, rfl, rfl, s1, s2, l1, l2, e1, e2, hn, hdp⟩ := al_sq t1 t2 hc hd
      subst hn
      refine ⟨_, rfl, a1, ws1, _, rfl, s1, rfl, _, rfl, a2, ws2, _, rfl, s2, rfl, rfl, _, rfl, ?_⟩
      refine ifTr (decide_eq_true (by rw [e1.length, e2.length])) ?_
      have hl2 : (ws2.length : Int) < 2 ^ 62 := by
        have := l2
        rw [sizeLine_eq] at this
        omega
      refine ⟨_, rfl, a2, ws2, _, rfl, s2, rfl, _, rfl, (by omega), hl2, fun D nD => ?_⟩
      refine lc_range (lo := 0) (n := ((ws2.length : Nat) : Int).toNat) (fun i H' => Gr M0 H0 H0 H2 H' ∧ Ow H0 H2 H' D (List.replicate i (.bl true))) ⟨g2.own nD, Ow.new g2 nD⟩ (fun i H' hi hP => ?_) (fun H' hP => ?_)
      · obtain ⟨g, ow⟩ := hP
        refine ⟨rfl, p_yes ?_⟩
        have hi2 : i < ws2.length := by simpa using hi
        obtain ⟨u2, hu2⟩ : ∃ u, ws2[i]? = some u := ⟨_, List.getElem?_eq_getElem hi2⟩
        obtain ⟨di, hdi, ru2⟩ := e2.get hu2
        obtain ⟨u1, hu1, ru1⟩ := e1.back hdi
        refine ⟨_, rfl, _, rfl, ix_go (sq_up s1 g.fh) hu1 ⟨_, rfl, _, rfl, ix_go (sq_up s2 g.fh) hu2 ?_⟩⟩
        refine ⟨u1, u2, di, rfl, ru1.up g.fh, ru2.up g.fh, hdp di (List.mem_of_getElem? hdi), fun F1 H3 g3 => ?_⟩
        have g4 := Gr.apart g g3
        have ow4 := ow.apart g3
        refine ⟨_, ow4.h, ?_, ?_⟩
        · rw [List.length_replicate]; omega
        · have e : List.replicate i (V.bl true) ++ [V.bl true] = List.replicate (i + 1) (V.bl true) := List.replicate_succ'.symm
          rw [e]
          exact ⟨g4.put ow4, ow4.put⟩
      · obtain ⟨g, ow⟩ := hP
        refine ⟨D, List.replicate (((ws2.length : Nat) : Int).toNat) true, rfl, ?_, ?_⟩
        · rw [List.map_replicate]; exact ow.sq
        · rw [show (List.replicate (((ws2.length : Nat) : Int).toNat) true).all id = true by simp]
          exact hQ _ _ g
    · refine p_next ?_
      refine p_nx ?_
      have hv : v1 = v2 ∧ scal v1 v2 = true := al_sc q1 q2 hc
      refine p_seq ?_
      refine p_if ?_
      refine ⟨v2, rfl, v2, .ty _, _, .type _, _, rfl, .ty _, q2.ty, kit_one q2.knd _ (.inr (.inl rfl)), _, rfl, ?_⟩
      by_cases hb : (tyD d == "bool") = true
      · refine ifTr hb ?_
        refine ifTr rfl ?_
        refine p_ret ?_
        refine ⟨v2, rfl, v2, .ty _, _, .type _, _, rfl, .ty _, q2.ty, kit_one q2.knd _ (.inr (.inl rfl)), _, rfl, ifTr hb ?_⟩
        refine ⟨v1, rfl, v1, .ty _, _, .type _, _, rfl, .ty _, q1.ty, kit_one q1.knd _ (.inr (.inl rfl)), _, rfl, ifTr hb ?_⟩
        refine ⟨v1, rfl, v2, rfl, hv.2, ?_⟩
        rw [decide_eq_true hv.1]
        exact hQ _ _ g1
      · have hb : (tyD d == "bool") = false := Bool.eq_false_iff.mpr hb
        refine ifFr hb ?_
        refine ⟨v1, rfl, v1, .ty _, _, .type _, _, rfl, .ty _, q1.ty, kit_one q1.knd _ (.inr (.inl rfl)), _, rfl, ifFr hb ?_⟩
        refine p_next ?_
        refine p_nx ?_
        refine p_ret ?_
        refine ⟨v1, rfl, v1, .ty _, _, .type _, _, rfl, .ty _, q1.ty, kit_one q1.knd _ (.inr (.inr rfl)), v2, rfl, v2, .ty _, _, .type _, _, rfl, .ty _, q2.ty, kit_one q2.knd _ (.inr (.inr rfl)), rfl, ?_⟩
        refine ⟨_, rfl, ifTr (decide_eq_true rfl) ?_⟩
        refine ⟨v1, rfl, v2, rfl, hv.2, ?_⟩
        rw [decide_eq_true hv.1]
        exact hQ _ _ g1
theorem ok_l_alike {P : Program} {w : World} {K : PySem.W.Frag} {mg : Str → Option Value} {base : Heap} (T : Txt K mg) : ∀ n : Nat, FnOk P w K mg base CX0 n T.a_l_alike T.d_l_alike ["_law_found", "_law_due"] (spA n K)
  | 0 => ⟨fun _ _ _ _ h => h.elim, fun _ _ _ _ _ _ _ _ _ _ _ _ _ h => h.elim⟩
  | n + 1 => ok_al1 T n (ok_l_alike T n)

end K02
namespace K02
open PySem PySem.Spec PyProof.Rows L2 TL G
theorem ok_l_writing {P : Program} {w : World} {K : PySem.W.Frag} {mg : Str → Option Value} {base : Heap} (T : Txt K mg) : FnOk P w K mg base CX0 1 T.a_l_writing T.d_l_writing ["_law_number", "_law_size_here"] (sp_l_writing K) := by
  refine fd_ok T.F_l_writing sc_l_writing (fun vs H Q E h => ?_) (fun cdv A outer s H0 vs Q E hr h => ?_)
  · obtain ⟨_, _, _, rfl, _⟩ := h
    rfl
  · obtain ⟨y_number, y_size_here, r, rfl, hm, hQ⟩ := h
    refine ⟨_, (pss_cons (ps_set (i := 2) sc_l_writing.nd rfl (.inl rfl) pe_str) (pss_cons (ps_for PassesOwn.never rfl (pi_range1 (by rfl) T.n_range (pa_cons (pv 1) pa_nil)) (pg_name (i := 3) sc_l_writing.nd rfl (Or.inl rfl)) (pss_one (ps_set (i := 2) sc_l_writing.nd rfl (.inl rfl) (pe_op op_add_str (pe_ix ix_str pe_str (pe_op op_and (pe_op op_shr (pv 0) (pv 3)) pe_int) (fun _ _ => rfl)) (pv 2))))) (pss_one (ps_ret (pv 2))))), ?_⟩
    have g0 : Gr M0 H0 H0 H0 H0 := Gr.refl (Same.refl _)
    unfold m_l_writing at hm
    refine p_seq ?_
    refine p_asg ?_
    refine p_name ?_
    refine p_nx ?_
    refine p_seq ?_
    refine p_for ?_
    obtain ⟨l1, hb3, hm⟩ := bnd hm
    obtain ⟨hk2, rfl⟩ := rangeO1_ok hb3
    refine ⟨(V.int y_size_here), rfl, _, rfl, hk2.1.1, hk2.1.2, ?_⟩
    obtain ⟨y_signs4, ht5, hm⟩ := bnd hm
    refine for_range (lo := (0 : Int)) (n := (y_size_here).toNat) (fun i σ' H' => ∃ (F' : Hp) (y_signs : Str) (o_y_k : Option V), σ' = [(some (V.int y_number)), (some (V.int y_size_here)), (some (V.str y_signs)), o_y_k] ∧ Gr M0 H0 H0 F' H' ∧ Same H0 F' ∧ GS y_signs ∧ m_l_writing_l1 y_number ((rangeL (0 : Int) (y_size_here).toNat).drop i) y_signs = some y_signs4) ?_ ?_ ?_
    · exact ⟨H0, ("" : Str), none, rfl, g0, (Same.refl _), ⟨by decide +kernel, by decide +kernel⟩, ht5⟩
    · intro i σ' H' hx hP
      obtain ⟨F', y_signs, o_y_k, rfl, g_, sm_, gs_y_signs, hm_⟩ := hP
      have he8 := rangeL_at (lo := (0 : Int)) hx
      rw [drop_at he8, m_l_writing_l1.eq_2] at hm_
      refine p_name ?_
      refine p_asg ?_
      obtain ⟨t9, hb10, hm_⟩ := bnd hm_
      obtain ⟨hk11, rfl⟩ := shrI_ok hb10
      obtain ⟨c12, hb13, hm_⟩ := bnd hm_
      obtain ⟨t14, hb15, hm_⟩ := bnd hm_
      obtain ⟨hk16, rfl⟩ := catS_ok hb15
      refine ⟨(V.int y_number), rfl, (V.int ((0 : Int) + ((i : Nat) : Int))), rfl, _, _, rfl, rfl, hk11, _, _, rfl, rfl, _, _, c12, rfl, rfl, (⟨by decide +kernel, by decide +kernel⟩ : GS ("01" : Str)).len, hb13, (V.str y_signs), rfl, _, _, rfl, rfl, hk16, ?_⟩
      obtain ⟨y_signs17, hx18⟩ : ∃ z_, ((sgn c12) ++ y_signs) = z_ := ⟨_, rfl⟩
      try rw [hx18] at hm_
      have gs19 : GS y_signs17 := hx18 ▸ ((GS.cat (GS.sg ⟨by decide +kernel, by decide +kernel⟩ (codeAt_mem hb13)) gs_y_signs hb15) : GS ((sgn c12) ++ y_signs))
      refine p_nm (v' := (V.str y_signs17)) (congrArg V.str hx18) ?_
      exact ⟨F', y_signs17, (some (V.int ((0 : Int) + ((i : Nat) : Int)))), rfl, g_, sm_, gs19, hm_⟩
    intro σ20 H21 hP
    obtain ⟨F22, y_signs23, o_y_k24, rfl, g25, sm26, gs_y_signs27, hm28⟩ := hP
    rw [drop_end (rangeL_len _ _).symm, m_l_writing_l1.eq_1] at hm28
    obtain rfl := sjoin hm28
    refine p_nx ?_
    refine p_ret ?_
    obtain rfl := sjoin hm
    refine ⟨(V.str y_signs23), rfl, (hQ _ _ g25 gs_y_signs27)⟩
end K02
namespace K02
open PySem PySem.Spec PyProof.Rows L2 TL G
theorem ok_l_members_right {P : Program} {w : World} {K : PySem.W.Frag} {mg : Str → Option Value} {base : Heap} (T : Txt K mg) : FnOk P w K mg base CX0 10 T.a_l_members_right T.d_l_members_right ["_law_bag_here", "_law_one_here", "_law_size_here"] (sp_l_members_right K) := by
  have G_l_span : FnOk P w K mg base CX0 2 T.a_l_span T.d_l_span ["_law_one_here", "_law_size_here"] (sp_l_span K) := ok_l_span T
  have b_l_span := T.F_l_span.bindsN (ps := ["_law_one_here", "_law_size_here"]) fun _ _ _ _ _ _ us hl => match us, hl with | [_, _], _ => rfl
  have G_l_worth : FnOk P w K mg base CX0 1 T.a_l_worth T.d_l_worth ["_law_bits_here"] (sp_l_worth K) := ok_l_worth T
  have b_l_worth := T.F_l_worth.bindsN (ps := ["_law_bits_here"]) fun _ _ _ _ _ _ us hl => match us, hl with | [_], _ => rfl
  have G_l_bits : FnOk P w K mg base CX0 2 T.a_l_bits T.d_l_bits ["_law_bag_here", "_law_size_here"] (sp_l_bits K) := ok_l_bits T
  have b_l_bits := T.F_l_bits.bindsN (ps := ["_law_bag_here", "_law_size_here"]) fun _ _ _ _ _ _ us hl => match us, hl with | [_, _], _ => rfl
  have G_l_writing : FnOk P w K mg base CX0 1 T.a_l_writing T.d_l_writing ["_law_number", "_law_size_here"] (sp_l_writing K) := ok_l_writing T
  have b_l_writing := T.F_l_writing.bindsN (ps := ["_law_number", "_law_size_here"]) fun _ _ _ _ _ _ us hl => match us, hl with | [_, _], _ => rfl
  have G_has : FnOk P w K mg base CX0 3 T.a_has T.d_has ["pattern", "address", "width"] (sp_has K) := ok_has T
  have b_has := T.F_has.bindsN (ps := ["pattern", "address", "width"]) fun _ _ _ _ _ _ us hl => match us, hl with | [_, _, _], _ => rfl
  have G_l_alike : FnOk P w K mg base CX0 9 T.a_l_alike T.d_l_alike ["_law_found", "_law_due"] (sp_alike 8 K) := ok_l_alike T 9
  have b_l_alike := T.F_l_alike.bindsN (ps := ["_law_found", "_law_due"]) fun _ _ _ _ _ _ us hl => match us, hl with | [_, _], _ => rfl
  refine fd_ok T.F_l_members_right sc_l_members_right (fun vs H Q E h => ?_) (fun cdv A outer s H0 vs Q E hr h => ?_)
  · obtain ⟨_, _, _, _, _, _, _, _, rfl, _⟩ := h
    rfl
  · obtain ⟨F0, B, C, b, y_one_here, y_size_here, r, b', rfl, hS0, hB, gs_y_one_here, hm, hQ⟩ := h
    refine ⟨_, (pss_cons (ps_set (i := 3) sc_l_members_right.nd rfl (.inl rfl) (pe_bm PySem.F.plainAttrs_str PySem.F.slot_str_strip PySem.F.type_str_strip mt_stripChars (pv 1) (pa_cons pe_str pa_nil))) (pss_cons (ps_asg (pe_call G_l_span (hr.mono (by decide)) (by rfl) T.g_l_span T.F_l_span.kp b_l_span .nil pass0 (pa_cons (pv 1) (pa_cons (pv 2) pa_nil))) (pg_tup rfl (pgs_cons (pg_name (i := 4) sc_l_members_right.nd rfl (Or.inl rfl)) (pgs_cons (pg_name (i := 5) sc_l_members_right.nd rfl (Or.inl rfl)) pgs_nil)))) (pss_cons (ps_set (i := 6) sc_l_members_right.nd rfl (.inl rfl) (pe_lst (pa_cons (pv 4) (pa_cons (pe_op op_sub (pv 5) pe_int) (pa_cons (pe_op op_sub (pv 4) pe_int) (pa_cons (pv 5) (pa_cons pe_int (pa_cons (pe_op op_sub (pe_op op_shl pe_int (pv 2)) pe_int) pa_nil)))))))) (pss_cons (ps_set (i := 6) sc_l_members_right.nd rfl (.inl rfl) (pe_op op_catL (pv 6) (pe_lst (pa_cons (pe_call G_l_worth (hr.mono (by decide)) (by rfl) T.g_l_worth T.F_l_worth.kp b_l_worth .nil pass0 (pa_cons (pe_call G_l_bits (hr.mono (by decide)) (by rfl) T.g_l_bits T.F_l_bits.kp b_l_bits .nil pass0 (pa_cons (pv 0) (pa_cons (pv 2) pa_nil))) pa_nil)) (pa_cons (pe_call G_l_worth (hr.mono (by decide)) (by rfl) T.g_l_worth T.F_l_worth.kp b_l_worth .nil pass0 (pa_cons (pe_op op_add_str (pv 3) (pe_call G_l_bits (hr.mono (by decide)) (by rfl) T.g_l_bits T.F_l_bits.kp b_l_bits .nil pass0 (pa_cons (pv 0) (pa_cons (pe_op op_sub (pv 2) (pe_callB call_len_str (by rfl) T.n_len (by decide +kernel) (pa_cons (pv 3) pa_nil))) pa_nil)))) pa_nil)) pa_nil))))) (pss_cons (ps_for PassesOwn.never rfl (pi_list (pv 6)) (pg_name (i := 7) sc_l_members_right.nd rfl (Or.inl rfl)) (pss_one (ps_if (pt_valT (pt_chain op_le op_lt pe_int (pv 7) (pe_op op_shl pe_int (pv 2)))) (pss_cons (ps_set (i := 8) sc_l_members_right.nd rfl (.inl rfl) (pe_cmpR op_eq (pe_slice sl_str (pe_call G_l_writing (hr.mono (by decide)) (by rfl) T.g_l_writing T.F_l_writing.kp b_l_writing .nil pass0 (pa_cons (pv 7) (pa_cons (pv 2) pa_nil))) po_none (po_some (pe_callB call_len_str (by rfl) T.n_len (by decide +kernel) (pa_cons (pv 3) pa_nil)))) (pv 3) (nomark _))) (pss_cons (ps_set (i := 9) sc_l_members_right.nd rfl (.inl rfl) (pe_lst (pa_cons (pe_call G_has (hr.mono (by decide)) (by rfl) T.g_has T.F_has.kp b_has .nil pass0 (pa_cons (pv 1) (pa_cons (pv 7) (pa_cons (pv 2) pa_nil)))) (pa_cons (pe_callK0 G_has (hr.mono (by decide)) (by rfl) T.g_has T.F_has.kp (kb_has_0 T.F_has) pass0 (pk_cons (pv 2) (pk_cons (pv 7) (pk_cons (pv 1) pk_nil)))) pa_nil)))) (pss_one (ps_if (pt_not (pt_val (pe_call G_l_alike (hr.mono (by decide)) (by rfl) T.g_l_alike T.F_l_alike.kp b_l_alike .nil pass0 (pa_cons (pv 9) (pa_cons (pe_lst (pa_cons (pv 8) (pa_cons (pv 8) pa_nil))) pa_nil))))) (pss_one (ps_ret pe_bl)) pss_nil)))) pss_nil))) (pss_one (ps_ret pe_bl))))))), ?_⟩
    have g0 : Gr (Bc B C) F0 H0 F0 H0 := Gr.refl hS0
    unfold m_l_members_right at hm
    refine p_seq ?_
    refine p_asg ?_
    refine ⟨(V.str y_one_here), rfl, rfl, _, _, rfl, rfl, (gs_y_one_here : GS y_one_here).len, ?_⟩
    obtain ⟨y_bits_here1, hb2, hm⟩ := bnd hm
    have hx3 : (Txt.stripChars y_one_here ("*" : Str)) = y_bits_here1 := sjoin hb2
    have gs4 : GS y_bits_here1 := hx3 ▸ ((GS.strip (gs_y_one_here : GS y_one_here) ("*" : Str)) : GS (Txt.stripChars y_one_here ("*" : Str)))
    refine p_nm (v' := (V.str y_bits_here1)) (congrArg V.str hx3) ?_
    refine p_nx ?_
    refine p_seq ?_
    refine p_asg ?_
    obtain ⟨r5, hb6, hm⟩ := bnd hm
    refine ⟨(V.str y_one_here), rfl, (V.int y_size_here), rfl, F0, y_one_here, y_size_here, r5, rfl, g0.fh, gs_y_one_here, hb6, fun v10 F7 H8 g9 r11 => ?_⟩
    have g12 := Gr.trans g0 (Gr.of0 g9)
    have hB13 := hB.gr0 g9
    obtain ⟨p14, v17, v18, ev15, hS16, r19, r20⟩ := R.p2_v r11
    obtain rfl := R.int_v r19
    obtain rfl := R.int_v r20
    refine ⟨p14, [(V.int r5.1), (V.int r5.2)], ev15, (SqT_mono g12.fh hS16), rfl, (V.int r5.1), [(V.int r5.2)], rfl, (V.int r5.2), [], rfl, rfl, ?_⟩
    refine p_nx ?_
    refine p_seq ?_
    refine p_asg ?_
    obtain ⟨t21, hb22, hm⟩ := bnd hm
    obtain ⟨hk23, rfl⟩ := shlI_ok hb22
    refine ⟨(V.int r5.1), rfl, (V.int r5.2), rfl, _, _, rfl, rfl, (V.int r5.1), rfl, _, _, rfl, rfl, (V.int r5.2), rfl, (V.int y_size_here), rfl, _, _, rfl, rfl, hk23, _, _, rfl, rfl, (by show 6 ≤ sizeLine; decide), fun p24 np25 => ?_⟩
    have nb26 := hB13.nb np25
    have g27 := g12.own (o := (.lst [(V.int r5.1), (V.int (r5.2 - (1 : Int))), (V.int (r5.1 - (1 : Int))), (V.int r5.2), (V.int (0 : Int)), (V.int (((1 : Int) * 2 ^ (y_size_here).toNat) - (1 : Int)))])) np25
    have hB28 := hB13.own (o := (.lst [(V.int r5.1), (V.int (r5.2 - (1 : Int))), (V.int (r5.1 - (1 : Int))), (V.int r5.2), (V.int (0 : Int)), (V.int (((1 : Int) * 2 ^ (y_size_here).toNat) - (1 : Int)))])) np25
    have ow29 : Ow H0 F7 (upd H8 p24 (.lst [(V.int r5.1), (V.int (r5.2 - (1 : Int))), (V.int (r5.1 - (1 : Int))), (V.int r5.2), (V.int (0 : Int)), (V.int (((1 : Int) * 2 ^ (y_size_here).toNat) - (1 : Int)))])) p24 [(V.int r5.1), (V.int (r5.2 - (1 : Int))), (V.int (r5.1 - (1 : Int))), (V.int r5.2), (V.int (0 : Int)), (V.int (((1 : Int) * 2 ^ (y_size_here).toNat) - (1 : Int)))] := Ow.new g12 np25
    have hA30 : RL K F7 [(V.int r5.1), (V.int (r5.2 - (1 : Int))), (V.int (r5.1 - (1 : Int))), (V.int r5.2), (V.int (0 : Int)), (V.int (((1 : Int) * 2 ^ (y_size_here).toNat) - (1 : Int)))] ([r5.1, (r5.2 - (1 : Int)), (r5.1 - (1 : Int)), r5.2, (0 : Int), (((1 : Int) * 2 ^ (y_size_here).toNat) - (1 : Int))] : List Int) := (RpA.cons (Rp.int r5.1) (RpA.cons (Rp.int (r5.2 - (1 : Int))) (RpA.cons (Rp.int (r5.1 - (1 : Int))) (RpA.cons (Rp.int r5.2) (RpA.cons (Rp.int (0 : Int)) (RpA.cons (Rp.int (((1 : Int) * 2 ^ (y_size_here).toNat) - (1 : Int))) RpA.nil))))))
    obtain ⟨y_near31, hb32, hm⟩ := bnd hm
    have hx33 : ([r5.1, (r5.2 - (1 : Int)), (r5.1 - (1 : Int)), r5.2, (0 : Int), (((1 : Int) * 2 ^ (y_size_here).toNat) - (1 : Int))] : List Int) = y_near31 := sjoin hb32
    have hA34 : RL K _ _ y_near31 := hx33 ▸ (hA30 : RL K _ _ ([r5.1, (r5.2 - (1 : Int)), (r5.1 - (1 : Int)), r5.2, (0 : Int), (((1 : Int) * 2 ^ (y_size_here).toNat) - (1 : Int))] : List Int))
    refine p_name ?_
    refine p_nx ?_
    refine p_seq ?_
    refine p_asg ?_
    obtain ⟨r35, b36, hb37, hm⟩ := bnd2 hm
    refine ⟨(V.ref p24), rfl, (V.ref B), rfl, (V.int y_size_here), rfl, F7, B, C, b, y_size_here, r35, b36, rfl, g27.fh, hB28, hb37, fun F38 H39 g40 hB41 gs42 => ?_⟩
    have g43 := Gr.trans g27 g40
    have ow44 := ow29.gr g40 nb26
    obtain ⟨r45, hb46, hm⟩ := bnd hm
    refine ⟨r35, r45, rfl, gs42, hb46, fun F47 H48 g49 => ?_⟩
    have g51 := Gr.apart g43 g49
    have ow52 := ow44.apart g49
    have hB53 := hB41.apart g49
    obtain ⟨r54, b55, hb56, hm⟩ := bnd2 hm
    refine ⟨(V.str y_bits_here1), rfl, (V.ref B), rfl, (V.int y_size_here), rfl, (V.str y_bits_here1), rfl, _, rfl, (gs4 : GS y_bits_here1).len, _, _, rfl, rfl, F38, B, C, b36, (y_size_here - ((y_bits_here1.length : Nat) : Int)), r54, b55, rfl, g51.fh, hB53, hb56, fun F57 H58 g59 hB60 gs61 => ?_⟩
    have g62 := Gr.trans g51 g59
    have ow63 := ow52.gr g59 nb26
    obtain ⟨t64, hb65, hm⟩ := bnd hm
    obtain ⟨hk66, rfl⟩ := catS_ok hb65
    obtain ⟨r67, hb68, hm⟩ := bnd hm
    refine ⟨_, _, rfl, rfl, hk66, (y_bits_here1 ++ r54), r67, rfl, (GS.cat gs4 gs61 hb65), hb68, fun F69 H70 g71 => ?_⟩
    have g73 := Gr.apart g62 g71
    have ow74 := ow63.apart g71
    have hB75 := hB60.apart g71
    refine ⟨(by show 2 ≤ sizeLine; decide), fun p76 np77 => ?_⟩
    have ne78 := ow74.ne np77
    have nb79 := hB75.nb np77
    have g80 := g73.own (o := (.lst [(V.int r45), (V.int r67)])) np77
    have ow81 := ow74.own (o := (.lst [(V.int r45), (V.int r67)])) np77
    have hB82 := hB75.own (o := (.lst [(V.int r45), (V.int r67)])) np77
    have ow83 : Ow H0 F57 (upd H70 p76 (.lst [(V.int r45), (V.int r67)])) p76 [(V.int r45), (V.int r67)] := Ow.new g73 np77
    have hA84 : RL K F57 [(V.int r45), (V.int r67)] ([r45, r67] : List Int) := (RpA.cons (Rp.int r45) (RpA.cons (Rp.int r67) RpA.nil))
    obtain ⟨t85, hb86, hm⟩ := bnd hm
    obtain ⟨hk87, rfl⟩ := conL_ok hb86
    have hz90 : ([(V.int r5.1), (V.int (r5.2 - (1 : Int))), (V.int (r5.1 - (1 : Int))), (V.int r5.2), (V.int (0 : Int)), (V.int (((1 : Int) * 2 ^ (y_size_here).toNat) - (1 : Int)))] ++ [(V.int r45), (V.int r67)]).length ≤ sizeLine := by rw [List.length_append, RL.len (hA34.up (Same.trans g40.ff g59.ff)), RL.len hA84]; exact hk87
    refine ⟨p24, p76, [(V.int r5.1), (V.int (r5.2 - (1 : Int))), (V.int (r5.1 - (1 : Int))), (V.int r5.2), (V.int (0 : Int)), (V.int (((1 : Int) * 2 ^ (y_size_here).toNat) - (1 : Int)))], [(V.int r45), (V.int r67)], rfl, rfl, ow81.sq, ow83.sq, (by rw [RL.len (hA34.up (Same.trans g40.ff g59.ff)), RL.len hA84]; exact hk87), fun p88 np89 => ?_⟩
    have hA91 := RL.app (hA34.up (Same.trans g40.ff g59.ff)) hA84
    have ne93 := ow81.ne np89
    have ne94 := ow83.ne np89
    have nb95 := hB82.nb np89
    have g96 := g80.own (o := (.lst ([(V.int r5.1), (V.int (r5.2 - (1 : Int))), (V.int (r5.1 - (1 : Int))), (V.int r5.2), (V.int (0 : Int)), (V.int (((1 : Int) * 2 ^ (y_size_here).toNat) - (1 : Int)))] ++ [(V.int r45), (V.int r67)]))) np89
    have ow97 := ow81.own (o := (.lst ([(V.int r5.1), (V.int (r5.2 - (1 : Int))), (V.int (r5.1 - (1 : Int))), (V.int r5.2), (V.int (0 : Int)), (V.int (((1 : Int) * 2 ^ (y_size_here).toNat) - (1 : Int)))] ++ [(V.int r45), (V.int r67)]))) np89
    have ow98 := ow83.own (o := (.lst ([(V.int r5.1), (V.int (r5.2 - (1 : Int))), (V.int (r5.1 - (1 : Int))), (V.int r5.2), (V.int (0 : Int)), (V.int (((1 : Int) * 2 ^ (y_size_here).toNat) - (1 : Int)))] ++ [(V.int r45), (V.int r67)]))) np89
    have hB99 := hB82.own (o := (.lst ([(V.int r5.1), (V.int (r5.2 - (1 : Int))), (V.int (r5.1 - (1 : Int))), (V.int r5.2), (V.int (0 : Int)), (V.int (((1 : Int) * 2 ^ (y_size_here).toNat) - (1 : Int)))] ++ [(V.int r45), (V.int r67)]))) np89
    have ow100 : Ow H0 F57 (upd (upd H70 p76 (.lst [(V.int r45), (V.int r67)])) p88 (.lst ([(V.int r5.1), (V.int (r5.2 - (1 : Int))), (V.int (r5.1 - (1 : Int))), (V.int r5.2), (V.int (0 : Int)), (V.int (((1 : Int) * 2 ^ (y_size_here).toNat) - (1 : Int)))] ++ [(V.int r45), (V.int r67)]))) p88 ([(V.int r5.1), (V.int (r5.2 - (1 : Int))), (V.int (r5.1 - (1 : Int))), (V.int r5.2), (V.int (0 : Int)), (V.int (((1 : Int) * 2 ^ (y_size_here).toNat) - (1 : Int)))] ++ [(V.int r45), (V.int r67)]) := Ow.new g80 np89
    obtain ⟨y_near101, hx102⟩ : ∃ z_, (y_near31 ++ ([r45, r67] : List Int)) = z_ := ⟨_, rfl⟩
    try rw [hx102] at hm
    have hA103 : RL K _ _ y_near101 := hx102 ▸ (hA91 : RL K _ _ (y_near31 ++ ([r45, r67] : List Int)))
    refine p_name ?_
    refine p_nx ?_
    refine p_seq ?_
    refine p_for ?_
    refine ⟨(V.ref p88), rfl, p88, rfl, ⟨_, ow100.sq⟩, ?_⟩
    obtain ⟨l105, ht106, hm⟩ := bndL1 hm
    refine for_list (K := K) (a := p88) (xs := ([(V.int r5.1), (V.int (r5.2 - (1 : Int))), (V.int (r5.1 - (1 : Int))), (V.int r5.2), (V.int (0 : Int)), (V.int (((1 : Int) * 2 ^ (y_size_here).toNat) - (1 : Int)))] ++ [(V.int r45), (V.int r67)])) (fun i σ' H' => ∃ (F' : Hp) (o_y_number : Option V) (o_y_due : Option V) (o_y_told : Option V) (b : Bag), σ' = [(some (V.ref B)), (some (V.str y_one_here)), (some (V.int y_size_here)), (some (V.str y_bits_here1)), (some (V.int r5.1)), (some (V.int r5.2)), (some (V.ref p88)), o_y_number, o_y_due, o_y_told] ∧ Gr (Bc B C) F0 H0 F' H' ∧ Same F57 F' ∧ Ow H0 F' H' p88 ([(V.int r5.1), (V.int (r5.2 - (1 : Int))), (V.int (r5.1 - (1 : Int))), (V.int r5.2), (V.int (0 : Int)), (V.int (((1 : Int) * 2 ^ (y_size_here).toNat) - (1 : Int)))] ++ [(V.int r45), (V.int r67)]) ∧ BagAt F' H' B C b ∧ m_l_members_right_l1 y_one_here y_size_here y_bits_here1 (y_near101.drop i) b = some l105) ?_ ?_ ?_ ?_
    · exact ⟨F57, none, none, none, b55, rfl, g96, (Same.refl _), ow100, hB99, ht106⟩
    · intro i σ' H' _ hP
      obtain ⟨F', o_y_number, o_y_due, o_y_told, b, rfl, g_, sm_, owk0_, hB_, hm_⟩ := hP
      exact owk0_.sq
    · intro i xv107 σ' H' hx hP
      obtain ⟨F', o_y_number, o_y_due, o_y_told, b, rfl, g_, sm_, owk0_, hB_, hm_⟩ := hP
      obtain ⟨e108, he109, r110⟩ := RL.get (hA103.up sm_) hx
      obtain rfl := R.int_v r110
      rw [drop_at he109, m_l_members_right_l1.eq_2] at hm_
      refine p_name ?_
      refine p_if ?_
      obtain ⟨t111, hb112, hm_⟩ := bnd hm_
      obtain ⟨hk113, rfl⟩ := shlI_ok hb112
      refine ⟨((decide ((0 : Int) ≤ e108)) && (decide (e108 < ((1 : Int) * 2 ^ (y_size_here).toNat)))), (fun Q q => ⟨(V.int e108), rfl, _, _, rfl, rfl, _, rfl, iteB (fun hc => ⟨(V.int y_size_here), rfl, _, _, rfl, rfl, hk113, _, _, rfl, rfl, _, rfl, qTb hc q⟩) (fun hc => ⟨_, rfl, qFb hc q⟩)⟩), (iteB (fun hc => ?_) (fun hc => ?_))⟩
      · have hm_ := ifT hc hm_
        refine p_seq ?_
        refine p_asg ?_
        obtain ⟨r114, hb115, hm_⟩ := bnd hm_
        refine ⟨(V.int e108), rfl, (V.int y_size_here), rfl, e108, y_size_here, r114, rfl, hb115, fun F116 H117 g118 gs119 => ?_⟩
        have g120 := Gr.apart g_ g118
        have ow121 := owk0_.apart g118
        have hB122 := hB_.apart g118
        refine ⟨(V.str y_bits_here1), rfl, _, rfl, (gs4 : GS y_bits_here1).len, _, rfl, _, rfl, (gs119 : GS r114).len, (V.str y_bits_here1), rfl, rfl, ?_⟩
        obtain ⟨y_due123, hb124, hm_⟩ := bnd hm_
        have hx125 : (eqS (cutS r114 none (some ((y_bits_here1.length : Nat) : Int))) y_bits_here1) = y_due123 := sjoin hb124
        refine p_nm (v' := (V.bl y_due123)) (congrArg V.bl hx125) ?_
        refine p_nx ?_
        refine p_seq ?_
        refine p_asg ?_
        obtain ⟨r126, hb127, hm_⟩ := bnd hm_
        refine ⟨(V.str y_one_here), rfl, (V.int e108), rfl, (V.int y_size_here), rfl, y_one_here, e108, y_size_here, r126, rfl, gs_y_one_here, hb127, fun F128 H129 g130 => ?_⟩
        have g132 := Gr.apart g120 g130
        have ow133 := ow121.apart g130
        have hB134 := hB122.apart g130
        obtain ⟨r135, hb136, hm_⟩ := bnd hm_
        refine ⟨(V.int y_size_here), rfl, (V.int e108), rfl, (V.str y_one_here), rfl, y_one_here, e108, y_size_here, r135, rfl, gs_y_one_here, hb136, fun F137 H138 g139 => ?_⟩
        have g141 := Gr.apart g132 g139
        have ow142 := ow133.apart g139
        have hB143 := hB134.apart g139
        refine ⟨(by show 2 ≤ sizeLine; decide), fun p144 np145 => ?_⟩
        have ne146 := ow142.ne np145
        have nb147 := hB143.nb np145
        have g148 := g141.own (o := (.lst [(V.bl r126), (V.bl r135)])) np145
        have ow149 := ow142.own (o := (.lst [(V.bl r126), (V.bl r135)])) np145
        have hB150 := hB143.own (o := (.lst [(V.bl r126), (V.bl r135)])) np145
        have ow151 : Ow H0 F' (upd H138 p144 (.lst [(V.bl r126), (V.bl r135)])) p144 [(V.bl r126), (V.bl r135)] := Ow.new g141 np145
        have hA152 : RL K F' [(V.bl r126), (V.bl r135)] ([r126, r135] : List Bool) := (RpA.cons (Rp.bl r126) (RpA.cons (Rp.bl r135) RpA.nil))
        obtain ⟨y_told153, hb154, hm_⟩ := bnd hm_
        have hx155 : ([r126, r135] : List Bool) = y_told153 := sjoin hb154
        have hA156 : RL K _ _ y_told153 := hx155 ▸ (hA152 : RL K _ _ ([r126, r135] : List Bool))
        refine p_name ?_
        refine p_nx ?_
        refine p_if ?_
        refine ⟨(V.ref p144), rfl, (V.bl y_due123), rfl, (V.bl y_due123), rfl, (by show 2 ≤ sizeLine; decide), fun p157 np158 => ?_⟩
        have ne159 := ow149.ne np158
        have ne160 := ow151.ne np158
        have nb161 := hB150.nb np158
        have g162 := g148.own (o := (.lst [(V.bl y_due123), (V.bl y_due123)])) np158
        have ow163 := ow149.own (o := (.lst [(V.bl y_due123), (V.bl y_due123)])) np158
        have ow164 := ow151.own (o := (.lst [(V.bl y_due123), (V.bl y_due123)])) np158
        have hB165 := hB150.own (o := (.lst [(V.bl y_due123), (V.bl y_due123)])) np158
        have ow166 : Ow H0 F' (upd (upd H138 p144 (.lst [(V.bl r126), (V.bl r135)])) p157 (.lst [(V.bl y_due123), (V.bl y_due123)])) p157 [(V.bl y_due123), (V.bl y_due123)] := Ow.new g148 np158
        have hA167 : RL K F' [(V.bl y_due123), (V.bl y_due123)] ([y_due123, y_due123] : List Bool) := (RpA.cons (Rp.bl y_due123) (RpA.cons (Rp.bl y_due123) RpA.nil))
        have rH168 : R K (upd (upd H138 p144 (.lst [(V.bl r126), (V.bl r135)])) p157 (.lst [(V.bl y_due123), (V.bl y_due123)])) (V.ref p144) y_told153 := (R.mkl ow164.sq (by show 2 ≤ sizeLine; decide) (RpA.up hA156 g162.fh))
        have rH169 : R K (upd (upd H138 p144 (.lst [(V.bl r126), (V.bl r135)])) p157 (.lst [(V.bl y_due123), (V.bl y_due123)])) (V.ref p157) ([y_due123, y_due123] : List Bool) := (R.mkl ow166.sq (by show 2 ≤ sizeLine; decide) (RpA.up hA167 g162.fh))
        obtain ⟨r170, hb172, hm_⟩ := bnd hm_
        obtain ⟨hxy171, rfl⟩ := alike_ok hb172
        refine ⟨(V.ref p144), (V.ref p157), _, rfl, rH168, (R.of_eq hxy171 rH169), (Nat.le_trans (Dep.le (y_told153 : (List Bool))) (by decide)), fun F173 H174 g175 => ?_⟩
        have g176 := Gr.apart g162 g175
        have ow177 := ow163.apart g175
        have ow178 := ow164.apart g175
        have ow179 := ow166.apart g175
        have hB180 := hB165.apart g175
        refine ⟨_, rfl, (iteB (fun hc => ?_) (fun hc => ?_))⟩
        · have hm_ := ifT hc hm_
          refine p_ret ?_
          obtain rfl := sjoin hm_
          have hm := bret hm
          obtain ⟨rfl, rfl⟩ := pjoin hm
          exact (hQ _ _ g176 hB180)
        · have hm_ := ifF hc hm_
          refine p_next ?_
          exact ⟨F', (some (V.int e108)), (some (V.bl y_due123)), (some (V.ref p144)), b, rfl, g176, sm_, ow177, hB180, hm_⟩
      · have hm_ := ifF hc hm_
        refine p_next ?_
        exact ⟨F', (some (V.int e108)), o_y_due, o_y_told, b, rfl, g_, sm_, owk0_, hB_, hm_⟩
    intro σ181 H182 hP
    obtain ⟨F183, o_y_number184, o_y_due185, o_y_told186, b187, rfl, g188, sm189, owk0190, hB191, hm192⟩ := hP
    rw [drop_end (RL.len (hA103.up sm189)), m_l_members_right_l1.eq_1] at hm192
    obtain rfl := sjoin hm192
    have hm := bgo1 hm
    refine p_nx ?_
    refine p_ret ?_
    obtain ⟨rfl, rfl⟩ := pjoin hm
    exact (hQ _ _ g188 hB191)
end K02
namespace K02
open PySem PySem.Spec PyProof.Rows L2 TL G
theorem ok_law {P : Program} {w : World} {K : PySem.W.Frag} {mg : Str → Option Value} {base : Heap} (T : Txt K mg) (hlaw : ∀ b : Bag, BOk b → ∃ b', m_law b = some (true, b')) : FnOk P w K mg base CX0 11 T.a_law T.d_law ["_law_script"] (sp_law K) := by
  have G_l_bag : FnOk P w K mg base CX0 1 T.a_l_bag T.d_l_bag ["_law_script"] (sp_l_bag K) := ok_l_bag T
  have b_l_bag := T.F_l_bag.bindsN (ps := ["_law_script"]) fun _ _ _ _ _ _ us hl => match us, hl with | [_], _ => rfl
  have G_l_size : FnOk P w K mg base CX0 2 T.a_l_size T.d_l_size ["_law_bag_here"] (sp_l_size K) := ok_l_size T
  have b_l_size := T.F_l_size.bindsN (ps := ["_law_bag_here"]) fun _ _ _ _ _ _ us hl => match us, hl with | [_], _ => rfl
  have G_l_one : FnOk P w K mg base CX0 3 T.a_l_one T.d_l_one ["_law_bag_here", "_law_size_here", "_law_some"] (sp_l_one K) := ok_l_one T
  have b_l_one := T.F_l_one.bindsN (ps := ["_law_bag_here", "_law_size_here", "_law_some"]) fun _ _ _ _ _ _ us hl => match us, hl with | [_, _, _], _ => rfl
  have G_l_alike : FnOk P w K mg base CX0 9 T.a_l_alike T.d_l_alike ["_law_found", "_law_due"] (sp_alike 8 K) := ok_l_alike T 9
  have b_l_alike := T.F_l_alike.bindsN (ps := ["_law_found", "_law_due"]) fun _ _ _ _ _ _ us hl => match us, hl with | [_, _], _ => rfl
  have G_span_of : FnOk P w K mg base CX0 2 T.a_span_of T.d_span_of ["pattern", "width"] (sp_span_of K) := ok_span_of T
  have b_span_of := T.F_span_of.bindsN (ps := ["pattern", "width"]) fun _ _ _ _ _ _ us hl => match us, hl with | [_, _], _ => rfl
  have G_l_span : FnOk P w K mg base CX0 2 T.a_l_span T.d_l_span ["_law_one_here", "_law_size_here"] (sp_l_span K) := ok_l_span T
  have b_l_span := T.F_l_span.bindsN (ps := ["_law_one_here", "_law_size_here"]) fun _ _ _ _ _ _ us hl => match us, hl with | [_, _], _ => rfl
  have G_l_members_right : FnOk P w K mg base CX0 10 T.a_l_members_right T.d_l_members_right ["_law_bag_here", "_law_one_here", "_law_size_here"] (sp_l_members_right K) := ok_l_members_right T
  have b_l_members_right := T.F_l_members_right.bindsN (ps := ["_law_bag_here", "_law_one_here", "_law_size_here"]) fun _ _ _ _ _ _ us hl => match us, hl with | [_, _, _], _ => rfl
  have G_has : FnOk P w K mg base CX0 3 T.a_has T.d_has ["pattern", "address", "width"] (sp_has K) := ok_has T
  have b_has := T.F_has.bindsN (ps := ["pattern", "address", "width"]) fun _ _ _ _ _ _ us hl => match us, hl with | [_, _, _], _ => rfl
  refine fd_ok T.F_law sc_law (fun vs H Q E h => ?_) (fun cdv A outer s H0 vs Q E hr h => ?_)
  · obtain ⟨_, _, rfl, _⟩ := h
    rfl
  · obtain ⟨a_, ns_, rfl, hS_, hl_, hQ_⟩ := h
    refine ⟨_, (pss_cons (ps_set (i := 1) sc_law.nd rfl (.inl rfl) (pe_call G_l_bag (hr.mono (by decide)) (by rfl) T.g_l_bag T.F_l_bag.kp b_l_bag .nil pass0 (pa_cons (pv 0) pa_nil))) (pss_cons (ps_set (i := 2) sc_law.nd rfl (.inl rfl) (pe_call G_l_size (hr.mono (by decide)) (by rfl) T.g_l_size T.F_l_size.kp b_l_size .nil pass0 (pa_cons (pv 1) pa_nil))) (pss_cons (ps_set (i := 3) sc_law.nd rfl (.inl rfl) (pe_lst pa_nil)) (pss_cons (ps_for PassesOwn.never rfl (pi_range1 (by rfl) T.n_range (pa_cons pe_int pa_nil)) (pg_name (i := 4) sc_law.nd rfl (Or.inl rfl)) (pss_cons (ps_set (i := 5) sc_law.nd rfl (.inl rfl) (pe_call G_l_one (hr.mono (by decide)) (by rfl) T.g_l_one T.F_l_one.kp b_l_one .nil pass0 (pa_cons (pv 1) (pa_cons (pv 2) (pa_cons (pv 3) pa_nil))))) (pss_cons (ps_expr (pe_bm PySem.F.plainAttrs_list PySem.F.slot_list_append PySem.F.type_list_append mt_append (pv 3) (pa_cons (pv 5) pa_nil))) (pss_cons (ps_if (pt_not (pt_val (pe_call G_l_alike (hr.mono (by decide)) (by rfl) T.g_l_alike T.F_l_alike.kp b_l_alike .nil pass0 (pa_cons (pe_call G_span_of (hr.mono (by decide)) (by rfl) T.g_span_of T.F_span_of.kp b_span_of .nil pass0 (pa_cons (pv 5) (pa_cons (pv 2) pa_nil))) (pa_cons (pe_call G_l_span (hr.mono (by decide)) (by rfl) T.g_l_span T.F_l_span.kp b_l_span .nil pass0 (pa_cons (pv 5) (pa_cons (pv 2) pa_nil))) pa_nil))))) (pss_one (ps_ret pe_bl)) pss_nil) (pss_cons (ps_if (pt_not (pt_val (pe_call G_l_alike (hr.mono (by decide)) (by rfl) T.g_l_alike T.F_l_alike.kp b_l_alike .nil pass0 (pa_cons (pe_callK0 G_span_of (hr.mono (by decide)) (by rfl) T.g_span_of T.F_span_of.kp (kb_span_of_1 T.F_span_of) pass0 (pk_cons (pv 2) (pk_cons (pv 5) pk_nil))) (pa_cons (pe_call G_l_span (hr.mono (by decide)) (by rfl) T.g_l_span T.F_l_span.kp b_l_span .nil pass0 (pa_cons (pv 5) (pa_cons (pv 2) pa_nil))) pa_nil))))) (pss_one (ps_ret pe_bl)) pss_nil) (pss_one (ps_if (pt_not (pt_val (pe_call G_l_members_right (hr.mono (by decide)) (by rfl) T.g_l_members_right T.F_l_members_right.kp b_l_members_right .nil pass0 (pa_cons (pv 1) (pa_cons (pv 5) (pa_cons (pv 2) pa_nil)))))) (pss_one (ps_ret pe_bl)) pss_nil))))))) (pss_one (ps_ret (pe_and (pe_cmpR (op_eqD hr.units) (pe_call G_span_of (hr.mono (by decide)) (by rfl) T.g_span_of T.F_span_of.kp b_span_of .nil pass0 (pa_cons pe_str (pa_cons pe_int pa_nil))) (pe_tup (pa_cons pe_int (pa_cons (pe_op op_shl pe_int pe_int) pa_nil))) (nomark _)) (pe_and (pe_cmpR (op_eqD hr.units) (pe_call G_span_of (hr.mono (by decide)) (by rfl) T.g_span_of T.F_span_of.kp b_span_of .nil pass0 (pa_cons pe_str (pa_cons pe_int pa_nil))) (pe_tup (pa_cons pe_int (pa_cons pe_int pa_nil))) (nomark _)) (pe_one (pe_cmpR op_isBl (pe_call G_has (hr.mono (by decide)) (by rfl) T.g_has T.F_has.kp b_has .nil pass0 (pa_cons pe_str (pa_cons pe_int (pa_cons pe_int pa_nil)))) pe_bl (nomark _))))))))))), ?_⟩
    refine p_seq ?_
    refine p_asg ?_
    refine ⟨_, rfl, a_, ns_, rfl, hS_, hl_, fun B C b F0 H0 hS0 hB hb_ => ?_⟩
    refine p_name ?_
    refine p_nx ?_
    obtain ⟨b_, hm⟩ := hlaw b hb_
    have hQ : ∀ F' H', Gr (Bc B C) F0 H0 F' H' → BagAt F' H' B C b_ → Q (.bl true) H' := fun _ H' _ _ => hQ_ H'
    have g0 : Gr (Bc B C) F0 H0 F0 H0 := Gr.refl hS0
    unfold m_law at hm
    refine p_seq ?_
    refine p_asg ?_
    obtain ⟨r1, b2, hb3, hm⟩ := bnd2 hm
    refine ⟨(V.ref B), rfl, F0, B, C, b, r1, b2, rfl, g0.fh, hB, hb3, fun F4 H5 g6 hB7 => ?_⟩
    have g9 := Gr.trans g0 g6
    refine p_name ?_
    refine p_nx ?_
    refine p_seq ?_
    refine p_asg ?_
    refine ⟨(by show 0 ≤ sizeLine; decide), fun p10 np11 => ?_⟩
    have nb12 := hB7.nb np11
    have g13 := g9.own (o := (.lst [])) np11
    have hB14 := hB7.own (o := (.lst [])) np11
    have ow15 : Ow H0 F4 (upd H5 p10 (.lst [])) p10 [] := Ow.new g9 np11
    refine p_name ?_
    refine p_nx ?_
    refine p_seq ?_
    refine p_for ?_
    refine ⟨_, rfl, (by decide), (by decide), ?_⟩
    obtain ⟨l19, ht20, hm⟩ := bndL2 hm
    refine for_range (lo := (0 : Int)) (n := (6 : Nat)) (fun i σ' H' => ∃ (F' : Hp) (o_y_k : Option V) (o_y_one_here : Option V) (y_some : (List Str)) (ws_y_some : List V) (b : Bag), σ' = [(some (V.ref a_)), (some (V.ref B)), (some (V.int r1)), (some (V.ref p10)), o_y_k, o_y_one_here] ∧ Gr (Bc B C) F0 H0 F' H' ∧ Same F4 F' ∧ Ow H0 F' H' p10 ws_y_some ∧ ws_y_some.length ≤ sizeLine ∧ RL K F' ws_y_some y_some ∧ BagAt F' H' B C b ∧ m_law_l1 r1 ((rangeL (0 : Int) 6).drop i) y_some b = some l19) ?_ ?_ ?_
    · exact ⟨F4, none, none, ([] : (List Str)), [], b2, rfl, g13, (Same.refl _), ow15, (by show 0 ≤ sizeLine; decide), RpA.nil, hB14, ht20⟩
    · intro i σ' H' hx hP
      obtain ⟨F', o_y_k, o_y_one_here, y_some, ws_y_some, b, rfl, g_, sm_, ow_y_some, hl_y_some, hA_y_some, hB_, hm_⟩ := hP
      have he23 := rangeL_at (lo := (0 : Int)) hx
      rw [drop_at he23, m_law_l1.eq_2] at hm_
      refine p_name ?_
      refine p_seq ?_
      refine p_asg ?_
      obtain ⟨r24, b25, hb26, hm_⟩ := bnd2 hm_
      refine ⟨(V.ref B), rfl, (V.int r1), rfl, (V.ref p10), rfl, F', B, C, b, r1, p10, ws_y_some, y_some, r24, b25, rfl, g_.fh, hB_, ow_y_some.sq, hl_y_some, hA_y_some, nb12, hb26, fun F27 H28 g29 hB30 gs31 => ?_⟩
      have g32 := Gr.trans g_ g29
      have ow33 := ow_y_some.gr g29 nb12
      refine p_name ?_
      refine p_nx ?_
      refine p_seq ?_
      refine p_drop ?_
      obtain ⟨t34, hb35, hm_⟩ := bnd hm_
      obtain ⟨hk36, rfl⟩ := appL_ok hb35
      refine ⟨(V.ref p10), rfl, (.inl ⟨rfl, _, ow33.sq⟩), (V.str r24), rfl, p10, ws_y_some, (V.str r24), rfl, rfl, ow33.h, (by rw [RL.len (hA_y_some.up g29.ff)]; exact hk36), ?_⟩
      have hA37 : RL K F27 (ws_y_some ++ [(V.str r24)]) (y_some ++ [(r24 : Str)]) := RL.snoc (hA_y_some.up g29.ff) (Rp.str r24 gs31)
      have hl38 : (ws_y_some ++ [(V.str r24)]).length ≤ sizeLine := by rw [List.length_append, RL.len (hA_y_some.up g29.ff)]; exact hk36
      have g39 := g32.put (o := (.lst (ws_y_some ++ [(V.str r24)]))) ow33
      have hB40 := hB30.other (o := (.lst (ws_y_some ++ [(V.str r24)]))) nb12
      have ow41 := ow33.put (us := (ws_y_some ++ [(V.str r24)]))
      refine p_nx ?_
      refine p_seq ?_
      refine p_if ?_
      obtain ⟨r42, hb43, hm_⟩ := bnd hm_
      refine ⟨(V.str r24), rfl, (V.int r1), rfl, F27, r24, r1, r42, rfl, g39.fh, gs31, hb43, fun v47 F44 H45 g46 r48 => ?_⟩
      have g49 := Gr.trans g39 (Gr.of0 g46)
      have ow50 := ow41.gr0 g46
      have hB51 := hB40.gr0 g46
      obtain ⟨r52, hb53, hm_⟩ := bnd hm_
      refine ⟨(V.str r24), rfl, (V.int r1), rfl, F44, r24, r1, r52, rfl, g49.fh, gs31, hb53, fun v57 F54 H55 g56 r58 => ?_⟩
      have g59 := Gr.trans g49 (Gr.of0 g56)
      have ow60 := ow50.gr0 g56
      have hB61 := hB51.gr0 g56
      have rH62 : R K H55 v47 r42 := (Rp.up (r48.up g56.ff) g59.fh)
      have rH63 : R K H55 v57 r52 := (Rp.up r58 g59.fh)
      obtain ⟨r64, hb66, hm_⟩ := bnd hm_
      obtain ⟨hxy65, rfl⟩ := alike_ok hb66
      refine ⟨v47, v57, _, rfl, rH62, (R.of_eq hxy65 rH63), (Nat.le_trans (Dep.le (r42 : (Int × Int))) (by decide)), fun F67 H68 g69 => ?_⟩
      have g70 := Gr.apart g59 g69
      have ow71 := ow60.apart g69
      have hB72 := hB61.apart g69
      refine ⟨_, rfl, (iteB (fun hc => ?_) (fun hc => ?_))⟩
      · have hm_ := ifT hc hm_
        refine p_ret ?_
        obtain rfl := sjoin hm_
        have hm := bret hm
        obtain ⟨he73, rfl⟩ := pjoin hm
        exact absurd he73 (by decide)
      · have hm_ := ifF hc hm_
        refine p_next ?_
        refine p_nx ?_
        refine p_seq ?_
        refine p_if ?_
        obtain ⟨r74, hb75, hm_⟩ := bnd hm_
        refine ⟨(V.int r1), rfl, (V.str r24), rfl, F54, r24, r1, r74, rfl, g70.fh, gs31, hb75, fun v79 F76 H77 g78 r80 => ?_⟩
        have g81 := Gr.trans g70 (Gr.of0 g78)
        have ow82 := ow71.gr0 g78
        have hB83 := hB72.gr0 g78
        obtain ⟨r84, hb85, hm_⟩ := bnd hm_
        refine ⟨(V.str r24), rfl, (V.int r1), rfl, F76, r24, r1, r84, rfl, g81.fh, gs31, hb85, fun v89 F86 H87 g88 r90 => ?_⟩
        have g91 := Gr.trans g81 (Gr.of0 g88)
        have ow92 := ow82.gr0 g88
        have hB93 := hB83.gr0 g88
        have rH94 : R K H87 v79 r74 := (Rp.up (r80.up g88.ff) g91.fh)
        have rH95 : R K H87 v89 r84 := (Rp.up r90 g91.fh)
        obtain ⟨r96, hb98, hm_⟩ := bnd hm_
        obtain ⟨hxy97, rfl⟩ := alike_ok hb98
        refine ⟨v79, v89, _, rfl, rH94, (R.of_eq hxy97 rH95), (Nat.le_trans (Dep.le (r74 : (Int × Int))) (by decide)), fun F99 H100 g101 => ?_⟩
        have g102 := Gr.apart g91 g101
        have ow103 := ow92.apart g101
        have hB104 := hB93.apart g101
        refine ⟨_, rfl, (iteB (fun hc => ?_) (fun hc => ?_))⟩
        · have hm_ := ifT hc hm_
          refine p_ret ?_
          obtain rfl := sjoin hm_
          have hm := bret hm
          obtain ⟨he105, rfl⟩ := pjoin hm
          exact absurd he105 (by decide)
        · have hm_ := ifF hc hm_
          refine p_next ?_
          refine p_nx ?_
          refine p_if ?_
          obtain ⟨r106, b107, hb108, hm_⟩ := bnd2 hm_
          refine ⟨(V.ref B), rfl, (V.str r24), rfl, (V.int r1), rfl, F86, B, C, b25, r24, r1, r106, b107, rfl, g102.fh, hB104, gs31, hb108, fun F109 H110 g111 hB112 => ?_⟩
          have g114 := Gr.trans g102 g111
          have ow115 := ow103.gr g111 nb12
          refine ⟨_, rfl, (iteB (fun hc => ?_) (fun hc => ?_))⟩
          · have hm_ := ifT hc hm_
            refine p_ret ?_
            obtain rfl := sjoin hm_
            have hm := bret hm
            obtain ⟨he116, rfl⟩ := pjoin hm
            exact absurd he116 (by decide)
          · have hm_ := ifF hc hm_
            refine p_next ?_
            exact ⟨F109, (some (V.int ((0 : Int) + ((i : Nat) : Int)))), (some (V.str r24)), (y_some ++ [r24]), (ws_y_some ++ [(V.str r24)]), b107, rfl, g114, (Same.trans sm_ (Same.trans g29.ff (Same.trans g46.ff (Same.trans g56.ff (Same.trans g78.ff (Same.trans g88.ff g111.ff)))))), ow115, hl38, (hA37.up (Same.trans g46.ff (Same.trans g56.ff (Same.trans g78.ff (Same.trans g88.ff g111.ff))))), hB112, hm_⟩
    intro σ117 H118 hP
    obtain ⟨F119, o_y_k120, o_y_one_here121, y_some122, ws_y_some123, b124, rfl, g125, sm126, ow_y_some127, hl_y_some128, hA_y_some129, hB130, hm131⟩ := hP
    rw [drop_end (rangeL_len _ _).symm, m_law_l1.eq_1] at hm131
    obtain rfl := sjoin hm131
    have hm := lpgo hm
    dsimp only at hm
    refine p_nx ?_
    refine p_ret ?_
    obtain ⟨r132, hb133, hm⟩ := bnd hm
    refine ⟨F119, ("*" : Str), (30 : Int), r132, rfl, g125.fh, ⟨by decide +kernel, by decide +kernel⟩, hb133, fun v137 F134 H135 g136 r138 => ?_⟩
    have g139 := Gr.trans g125 (Gr.of0 g136)
    have ow140 := ow_y_some127.gr0 g136
    have hB141 := hB130.gr0 g136
    obtain ⟨t142, hb143, hm⟩ := bnd hm
    obtain ⟨hk144, rfl⟩ := shlI_ok hb143
    refine ⟨_, _, rfl, rfl, hk144, (by show 2 ≤ sizeLine; decide), fun p145 np146 => ?_⟩
    have ne147 := ow140.ne np146
    have nb148 := hB141.nb np146
    have sm149 := same_new (o := (.tup [(V.int (0 : Int)), (V.int ((1 : Int) * 2 ^ ((30 : Int)).toNat))])) (g139.noneF np146)
    have g150 := g139.frz (o := (.tup [(V.int (0 : Int)), (V.int ((1 : Int) * 2 ^ ((30 : Int)).toNat))])) np146
    have ow151 := ow140.frz (o := (.tup [(V.int (0 : Int)), (V.int ((1 : Int) * 2 ^ ((30 : Int)).toNat))])) np146
    have hB152 := hB141.frz (o := (.tup [(V.int (0 : Int)), (V.int ((1 : Int) * 2 ^ ((30 : Int)).toNat))])) np146
    have r153 : R K (upd F134 p145 (.tup [(V.int (0 : Int)), (V.int ((1 : Int) * 2 ^ ((30 : Int)).toNat))])) (.ref p145) (((0 : Int), ((1 : Int) * 2 ^ ((30 : Int)).toNat)) : (Int × Int)) := R.mk2 fzT (Rp.int (0 : Int)) (Rp.int ((1 : Int) * 2 ^ ((30 : Int)).toNat))
    have rH154 : R K (upd H135 p145 (.tup [(V.int (0 : Int)), (V.int ((1 : Int) * 2 ^ ((30 : Int)).toNat))])) v137 r132 := (Rp.up (r138.up sm149) g150.fh)
    have rH155 : R K (upd H135 p145 (.tup [(V.int (0 : Int)), (V.int ((1 : Int) * 2 ^ ((30 : Int)).toNat))])) (V.ref p145) ((0 : Int), ((1 : Int) * 2 ^ ((30 : Int)).toNat)) := (Rp.up r153 g150.fh)
    refine ⟨_, _, (Rp.dp _ _ rH154), (Rp.dp _ _ rH155), (R.shaped rH154), (R.shaped rH155), _, rfl, ?_⟩
    obtain ⟨c156, hc157, hm⟩ := bnd hm
    refine andJV (M := M0) (F := (upd F134 p145 (.tup [(V.int (0 : Int)), (V.int ((1 : Int) * 2 ^ ((30 : Int)).toNat))]))) (c := c156) (P := fun _ _ => True) (fun ha => ?_) (fun ha => ⟨(sjoin (ifF ha hc157)).symm, trivial⟩) g150.fh ?_
    · intro Q159 q160
      have hc157 := ifT ha hc157
      obtain ⟨r161, hb162, hc157⟩ := bnd hc157
      refine ⟨(upd F134 p145 (.tup [(V.int (0 : Int)), (V.int ((1 : Int) * 2 ^ ((30 : Int)).toNat))])), ("1" : Str), (1 : Int), r161, rfl, g150.fh, ⟨by decide +kernel, by decide +kernel⟩, hb162, fun v166 F163 H164 g165 r167 => ?_⟩
      have g168 := Gr.trans g150 (Gr.of0 g165)
      have g169 := Gr.trans (Gr.refl (M := M0) g150.fh) g165
      have ow170 := ow151.gr0 g165
      have hB171 := hB152.gr0 g165
      refine ⟨(by show 2 ≤ sizeLine; decide), fun p172 np173 => ?_⟩
      have ne174 := ow170.ne np173
      have nb175 := hB171.nb np173
      have sm176 := same_new (o := (.tup [(V.int (1 : Int)), (V.int (2 : Int))])) (g168.noneF np173)
      have g177 := g168.frz (o := (.tup [(V.int (1 : Int)), (V.int (2 : Int))])) np173
      have g178 := g169.frz (o := (.tup [(V.int (1 : Int)), (V.int (2 : Int))])) np173
      have ow179 := ow170.frz (o := (.tup [(V.int (1 : Int)), (V.int (2 : Int))])) np173
      have hB180 := hB171.frz (o := (.tup [(V.int (1 : Int)), (V.int (2 : Int))])) np173
      have r181 : R K (upd F163 p172 (.tup [(V.int (1 : Int)), (V.int (2 : Int))])) (.ref p172) (((1 : Int), (2 : Int)) : (Int × Int)) := R.mk2 fzT (Rp.int (1 : Int)) (Rp.int (2 : Int))
      have rH182 : R K (upd H164 p172 (.tup [(V.int (1 : Int)), (V.int (2 : Int))])) v166 r161 := (Rp.up (r167.up sm176) g177.fh)
      have rH183 : R K (upd H164 p172 (.tup [(V.int (1 : Int)), (V.int (2 : Int))])) (V.ref p172) ((1 : Int), (2 : Int)) := (Rp.up r181 g177.fh)
      refine ⟨_, _, (Rp.dp _ _ rH182), (Rp.dp _ _ rH183), (R.shaped rH182), (R.shaped rH183), _, rfl, ?_⟩
      obtain ⟨c184, hc185, hc157⟩ := bnd hc157
      refine andJV (M := M0) (F := (upd F163 p172 (.tup [(V.int (1 : Int)), (V.int (2 : Int))]))) (c := c184) (P := fun _ _ => True) (fun ha => ?_) (fun ha => ⟨(sjoin (ifF ha hc185)).symm, trivial⟩) g177.fh ?_
      · intro Q187 q188
        have hc185 := ifT ha hc185
        obtain ⟨r189, hb190, hc185⟩ := bnd hc185
        refine ⟨("*" : Str), (0 : Int), (1 : Int), r189, rfl, ⟨by decide +kernel, by decide +kernel⟩, hb190, fun F191 H192 g193 => ?_⟩
        have g195 := Gr.apart g177 g193
        have g196 := Gr.apart g178 g193
        have g197 := Gr.apart (Gr.refl (M := M0) g177.fh) g193
        have ow198 := ow179.apart g193
        have hB199 := hB180.apart g193
        obtain rfl := sjoin hc185
        refine ⟨_, _, rfl, rfl, (q188 _ _ g197 trivial)⟩
      intro F200 H201 g202 hB203
      have g204 := Gr.trans g177 (Gr.of0 g202)
      have g205 := Gr.trans g178 g202
      have ow206 := ow179.gr0 g202
      have hB207 := hB180.gr0 g202
      obtain rfl := sjoin hc157
      exact (q160 _ _ g205 trivial)
    intro F208 H209 g210 hB211
    have g212 := Gr.trans g150 (Gr.of0 g210)
    have ow213 := ow151.gr0 g210
    have hB214 := hB152.gr0 g210
    obtain ⟨he215, rfl⟩ := pjoin hm
    exact (retQ (e := c156) he215 (hQ _ _ g212 hB214))
end K02
namespace K02
open PySem PySem.Spec PyProof.Rows L2 TL G
theorem skip0_le : ∀ (l : List Int) (k : Nat), skip0 l k ≤ k + l.length
  | [], k => Nat.le_refl _
  | x :: r, k => by
    rw [skip0]
    split
    · have := skip0_le r (k + 1)
      rw [List.length_cons]
      omega
    · omega
theorem draw_O {b : Bag} {n : Int} (hb : BOk b) (h0 : 0 < n) (h1 : n < 18446744073709551616) : O2 BOk (m_l_draw b n) (fun r => 0 ≤ r ∧ r < n) := by
  have hlog : n.natAbs.log2 < 9000 := by
    have hn : n.natAbs < 2 ^ 64 := by omega
    have hz : n.natAbs ≠ 0 := by omega
    have := (Nat.log2_lt hz).mpr hn
    omega
  have h63 := hb.len
  unfold m_l_draw
  rw [if_pos ⟨⟨h0, hlog⟩, hb.lo, hb.hi, by rw [sizeLine_eq]; omega⟩]
  cases e : b.cells[skip0 (b.cells.drop b.at_) b.at_]? with
  | some x => exact O2.ret ⟨hb.lo, hb.hi, by show (b.cells.set _ _).length ≤ 63; rw [List.length_set]; exact h63⟩ ⟨Int.emod_nonneg _ (by omega), Int.emod_lt_of_pos _ h0⟩
  | none =>
    have h2 : 0 ≤ stir b.seed (b.cnt + 1) := Int.emod_nonneg _ (by decide)
    have h3 : stir b.seed (b.cnt + 1) < 2147483647 := Int.emod_lt_of_pos _ (by decide)
    exact O2.ret ⟨h2, by show stir b.seed (b.cnt + 1) < 2147483648; omega, h63⟩ ⟨Int.emod_nonneg _ (by omega), Int.emod_lt_of_pos _ h0⟩
/-! ### what is drawn -/
theorem bits_c1 : ∀ (l : List Int) (b : Bag), BOk b → O2 BOk (m_l_bits_c1 l b) (fun ys => ys.length = l.length ∧ ∀ y ∈ ys, ∃ c, isB c = true ∧ tl y = [c])
  | [], b, hb => O2.ret hb ⟨rfl, fun _ h => nomatch h⟩
  | x :: l, b, hb => by
    unfold m_l_bits_c1
    refine O2.bind (draw_O hb (by decide) (by decide)) fun r b hb hr => ?_
    refine O2.bind1 (codeAt_O (P := fun c => isB c = true) hr.1 (by rw [tl01]; exact hr.2) fun _ h => Bits.mem01 h) fun c hc => ?_
    refine O2.bind (bits_c1 l b hb) fun ys b hb hy => ?_
    refine O2.ret hb ⟨congrArg Nat.succ hy.1, fun y h => ?_⟩
    rcases List.mem_cons.mp h with rfl | h
    · exact ⟨c, hc, rfl⟩
    · exact hy.2 y h
theorem flat_bits : ∀ ys : List Str, (∀ y ∈ ys, ∃ c, isB c = true ∧ tl y = [c]) → Bits (ys.map tl).flatten ∧ (ys.map tl).flatten.length = ys.length
  | [], _ => ⟨Bits.nil, rfl⟩
  | y :: ys, h => by
    obtain ⟨c, hc, e⟩ := h y (List.mem_cons_self ..)
    obtain ⟨h1, h2⟩ := flat_bits ys fun z hz => h z (List.mem_cons_of_mem _ hz)
    rw [List.map_cons, List.flatten_cons, e]
    exact ⟨(Bits.one hc).app h1, by rw [List.length_append, h2]; exact Nat.add_comm 1 _⟩
theorem bits_O {b : Bag} {n : Int} (hb : BOk b) (h0 : -1000 ≤ n) (h1 : n ≤ 1000) : O2 BOk (m_l_bits b n) (fun x => Bits (tl x) ∧ (tl x).length = n.toNat) := by
  unfold m_l_bits
  refine O2.bind (draw_O hb (by decide) (by decide)) fun r b hb hr => ?_
  refine O2.ite (fun _ => ?_) (fun _ => ?_)
  · refine O2.bind (draw_O hb (by decide) (by decide)) fun r b hb hr => ?_
    refine O2.bind1 (codeAt_O (P := fun c => isB c = true) hr.1 (by rw [tl01]; exact hr.2) fun _ h => Bits.mem01 h) fun c hc => ?_
    refine O2.bind (P := fun x => Bits (tl x) ∧ (tl x).length = n.toNat) ?_ fun x b hb hx => O2.ret hb hx
    refine O2.ite (fun hn => ?_) (fun hn => ?_)
    · have hn : 0 < n := of_decide_eq_true hn
      refine O2.bind1 (mulS_O (P := fun x => tl x = List.replicate n.toNat c) (by omega) (by omega) (by rw [tl_sgn]; show 1 * _ ≤ _; omega) (by rw [tl_mul, tl_sgn]; simp)) fun x hx => ?_
      refine O2.bind (draw_O hb (by decide) (by decide)) fun r b hb hr => ?_
      refine O2.bind1 (codeAt_O (P := fun c => isB c = true) hr.1 (by rw [tl01]; exact hr.2) fun _ h => Bits.mem01 h) fun d hd => ?_
      refine O2.bind1 (catS_O (P := fun y => tl y = List.replicate n.toNat c ++ [d]) (by rw [hx, tl_sgn, List.length_replicate]; show _ + 1 ≤ _; omega) (by rw [tl_append, hx, tl_sgn])) fun y hy => ?_
      refine O2.ret hb ?_
      have e1 : (1 : Int) = ((1 : Nat) : Int) := rfl
      have e2 : n + 1 = ((n.toNat + 1 : Nat) : Int) := by omega
      have hl : (List.replicate n.toNat c ++ [d]).length = n.toNat + 1 := by rw [List.length_append, List.length_replicate]; rfl
      rw [tl_cut, hy, e2, e1, HT.sIx_nat, HT.sIx_nat, hl]
      have hb2 : Bits (List.replicate n.toNat c ++ [d]) := Bits.app (fun z hz => by rw [(List.mem_replicate.mp hz).2]; exact hc) (Bits.one hd)
      refine ⟨(hb2.drop _).take _, ?_⟩
      rw [List.length_take, List.length_drop, hl]
      omega
    · have hn : ¬ 0 < n := of_decide_eq_false hn
      exact O2.ret hb ⟨by rw [tl_empty]; exact Bits.nil, by rw [tl_empty]; show 0 = _; omega⟩
  · refine O2.bind1 (rangeO1_O (P := fun l => l.length = n.toNat) (by omega) (by omega) rangeL_length) fun l hl => ?_
    refine O2.bind (bits_c1 l b hb) fun ys b hb hy => ?_
    obtain ⟨hf1, hf2⟩ := flat_bits ys hy.2
    have hsum : (ys.map fun y => (tl y).length).sum = ys.length := by rw [← hf2, List.length_flatten, List.map_map]; rfl
    refine O2.bind1 (joinS_O (P := fun x => Bits (tl x) ∧ (tl x).length = n.toNat) (by rw [hsum, tl_empty, hy.1, hl]; show _ + _ * 0 ≤ _; omega) ⟨by rw [tl_join0]; exact hf1, by rw [tl_join0, hf2, hy.1, hl]⟩) fun x hx => O2.ret hb hx
theorem size_O {b : Bag} (hb : BOk b) : O2 BOk (m_l_size b) (fun r => 1 ≤ r ∧ r ≤ 30) := by
  unfold m_l_size
  refine O2.bind (draw_O hb (by decide) (by decide)) fun r1 b hb h1 => ?_
  refine O2.bind (draw_O hb (by decide) (by decide)) fun r2 b hb h2 => ?_
  refine O2.bind (draw_O hb (by decide) (by decide)) fun r3 b hb h3 => ?_
  refine O2.bind (draw_O hb (by decide) (by decide)) fun r4 b hb h4 => ?_
  refine O2.bind1 (atI_O (P := fun r => 1 ≤ r ∧ r ≤ 30) h4.1 h4.2 fun x hx => ?_) fun x hx => O2.ret hb hx
  simp only [List.mem_cons, List.not_mem_nil, or_false] at hx
  omega
theorem turned_ok (x : Str) (h : Bits (tl x)) : ∃ bs, Bits bs ∧ bs.length ≤ 1 ∧ tl (dgetS [(("0" : Str), ("1" : Str)), (("1" : Str), ("0" : Str))] x ("" : Str)) = bs := by
  unfold dgetS
  by_cases h0 : ("0" : Str) = x
  · subst h0
    exact ⟨[49], Bits.one (by decide), Nat.le_refl _, by decide +kernel⟩
  · by_cases h1 : ("1" : Str) = x
    · subst h1
      exact ⟨[48], Bits.one (by decide), Nat.le_refl _, by decide +kernel⟩
    · refine ⟨[], Bits.nil, Nat.zero_le _, ?_⟩
      simp only [List.find?_cons, decide_eq_false h0, decide_eq_false h1, List.find?_nil]
      exact tl_empty
theorem one_O {b : Bag} {n : Int} {w : Nat} {some_ : List Str} (hb : BOk b) (hn : n = (w : Nat)) (hw : 1 ≤ w ∧ w ≤ 30) (hs : ∀ x ∈ some_, ∃ bs, Pat w bs x) (hl : some_.length ≤ 1000) : O2 BOk (m_l_one b n some_) (fun x => ∃ bs, Pat w bs x) := by
  subst hn
  unfold m_l_one
  refine O2.bind (draw_O hb (by omega) (by omega)) fun r1 b hb h1 => ?_
  refine O2.bind (bits_O hb (by omega) (by omega)) fun x b hb hx => ?_
  refine O2.bind (draw_O hb (by decide) (by decide)) fun r3 b hb h3 => ?_
  refine O2.bind (P := fun y => Bits (tl y) ∧ (tl y).length ≤ 60) ?_ fun y b hb hy => ?_
  · refine O2.ite (fun hc => ?_) (fun _ => O2.ret hb ⟨hx.1, by omega⟩)
    obtain ⟨hc1, hc2⟩ := Bool.and_eq_true_iff.mp hc
    have hne : some_ ≠ [] := fun e => by rw [e, eqD_refl] at hc1; exact absurd hc1 (by decide)
    have hpos : 0 < some_.length := List.length_pos_iff.mpr hne
    refine O2.bind (draw_O hb (by omega) (by omega)) fun r4 b hb h4 => ?_
    refine O2.bind1 (atI_O (P := fun x => ∃ bs, Pat w bs x) h4.1 h4.2 hs) fun z hz => ?_
    obtain ⟨bs, pz⟩ := hz
    refine O2.bind1 (O1.ret (P := fun u => tl u = bs) pz.strip) fun u hu => ?_
    have hul := pz.le
    refine O2.bind1 (O1.ret (P := fun t => Bits (tl t) ∧ (tl t).length ≤ 1) ?_) fun t ht => ?_
    · obtain ⟨cs, h5, h6, h7⟩ := turned_ok (cutS u (some (-(1 : Int))) none) (by rw [tl_cut, hu]; exact (pz.bits.drop _).take _)
      rw [h7]
      exact ⟨h5, h6⟩
    refine O2.bind (draw_O hb (by rw [len_tl]; omega) (by rw [len_tl, hu]; omega)) fun cut b hb hcut => ?_
    refine O2.bind (draw_O hb (by decide) (by decide)) fun r b hb hr => ?_
    refine O2.bind1 (codeAt_O (P := fun c => isB c = true) hr.1 (by rw [tl01]; exact hr.2) fun _ h => Bits.mem01 h) fun c hcb => ?_
    refine O2.bind1 (catS_O (P := fun y => tl y = bs ++ [c]) (by rw [hu, tl_sgn]; show _ + 1 ≤ _; omega) (by rw [tl_append, hu, tl_sgn])) fun y1 hy1 => ?_
    have hcl : (tl (cutS u none (some (-(1 : Int))))).length ≤ 30 := by rw [tl_cut, List.length_take, List.length_drop, hu]; omega
    refine O2.bind1 (catS_O (P := fun y => Bits (tl y) ∧ (tl y).length ≤ 31) (by omega) ?_) fun y2 hy2 => ?_
    · rw [tl_append, List.length_append]
      exact ⟨Bits.app (by rw [tl_cut, hu]; exact (pz.bits.drop _).take _) ht.1, by omega⟩
    refine O2.bind1 (atI_O (P := fun y => Bits (tl y) ∧ (tl y).length ≤ 60) h3.1 (of_decide_eq_true hc2) fun y hy => ?_) fun y hy => O2.ret hb hy
    simp only [List.mem_cons, List.not_mem_nil, or_false] at hy
    rcases hy with rfl | rfl | rfl
    · rw [tl_cut, hu, List.length_take, List.length_drop]
      exact ⟨(pz.bits.drop _).take _, by omega⟩
    · rw [hy1, List.length_append]
      exact ⟨pz.bits.app (Bits.one hcb), by show _ + 1 ≤ _; omega⟩
    · exact ⟨hy2.1, by omega⟩
  refine O2.bind (P := fun y => Bits (tl y) ∧ (tl y).length ≤ 200) ?_ fun z b hb hz => ?_
  · refine O2.ite (fun _ => ?_) (fun _ => O2.ret hb ⟨hy.1, by omega⟩)
    refine O2.bind (bits_O hb (by rw [len_tl]; omega) (by rw [len_tl]; omega)) fun u b hb hu => ?_
    refine O2.bind1 (catS_O (P := fun v => Bits (tl v) ∧ (tl v).length ≤ 200) (by omega) ?_) fun v hv => O2.ret hb hv
    rw [tl_append, List.length_append]
    exact ⟨hy.1.app hu.1, by rw [hu.2]; omega⟩
  refine O2.bind1 (O1.ret (P := fun u => Bits (tl u) ∧ (tl u).length ≤ w) ?_) fun u hu => ?_
  · rw [tl_cut, HT.sIx_nat, sIx_n, List.length_take]
    exact ⟨(hz.1.drop _).take _, by omega⟩
  refine O2.bind1 (mulS_O (P := fun v => tl v = if (tl u).length < w then [42] else []) (by unfold toI; split <;> omega) (by unfold toI; split <;> omega) (by rw [tlStar]; unfold toI; split <;> decide) ?_) fun v hv => ?_
  · rw [tl_mul, tlStar, len_tl]
    by_cases h : (tl u).length < w
    · rw [if_pos h, decide_eq_true (by omega)]; rfl
    · rw [if_neg h, decide_eq_false (by omega)]; rfl
  refine O2.bind1 (catS_O (P := fun y => ∃ bs, Pat w bs y) ?_ ⟨tl u, hu.1, hu.2, ?_⟩) fun y hy => O2.ret hb hy
  · rw [hv]
    split
    · show _ + 1 ≤ _; omega
    · show _ + 0 ≤ _; omega
  · rw [tl_append, hv]
    rfl
end K02
namespace K02
open PySem PySem.Spec PyProof.Rows L2 TL G
/-! ### spans -/
theorem span_l1 : ∀ (cs : List Nat) (n : Nat), m_span_of_l1 cs (n : Int) = some ((n * 2 ^ cs.length + wr cs : Nat) : Int)
  | [], n => by unfold m_span_of_l1; simp [wr]
  | c :: cs, n => by
    unfold m_span_of_l1
    rw [toI_sgn1, Option.bind_some]
    have e : (2 : Int) * (n : Int) + ((if c = 49 then 1 else 0 : Nat) : Int) = ((2 * n + (if c = 49 then 1 else 0) : Nat) : Int) := by omega
    rw [e, span_l1 cs, wr_cons, List.length_cons, Nat.pow_succ]
    generalize (if c = 49 then 1 else 0) = d
    generalize 2 ^ cs.length = p
    congr 2
    rw [Nat.add_mul, Nat.mul_comm 2 n, Nat.mul_assoc, Nat.mul_comm 2 p, Nat.add_assoc]
def spanL (w : Nat) (bs : List Nat) : Nat × Nat := (wr bs * 2 ^ (w - bs.length), (wr bs + 1) * 2 ^ (w - bs.length))
theorem span_spec {w : Nat} {bs : List Nat} {x : Str} (p : Pat w bs x) (hw : w ≤ 60) : m_span_of x (w : Nat) = some (((spanL w bs).1 : Int), ((spanL w bs).2 : Int)) := by
  unfold m_span_of m_bits_of
  rw [Option.bind_some]
  have e1 : ((partS x ("*" : Str)).a).cps.toList = bs := p.part
  have e2 : (((partS x ("*" : Str)).a).length : Int) = (bs.length : Nat) := by rw [len_tl, p.part]
  have hle := p.le
  rw [e1, e2, show (0 : Int) = ((0 : Nat) : Int) from rfl, span_l1, Option.bind_some, Nat.zero_mul, Nat.zero_add]
  have e3 : (w : Int) - (bs.length : Nat) = ((w - bs.length : Nat) : Int) := by omega
  have h1 := wr_lt bs
  have h2 : 2 ^ bs.length < 2 ^ 62 := Nat.pow_lt_pow_right (by decide) (by omega)
  have h3 : 2 ^ (w - bs.length) < 2 ^ 64 := pow_lt64 (by omega)
  rw [e3, shlI_one (by omega), Option.bind_some, mulI_nat (by omega) h3, Option.bind_some]
  have e4 : ((wr bs : Nat) : Int) + 1 = ((wr bs + 1 : Nat) : Int) := rfl
  rw [e4, mulI_nat (by omega) h3, Option.bind_some]
  rfl
theorem has_spec {w : Nat} {bs : List Nat} {x : Str} {n : Nat} (p : Pat w bs x) (hw : w ≤ 60) : m_has x (n : Nat) (w : Nat) = some (decide (n / 2 ^ (w - bs.length) = wr bs)) := by
  unfold m_has
  rw [span_spec p hw, Option.bind_some]
  have hp : 0 < 2 ^ (w - bs.length) := Nat.two_pow_pos _
  congr 1
  rw [Bool.eq_iff_iff, Bool.and_eq_true, decide_eq_true_iff, decide_eq_true_iff, decide_eq_true_iff]
  show ((((wr bs * 2 ^ (w - bs.length) : Nat) : Int) ≤ (n : Int)) ∧ (n : Int) < (((wr bs + 1) * 2 ^ (w - bs.length) : Nat) : Int)) ↔ _
  rw [Int.ofNat_le, Int.ofNat_lt, Nat.div_eq_iff hp]
  rw [Nat.add_mul, Nat.one_mul]
  omega
theorem worth_l1 : ∀ (cs : List Nat) (n : Nat), m_l_worth_l1 cs (n : Int) = some ((n * 2 ^ cs.length + wr cs : Nat) : Int)
  | [], n => by unfold m_l_worth_l1; simp [wr]
  | c :: cs, n => by
    unfold m_l_worth_l1
    rw [toI_sgn1, Option.bind_some]
    have e : (n : Int) * 2 + ((if c = 49 then 1 else 0 : Nat) : Int) = ((2 * n + (if c = 49 then 1 else 0) : Nat) : Int) := by omega
    rw [e, worth_l1 cs, wr_cons, List.length_cons, Nat.pow_succ]
    generalize (if c = 49 then 1 else 0) = d
    generalize 2 ^ cs.length = p
    congr 2
    rw [Nat.add_mul, Nat.mul_comm 2 n, Nat.mul_assoc, Nat.mul_comm 2 p, Nat.add_assoc]
theorem worth_spec (x : Str) : m_l_worth x = some ((wr (tl x) : Nat) : Int) := by
  unfold m_l_worth
  rw [show x.cps.toList = tl x from rfl, show (0 : Int) = ((0 : Nat) : Int) from rfl, worth_l1, Nat.zero_mul, Nat.zero_add]
  rfl
theorem lspan_spec {w : Nat} {bs : List Nat} {x : Str} (p : Pat w bs x) (hw : w ≤ 60) : m_l_span x (w : Nat) = some (((spanL w bs).1 : Int), ((spanL w bs).2 : Int)) := by
  have hle := p.le
  have hs := p.strip
  unfold m_l_span
  rw [Option.bind_some]
  generalize Txt.stripChars x ("*" : Str) = y at hs
  rw [Option.bind_some, len_tl, hs]
  have e3 : (w : Int) - (bs.length : Nat) = ((w - bs.length : Nat) : Int) := by omega
  rw [e3]
  obtain ⟨z0, e0, h0⟩ := mulS_O (x := ("0" : Str)) (n := ((w - bs.length : Nat) : Int)) (P := fun z => tl z = List.replicate (w - bs.length) 48) (by omega) (by omega) (by rw [tl0]; show 1 * _ ≤ _; omega) (by rw [tl_mul, tl0]; simp)
  obtain ⟨z1, e1, h1⟩ := mulS_O (x := ("1" : Str)) (n := ((w - bs.length : Nat) : Int)) (P := fun z => tl z = List.replicate (w - bs.length) 49) (by omega) (by omega) (by rw [tl1]; show 1 * _ ≤ _; omega) (by rw [tl_mul, tl1]; simp)
  obtain ⟨y0, f0, g0⟩ := catS_O (a := y) (b := z0) (P := fun z => tl z = bs ++ List.replicate (w - bs.length) 48) (by rw [hs, h0, List.length_replicate]; omega) (by rw [tl_append, hs, h0])
  obtain ⟨y1, f1, g1⟩ := catS_O (a := y) (b := z1) (P := fun z => tl z = bs ++ List.replicate (w - bs.length) 49) (by rw [hs, h1, List.length_replicate]; omega) (by rw [tl_append, hs, h1])
  rw [e0, Option.bind_some, f0, Option.bind_some, worth_spec, Option.bind_some, e1, Option.bind_some, f1, Option.bind_some, worth_spec, Option.bind_some, g0, g1, wr_app, wr_app, wr_zeros, List.length_replicate, List.length_replicate]
  have h2 := wr_ones (w - bs.length)
  have h3 : ((wr bs * 2 ^ (w - bs.length) + wr (List.replicate (w - bs.length) 49) : Nat) : Int) + 1 = (((wr bs + 1) * 2 ^ (w - bs.length) : Nat) : Int) := by
    rw [Nat.add_mul, Nat.one_mul]
    omega
  rw [h3, Nat.add_zero]
  rfl
end K02
namespace K02
open PySem PySem.Spec PyProof.Rows L2 TL G
theorem writing_l1 (n : Nat) : ∀ (j k : Nat) (s : Str), tl s = bin k n → k + j ≤ 1000 → ∃ z, m_l_writing_l1 (n : Int) ((rangeL 0 (k + j)).drop k) s = some z ∧ tl z = bin (k + j) n
  | 0, k, s, h, hk => ⟨s, by rw [List.drop_eq_nil_of_le (by rw [rangeL_length]; omega)]; rfl, h⟩
  | j + 1, k, s, h, hk => by
    have hg : (rangeL 0 (k + (j + 1)))[k]? = some ((k : Nat) : Int) := by
      have := rangeL_at (lo := 0) (show k < k + (j + 1) by omega)
      rw [Int.zero_add] at this
      exact this
    rw [drop_at hg]
    unfold m_l_writing_l1
    have h2 : n / 2 ^ k % 2 < 2 := Nat.mod_lt _ (by decide)
    rw [shrI_nat, Option.bind_some, and_one, code01 h2, Option.bind_some]
    obtain ⟨z, e, hz⟩ := catS_O (a := sgn (48 + n / 2 ^ k % 2)) (b := s) (P := fun z => tl z = bin (k + 1) n) (by rw [tl_sgn, h, bin_len]; show 1 + k ≤ _; omega) (by rw [tl_append, tl_sgn, h, bin_top]; rfl)
    rw [e, Option.bind_some]
    have := writing_l1 n j (k + 1) z hz (by omega)
    rw [show k + 1 + j = k + (j + 1) by omega] at this
    exact this
theorem writing_spec (n w : Nat) (hw : w ≤ 60) : ∃ z, m_l_writing (n : Int) (w : Int) = some z ∧ tl z = bin w n := by
  unfold m_l_writing
  obtain ⟨l, e, hl⟩ := rangeO1_O (n := (w : Int)) (P := fun l => l = rangeL 0 w) (by omega) (by omega) rfl
  rw [e, Option.bind_some, hl]
  obtain ⟨z, e2, hz⟩ := writing_l1 n w 0 ("" : Str) (by rw [tl_empty]; rfl) (by omega)
  rw [Nat.zero_add, List.drop_zero] at e2
  rw [e2, Option.bind_some]
  rw [Nat.zero_add] at hz
  exact ⟨z, rfl, hz⟩
/-! ### the members -/
theorem due_has {w : Nat} {bs : List Nat} {n : Nat} (hb : Bits bs) (hl : bs.length ≤ w) (hn : n < 2 ^ w) : decide ((bin w n).take bs.length = bs) = decide (n / 2 ^ (w - bs.length) = wr bs) := by
  obtain ⟨j, rfl⟩ := Nat.exists_eq_add_of_le hl
  rw [bin_take, Nat.add_sub_cancel_left, decide_eq_decide]
  have hd : n / 2 ^ j < 2 ^ bs.length := by
    rw [Nat.div_lt_iff_lt_mul (Nat.two_pow_pos _), ← Nat.pow_add]
    exact hn
  constructor
  · intro h
    have := wr_bin bs.length (n / 2 ^ j)
    rw [h, Nat.mod_eq_of_lt hd] at this
    exact this.symm
  · intro h
    refine wr_inj (bin_bits _ _) hb (bin_len _ _) ?_
    rw [wr_bin, Nat.mod_eq_of_lt hd, h]
theorem mem_l1 {w : Nat} {bs : List Nat} {x y : Str} (p : Pat w bs x) (hw : w ≤ 60) (hy : tl y = bs) (b : Bag) : ∀ l : List Int, m_l_members_right_l1 x (w : Nat) y l b = some (.go b)
  | [] => rfl
  | n :: l => by
    unfold m_l_members_right_l1
    rw [shlI_one (by omega), Option.bind_some]
    by_cases h : ((decide ((0 : Int) ≤ n)) && (decide (n < ((2 ^ w : Nat) : Int)))) = true
    · obtain ⟨h1, h2⟩ := Bool.and_eq_true_iff.mp h
      have h1 := of_decide_eq_true h1
      have h2 := of_decide_eq_true h2
      obtain ⟨m, rfl⟩ := Int.eq_ofNat_of_zero_le h1
      have h3 : m < 2 ^ w := Int.ofNat_lt.mp h2
      rw [if_pos h]
      obtain ⟨z, e, hz⟩ := writing_spec m w hw
      rw [e, Option.bind_some, Option.bind_some, has_spec p hw, Option.bind_some, Option.bind_some, Option.bind_some]
      have e2 : eqS (cutS z none (some ((y.length : Nat) : Int))) y = decide (m / 2 ^ (w - bs.length) = wr bs) := by
        rw [eqS_tl, tl_cut, hz, len_tl, hy, HT.sIx_nat, sIx_n, bin_len, List.drop_zero, Nat.sub_zero, Nat.min_eq_left p.le]
        exact due_has p.bits p.le h3
      rw [e2]
      unfold m_l_alike
      rw [if_pos rfl, Option.bind_some]
      exact mem_l1 p hw hy b l
    · rw [if_neg h]
      exact mem_l1 p hw hy b l
theorem members_O {b : Bag} {w : Nat} {bs : List Nat} {x : Str} (hb : BOk b) (p : Pat w bs x) (hw : w ≤ 60) : O2 BOk (m_l_members_right b x (w : Nat)) (fun r => r = true) := by
  unfold m_l_members_right
  have hs := p.strip
  rw [Option.bind_some, lspan_spec p hw, Option.bind_some, shlI_one (by omega), Option.bind_some, Option.bind_some]
  generalize Txt.stripChars x ("*" : Str) = y at hs
  have hle := p.le
  refine O2.bind (bits_O hb (by omega) (by omega)) fun u b hb hu => ?_
  rw [worth_spec, Option.bind_some]
  refine O2.bind (bits_O hb (by rw [len_tl, hs]; omega) (by rw [len_tl, hs]; omega)) fun v b hb hv => ?_
  refine O2.bind1 (catS_O (P := fun _ => True) (by rw [hs, hv.2, len_tl, hs]; omega) trivial) fun z _ => ?_
  rw [worth_spec, Option.bind_some]
  refine O2.bind1 (P := fun _ => True) ⟨_, by unfold conL; rw [if_pos (by rw [sizeLine_eq]; show 6 + 2 ≤ _; decide)], trivial⟩ fun l _ => ?_
  exact O2.bL1 (mem_l1 p hw hs b l) (O2.ret hb rfl)
theorem law_l1 {w : Nat} (hw : 1 ≤ w ∧ w ≤ 30) : ∀ (l : List Int) (s : List Str) (b : Bag), BOk b → (∀ x ∈ s, ∃ bs, Pat w bs x) → s.length + l.length ≤ 900 → ∃ s' b', m_law_l1 (w : Nat) l s b = some (.go (s', b')) ∧ BOk b'
  | [], s, b, hb, _, _ => ⟨s, b, rfl, hb⟩
  | k :: l, s, b, hb, hs, hl => by
    rw [List.length_cons] at hl
    obtain ⟨x, b2, e, hb2, bs, p⟩ := one_O hb rfl hw hs (by omega)
    have hs2 : ∀ y ∈ s ++ [x], ∃ bs, Pat w bs y := fun y hy => by
      rcases List.mem_append.mp hy with h | h
      · exact hs y h
      · rw [List.mem_singleton.mp h]; exact ⟨bs, p⟩
    obtain ⟨r, b3, e3, hb3, rfl⟩ := members_O hb2 p (by omega)
    obtain ⟨s', b', e4, hb'⟩ := law_l1 hw l (s ++ [x]) b3 hb3 hs2 (by rw [List.length_append]; show s.length + 1 + _ ≤ _; omega)
    refine ⟨s', b', ?_, hb'⟩
    unfold m_law_l1
    rw [e]
    rw [bind2_some]
    have ea : appL s x = some (s ++ [x]) := by unfold appL; rw [if_pos (by rw [sizeLine_eq]; omega)]
    rw [ea, Option.bind_some, span_spec p (by omega), Option.bind_some, lspan_spec p (by omega), Option.bind_some, alike_self, Option.bind_some, notT, Option.bind_some, Option.bind_some, alike_self, Option.bind_some, notT, e3]
    exact e4
theorem law_true (b : Bag) (hb : BOk b) : ∃ b', m_law b = some (true, b') := by
  obtain ⟨n, b1, e1, hb1, hn⟩ := size_O hb
  obtain ⟨w, rfl⟩ := Int.eq_ofNat_of_zero_le (show 0 ≤ n by omega)
  obtain ⟨s, b2, e2, hb2⟩ := law_l1 (w := w) (by omega) (rangeL (0 : Int) 6) [] b1 hb1 (fun _ h => nomatch h) (by rw [rangeL_length]; decide)
  refine O2.true_ (I := BOk) ?_
  unfold m_law
  rw [e1, bind2_some]
  refine O2.bL2 e2 ?_
  have p1 : Pat 30 [] ("*" : Str) := ⟨Bits.nil, by decide, by rw [tlStar]; rfl⟩
  have p2 : Pat 1 [49] ("1" : Str) := ⟨Bits.one (by decide), by decide, by rw [tl1]; rfl⟩
  have p3 : Pat 1 [] ("*" : Str) := ⟨Bits.nil, by decide, by rw [tlStar]; rfl⟩
  have f1 : m_span_of ("*" : Str) 30 = some ((0 : Int), (1073741824 : Int)) := span_spec p1 (by decide)
  have f2 : m_span_of ("1" : Str) 1 = some ((1 : Int), (2 : Int)) := span_spec p2 (by decide)
  have f3 : m_has ("*" : Str) 0 1 = some true := has_spec (n := 0) p3 (by decide)
  have f4 : shlI 1 30 = some 1073741824 := shlI_one (k := 30) (by decide)
  rw [f1, Option.bind_some, f4, Option.bind_some, f2, f3]
  refine ⟨true, b2, ?_, hb2, rfl⟩
  rw [if_pos (by decide +kernel), Option.bind_some, if_pos (by decide +kernel)]
  rfl
end K02
namespace K02
open PySem PySem.Spec PyProof.Rows L2 TL G
def dd_bits_of : He.DefD := ⟨("bits_of", none), "bits_of", "bits_of", defArgs s_bits_of, defBody s_bits_of, defScope s_bits_of, [], []⟩
def dd_span_of : He.DefD := ⟨("span_of", none), "span_of", "span_of", defArgs s_span_of, defBody s_span_of, defScope s_span_of, [], []⟩
def dd_has : He.DefD := ⟨("has", none), "has", "has", defArgs s_has, defBody s_has, defScope s_has, [], []⟩
def dd_l_bag : He.DefD := ⟨("_law_bag", none), "_law_bag", "_law_bag", defArgs s_l_bag, defBody s_l_bag, defScope s_l_bag, [], []⟩
def dd_l_draw : He.DefD := ⟨("_law_draw", none), "_law_draw", "_law_draw", defArgs s_l_draw, defBody s_l_draw, defScope s_l_draw, [], []⟩
def dd_l_bits : He.DefD := ⟨("_law_bits", none), "_law_bits", "_law_bits", defArgs s_l_bits, defBody s_l_bits, defScope s_l_bits, [], []⟩
def dd_l_worth : He.DefD := ⟨("_law_worth", none), "_law_worth", "_law_worth", defArgs s_l_worth, defBody s_l_worth, defScope s_l_worth, [], []⟩
def dd_l_size : He.DefD := ⟨("_law_size", none), "_law_size", "_law_size", defArgs s_l_size, defBody s_l_size, defScope s_l_size, [], []⟩
def dd_l_one : He.DefD := ⟨("_law_one", none), "_law_one", "_law_one", defArgs s_l_one, defBody s_l_one, defScope s_l_one, [], []⟩
def dd_l_span : He.DefD := ⟨("_law_span", none), "_law_span", "_law_span", defArgs s_l_span, defBody s_l_span, defScope s_l_span, [], []⟩
def dd_l_alike : He.DefD := ⟨("_law_alike", none), "_law_alike", "_law_alike", defArgs s_l_alike, defBody s_l_alike, defScope s_l_alike, [], []⟩
def dd_l_writing : He.DefD := ⟨("_law_writing", none), "_law_writing", "_law_writing", defArgs s_l_writing, defBody s_l_writing, defScope s_l_writing, [], []⟩
def dd_l_members_right : He.DefD := ⟨("_law_members_right", none), "_law_members_right", "_law_members_right", defArgs s_l_members_right, defBody s_l_members_right, defScope s_l_members_right, [], []⟩
def dd_law : He.DefD := ⟨("law", none), "law", "law", defArgs s_law, defBody s_law, defScope s_law, [], []⟩
def fnL : List He.DefD := [dd_bits_of, dd_span_of, dd_has, dd_l_bag, dd_l_draw, dd_l_bits, dd_l_worth, dd_l_size, dd_l_one, dd_l_span, dd_l_alike, dd_l_writing, dd_l_members_right, dd_law]
def faL : List He.Fa := [.glo "bits_of", .glo "span_of", .glo "has", .glo "_law_bag", .glo "_law_draw", .glo "_law_bits", .glo "_law_worth", .glo "_law_size", .glo "_law_one", .glo "_law_span", .glo "_law_alike", .glo "_law_writing", .glo "_law_members_right", .glo "law", .free "abs", .free "all", .free "bool", .free "int", .free "isinstance", .free "len", .free "list", .free "range", .free "str", .free "tuple", .str "STAR" "*"]
abbrev RR : PySem.W.OpenRow := PySem.W.OpenLaw.row PySem.Challenge.rw_wishnet_k02_spans_and_members
abbrev hk : PySem.W.Hook := He.hookD 4 faL fnL
def ob (s : PySem.W.SharedT) : He.AlD := He.obsDG 4 faL fnL (HandSHeadRun.getT s)
theorem ob_eq (s : PySem.W.SharedT) : ob s = hk.obs s.abs := He.obsDG_eq (HandSHeadRun.getT_eq s)
def looseL : List Str := ["STAR", "bits_of", "span_of", "has", "_law_bag", "_law_draw", "_law_bits", "_law_worth", "_law_size", "_law_one", "_law_span", "_law_alike", "_law_writing", "_law_members_right"]
theorem run_top (w : World) : HandSHeadRun.RunEq RR (PySem.W.view RR.prog [16]) hk ob 4000 looseL w := by
  intro os
  kernel_rfl
theorem facts {P : Program} {w : World} {K : PySem.W.Frag} {h : Heap} {mg : Str → Option Value} {f : Addr} (X : K.In h) (Gh : h.Ns mainGlobals mg) (hfa : mg ("law" : Str) = some (.ref f)) (c : He.SaysD faL fnL K) :
    ∃ fd : FuncData, (∀ (s : Shared) (v : Value), BindsTo s fd ⟨[v], []⟩ [("_law_script", v)]) ∧ ∀ base : Heap, K.In base → base.Ns mainGlobals mg → FnOk P w K mg base CX0 11 f fd ["_law_script"] (sp_law K) := by
  obtain ⟨d0, F0⟩ := c.def_ 0 (d := dd_bits_of) rfl
  obtain ⟨d1, F1⟩ := c.def_ 1 (d := dd_span_of) rfl
  obtain ⟨d2, F2⟩ := c.def_ 2 (d := dd_has) rfl
  obtain ⟨d3, F3⟩ := c.def_ 3 (d := dd_l_bag) rfl
  obtain ⟨d4, F4⟩ := c.def_ 4 (d := dd_l_draw) rfl
  obtain ⟨d5, F5⟩ := c.def_ 5 (d := dd_l_bits) rfl
  obtain ⟨d6, F6⟩ := c.def_ 6 (d := dd_l_worth) rfl
  obtain ⟨d7, F7⟩ := c.def_ 7 (d := dd_l_size) rfl
  obtain ⟨d8, F8⟩ := c.def_ 8 (d := dd_l_one) rfl
  obtain ⟨d9, F9⟩ := c.def_ 9 (d := dd_l_span) rfl
  obtain ⟨d10, F10⟩ := c.def_ 10 (d := dd_l_alike) rfl
  obtain ⟨d11, F11⟩ := c.def_ 11 (d := dd_l_writing) rfl
  obtain ⟨d12, F12⟩ := c.def_ 12 (d := dd_l_members_right) rfl
  obtain ⟨d13, F13⟩ := c.def_ 13 (d := dd_law) rfl
  have G0 := He.glo_ok X Gh (c.fact 0 (f := .glo "bits_of") rfl)
  have G1 := He.glo_ok X Gh (c.fact 1 (f := .glo "span_of") rfl)
  have G2 := He.glo_ok X Gh (c.fact 2 (f := .glo "has") rfl)
  have G3 := He.glo_ok X Gh (c.fact 3 (f := .glo "_law_bag") rfl)
  have G4 := He.glo_ok X Gh (c.fact 4 (f := .glo "_law_draw") rfl)
  have G5 := He.glo_ok X Gh (c.fact 5 (f := .glo "_law_bits") rfl)
  have G6 := He.glo_ok X Gh (c.fact 6 (f := .glo "_law_worth") rfl)
  have G7 := He.glo_ok X Gh (c.fact 7 (f := .glo "_law_size") rfl)
  have G8 := He.glo_ok X Gh (c.fact 8 (f := .glo "_law_one") rfl)
  have G9 := He.glo_ok X Gh (c.fact 9 (f := .glo "_law_span") rfl)
  have G10 := He.glo_ok X Gh (c.fact 10 (f := .glo "_law_alike") rfl)
  have G11 := He.glo_ok X Gh (c.fact 11 (f := .glo "_law_writing") rfl)
  have G12 := He.glo_ok X Gh (c.fact 12 (f := .glo "_law_members_right") rfl)
  have G13 := He.glo_ok X Gh (c.fact 13 (f := .glo "law") rfl)
  obtain ⟨tk0, hk0⟩ := He.str_ok X Gh (c.fact 24 (f := .str "STAR" "*") rfl)
  let T : Txt K mg := { a_bits_of := _, d_bits_of := d0, F_bits_of := F0, g_bits_of := G0, a_span_of := _, d_span_of := d1, F_span_of := F1, g_span_of := G1, a_has := _, d_has := d2, F_has := F2, g_has := G2, a_l_bag := _, d_l_bag := d3, F_l_bag := F3, g_l_bag := G3, a_l_draw := _, d_l_draw := d4, F_l_draw := F4, g_l_draw := G4, a_l_bits := _, d_l_bits := d5, F_l_bits := F5, g_l_bits := G5, a_l_worth := _, d_l_worth := d6, F_l_worth := F6, g_l_worth := G6, a_l_size := _, d_l_size := d7, F_l_size := F7, g_l_size := G7, a_l_one := _, d_l_one := d8, F_l_one := F8, g_l_one := G8, a_l_span := _, d_l_span := d9, F_l_span := F9, g_l_span := G9, a_l_alike := _, d_l_alike := d10, F_l_alike := F10, g_l_alike := G10, a_l_writing := _, d_l_writing := d11, F_l_writing := F11, g_l_writing := G11, a_l_members_right := _, d_l_members_right := d12, F_l_members_right := F12, g_l_members_right := G12, a_law := _, d_law := d13, F_law := F13, g_law := G13, n_abs := He.free_ok X Gh (c.fact 14 (f := .free "abs") rfl), n_all := He.free_ok X Gh (c.fact 15 (f := .free "all") rfl), n_bool := He.free_ok X Gh (c.fact 16 (f := .free "bool") rfl), n_int := He.free_ok X Gh (c.fact 17 (f := .free "int") rfl), n_isinstance := He.free_ok X Gh (c.fact 18 (f := .free "isinstance") rfl), n_len := He.free_ok X Gh (c.fact 19 (f := .free "len") rfl), n_list := He.free_ok X Gh (c.fact 20 (f := .free "list") rfl), n_range := He.free_ok X Gh (c.fact 21 (f := .free "range") rfl), n_str := He.free_ok X Gh (c.fact 22 (f := .free "str") rfl), n_tuple := He.free_ok X Gh (c.fact 23 (f := .free "tuple") rfl), t_STAR := tk0, k_STAR := hk0 }
  have e := hfa.symm.trans G13
  cases e
  have b := FunD.bindsA (ps := ["_law_script"]) F13 fun _ _ _ _ _ _ us hl => match us, hl with | [_], _ => rfl
  exact ⟨d13, fun s v => b s [v] rfl, fun base _ _ => ok_law T law_true⟩
end K02
open PySem.Calls PySem.W PySem PyProof.Rows
set_option maxHeartbeats 0 in
theorem PySem.Challenge.cw_wishnet_k02_spans_and_members_holds : PySem.Challenge.rw_wishnet_k02_spans_and_members.Holds := by
  w_on; o_law
  refine HandSHeadRun.head_any (r := OpenLaw.row PySem.Challenge.rw_wishnet_k02_spans_and_members) (q := view (OpenLaw.row PySem.Challenge.rw_wishnet_k02_spans_and_members).prog [16]) (H := K02.hk) (ob := K02.ob) (M := 4000) (loose := K02.looseL) (d := HandSHeadRun.topDef (OpenLaw.row PySem.Challenge.rw_wishnet_k02_spans_and_members).prog 16) (kwd := []) K02.ob_eq
    (by kernel_rfl) (fun s => by kernel_rfl) K02.run_top (by kernel_rfl) (by kernel_rfl) (by kernel_rfl) (by rfl) (by first | assumption | decide +kernel) (by decide +kernel) ⟨rfl, rfl, rfl, rfl, rfl, by decide +kernel⟩ ?hw ?hc
  case hw => w_witness2
  case hc =>
    refine L2.walk_ofE (l := PySem.Challenge.rw_wishnet_k02_spans_and_members) (n := 63) (k := 11) (x := "_law_script") (CX := L2.CX0) rfl (by decide) (by kernel_rfl) ⟨rfl, by decide, by decide⟩ ?F (fun _ _ _ _ z => z)
    intro w mg fa h Y Gh hmg0
    obtain ⟨K, KX, c⟩ := Y
    have hmg : mg ("law" : PySem.Str) = some (.ref fa) := by
      have e : (HandSHeadRun.topDef (OpenLaw.row PySem.Challenge.rw_wishnet_k02_spans_and_members).prog 16).name = ("law" : PySem.Str) := by kernel_rfl
      rw [← e]
      exact hmg0
    obtain ⟨fd, hb, hF⟩ := K02.facts (P := (PySem.Challenge.rw_wishnet_k02_spans_and_members).prog) (w := w) KX Gh hmg c
    exact ⟨K, fd, K02.sp_law K, KX, hb, fun H a ns hl _ hS => ⟨a, ns, rfl, hS, hl, fun _ => rfl⟩, hF⟩
