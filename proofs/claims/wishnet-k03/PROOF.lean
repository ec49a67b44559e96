import PyProof.Rows.All
import Wide.All
import OpenK.AllK
import Wide.FinOn
import HandS.ForMost
import HandS.Walk
import HandS.Wide
import HandS.WideBits
import HandS.StrMore
import HandS.SortInts
import HandS.Strs
import HandS.IsInst
import HandS.Defaults
import HandS.MakeKwOnly
import HandS.Head0
import HandS.Head1
import HandS.Head2
import HandS.HeadEnd
import HandS.HeadHook1
import HandS.HeadHook2
import HandS.Style
import HandS.SetFor
import KE.KDictZip
import KE.KTurns
import HandS.Iter
import Lean
import HandS.WordsExc
import PySem.Challenge.RW_wishnet_k03_parts_of_patterns
set_option Elab.async false
set_option linter.all false
set_option maxRecDepth 100000
set_option maxHeartbeats 4000000
/-! My base, part 1: data, their standing in a heap, growth of heaps. -/
namespace G
open PySem PySem.Spec L2 PyProof.Rows TL

/-! ### data by type -/
class Enc (α : Type) where
  d : α → PyData
instance : Enc Int := ⟨.int⟩
instance : Enc Bool := ⟨.bool⟩
instance : Enc Str := ⟨.str⟩
instance : Enc Unit := ⟨fun _ => .none⟩
def encO {α : Type} (f : α → PyData) : Option α → PyData
  | none => .none
  | some x => f x
instance {α : Type} [Enc α] : Enc (Option α) := ⟨encO Enc.d⟩
instance {α : Type} [Enc α] : Enc (List α) := ⟨fun xs => .list (xs.map Enc.d)⟩
instance {α β : Type} [Enc α] [Enc β] : Enc (α × β) := ⟨fun p => .tuple [Enc.d p.1, Enc.d p.2]⟩
structure T3 (α β γ : Type) where
  a : α
  b : β
  c : γ
  deriving DecidableEq
structure T4 (α β γ δ : Type) where
  a : α
  b : β
  c : γ
  e : δ
  deriving DecidableEq
structure T5 (α β γ δ ε : Type) where
  a : α
  b : β
  c : γ
  e : δ
  f : ε
  deriving DecidableEq
structure VT (α : Type) where
  l : List α
  deriving DecidableEq
instance {α β γ : Type} [Enc α] [Enc β] [Enc γ] : Enc (T3 α β γ) := ⟨fun p => .tuple [Enc.d p.a, Enc.d p.b, Enc.d p.c]⟩
instance {α β γ δ : Type} [Enc α] [Enc β] [Enc γ] [Enc δ] : Enc (T4 α β γ δ) := ⟨fun p => .tuple [Enc.d p.a, Enc.d p.b, Enc.d p.c, Enc.d p.e]⟩
instance {α β γ δ ε : Type} [Enc α] [Enc β] [Enc γ] [Enc δ] [Enc ε] : Enc (T5 α β γ δ ε) := ⟨fun p => .tuple [Enc.d p.a, Enc.d p.b, Enc.d p.c, Enc.d p.e, Enc.d p.f]⟩
instance {α : Type} [Enc α] : Enc (VT α) := ⟨fun p => .tuple (p.l.map Enc.d)⟩

/-- a text that may be handled: no longer than the line, of signs -/
structure GS (x : Str) : Prop where
  len : x.length ≤ sizeLine
  ok : PyData.strOk x = true

mutual
inductive Rp (K : PySem.W.Frag) (F : Hp) : V → PyData → Prop
  | non : Rp K F .non .none
  | bl (b : Bool) : Rp K F (.bl b) (.bool b)
  | int (i : Int) : Rp K F (.int i) (.int i)
  | str (x : Str) : GS x → Rp K F (.str x) (.str x)
  | lst {a : Addr} {xs : List V} {ds : List PyData} : SqL K F a xs → xs.length ≤ sizeLine → RpA K F xs ds → Rp K F (.ref a) (.list ds)
  | tup {a : Addr} {xs : List V} {ds : List PyData} : SqT K F a xs → xs.length ≤ sizeLine → RpA K F xs ds → Rp K F (.ref a) (.tuple ds)
inductive RpA (K : PySem.W.Frag) (F : Hp) : List V → List PyData → Prop
  | nil : RpA K F [] []
  | cons {v : V} {vs : List V} {d : PyData} {ds : List PyData} : Rp K F v d → RpA K F vs ds → RpA K F (v :: vs) (d :: ds)
end
/-- v stands for x -/
abbrev R {α : Type} [Enc α] (K : PySem.W.Frag) (F : Hp) (v : V) (x : α) : Prop := Rp K F v (Enc.d x)
/-- the values vs stand for the things xs -/
abbrev RL {α : Type} [Enc α] (K : PySem.W.Frag) (F : Hp) (vs : List V) (xs : List α) : Prop := RpA K F vs (xs.map Enc.d)

section
variable {K : PySem.W.Frag} {F F' H H' : Hp} {v : V} {vs : List V} {d : PyData} {ds : List PyData} {a p : Addr} {xs : List V}
theorem SqT_mono (e : Same H H') (h : SqT K H a xs) : SqT K H' a xs := by
  rcases h with (h | ⟨o, h⟩) | h
  · exact .inl (.inl (e _ _ h))
  · exact .inl (.inr ⟨o, e _ _ h⟩)
  · exact .inr h
mutual
theorem Rp.mono (e : Same F F') : ∀ (d : PyData) (v : V), Rp K F v d → Rp K F' v d
  | .none, _, h => by cases h; exact .non
  | .bool b, _, h => by cases h; exact .bl b
  | .int i, _, h => by cases h; exact .int i
  | .str x, _, h => by cases h with | str _ g => exact .str x g
  | .list ds, _, h => by cases h with | lst hs hl ha => exact .lst (e.seq hs) hl (RpA.mono e ds _ ha)
  | .tuple ds, _, h => by cases h with | tup hs hl ha => exact .tup (SqT_mono e hs) hl (RpA.mono e ds _ ha)
  | .dict _, _, h => by cases h
theorem RpA.mono (e : Same F F') : ∀ (ds : List PyData) (vs : List V), RpA K F vs ds → RpA K F' vs ds
  | [], _, h => by cases h; exact .nil
  | d :: ds, _, h => by cases h with | cons h1 h2 => exact .cons (Rp.mono e d _ h1) (RpA.mono e ds _ h2)
end
theorem Rp.up (h : Rp K F v d) (e : Same F F') : Rp K F' v d := Rp.mono e d v h
theorem RpA.up (h : RpA K F vs ds) (e : Same F F') : RpA K F' vs ds := RpA.mono e ds vs h
mutual
theorem Rp.dp : ∀ (d : PyData) (v : V), Rp K F v d → Dp K F v d
  | .none, _, h => by cases h; exact .non
  | .bool b, _, h => by cases h; exact .bl b
  | .int i, _, h => by cases h; exact .int i
  | .str x, _, h => by cases h; exact .str x
  | .list ds, _, h => by cases h with | lst hs hl ha => exact .lst hs (RpA.dp ds _ ha)
  | .tuple ds, _, h => by cases h with | tup hs hl ha => exact .tup hs (RpA.dp ds _ ha)
  | .dict _, _, h => by cases h
theorem RpA.dp : ∀ (ds : List PyData) (vs : List V), RpA K F vs ds → DpAll K F vs ds
  | [], _, h => by cases h; exact .nil
  | d :: ds, _, h => by cases h with | cons h1 h2 => exact .cons (Rp.dp d _ h1) (RpA.dp ds _ h2)
end
mutual
theorem Rp.lay : ∀ (d : PyData) (v : V), Rp K F v d → d.canLay0 = true
  | .none, _, _ => rfl
  | .bool b, _, _ => rfl
  | .int i, _, _ => rfl
  | .str x, _, h => by cases h with | str _ g => exact g.ok
  | .list ds, _, h => by cases h with | lst hs hl ha => exact RpA.lay ds _ ha
  | .tuple ds, _, h => by cases h with | tup hs hl ha => exact RpA.lay ds _ ha
  | .dict _, _, h => by cases h
theorem RpA.lay : ∀ (ds : List PyData) (vs : List V), RpA K F vs ds → PyData.canLayAll0 ds = true
  | [], _, _ => rfl
  | d :: ds, _, h => by cases h with | cons h1 h2 => exact Bool.and_eq_true_iff.mpr ⟨Rp.lay d _ h1, RpA.lay ds _ h2⟩
end

/-! ### what stands at a value, by its type -/
theorem RpA.length : ∀ {ds : List PyData} {vs : List V}, RpA K F vs ds → vs.length = ds.length
  | [], _, h => by cases h; rfl
  | d :: ds, _, h => by cases h with | cons h1 h2 => exact congrArg Nat.succ h2.length
theorem RpA.get : ∀ {ds : List PyData} {vs : List V} {i : Nat} {v : V}, RpA K F vs ds → vs[i]? = some v → ∃ d, ds[i]? = some d ∧ Rp K F v d
  | [], _, _, _, h, e => by cases h; simp at e
  | d :: ds, _, 0, _, h, e => by cases h with | cons h1 h2 => exact ⟨d, rfl, by simpa using (Option.some.inj e) ▸ h1⟩
  | d :: ds, _, i + 1, v, h, e => by
    cases h with
    | cons h1 h2 =>
      obtain ⟨d', e1, e2⟩ := h2.get (i := i) (v := v) (by simpa using e)
      exact ⟨d', by simpa using e1, e2⟩
theorem RpA.back : ∀ {ds : List PyData} {vs : List V} {i : Nat} {d : PyData}, RpA K F vs ds → ds[i]? = some d → ∃ v, vs[i]? = some v ∧ Rp K F v d
  | [], _, _, _, h, e => by simp at e
  | d :: ds, _, 0, _, h, e => by
    cases h with
    | cons h1 h2 =>
      have e' := Option.some.inj e
      subst e'
      exact ⟨_, rfl, h1⟩
  | d :: ds, _, i + 1, d', h, e => by
    cases h with
    | cons h1 h2 =>
      obtain ⟨v, e1, e2⟩ := h2.back (i := i) (d := d') (by simpa using e)
      exact ⟨v, by simpa using e1, e2⟩
theorem RpA.append : ∀ {ds es : List PyData} {vs us : List V}, RpA K F vs ds → RpA K F us es → RpA K F (vs ++ us) (ds ++ es)
  | [], _, _, _, h, g => by cases h; exact g
  | d :: ds, _, _, _, h, g => by cases h with | cons h1 h2 => exact .cons h1 (h2.append g)
theorem RpA.take : ∀ {ds : List PyData} {vs : List V} (n : Nat), RpA K F vs ds → RpA K F (vs.take n) (ds.take n)
  | _, _, 0, _ => .nil
  | _, _, _ + 1, .nil => .nil
  | _, _, n + 1, .cons h t => .cons h (RpA.take n t)
theorem RpA.drop : ∀ {ds : List PyData} {vs : List V} (n : Nat), RpA K F vs ds → RpA K F (vs.drop n) (ds.drop n)
  | _, _, 0, h => h
  | _, _, _ + 1, .nil => .nil
  | _, _, n + 1, .cons _ t => RpA.drop n t
theorem RpA.set : ∀ {ds : List PyData} {vs : List V} (n : Nat), Rp K F v d → RpA K F vs ds → RpA K F (vs.set n v) (ds.set n d)
  | _, _, _, _, .nil => .nil
  | _, _, 0, r, .cons _ t => .cons r t
  | _, _, n + 1, r, .cons h t => .cons h (RpA.set n r t)
theorem RpA.dropLast {ds : List PyData} {vs : List V} (h : RpA K F vs ds) : RpA K F vs.dropLast ds.dropLast := by
  rw [List.dropLast_eq_take, List.dropLast_eq_take, h.length]
  exact h.take _
theorem RpA.reverse : ∀ {ds : List PyData} {vs : List V}, RpA K F vs ds → RpA K F vs.reverse ds.reverse
  | [], _, h => by cases h; exact .nil
  | d :: ds, _, h => by
    cases h with
    | cons h1 h2 =>
      rw [List.reverse_cons, List.reverse_cons]
      exact h2.reverse.append (.cons h1 .nil)

section
variable {α β γ δ ε : Type} [Enc α] [Enc β] [Enc γ] [Enc δ] [Enc ε]
theorem R.int_v {i : Int} (h : R K F v i) : v = .int i := by cases h; rfl
theorem R.bl_v {b : Bool} (h : R K F v b) : v = .bl b := by cases h; rfl
theorem R.str_v {x : Str} (h : R K F v x) : v = .str x ∧ GS x := by cases h with | str _ g => exact ⟨rfl, g⟩
theorem R.non_v (h : R K F v (none : Option α)) : v = .non := by
  have h' : Rp K F v .none := h
  cases h'
  rfl
theorem R.lst_v {xs : List α} (h : R K F v xs) : ∃ p ws, v = .ref p ∧ SqL K F p ws ∧ ws.length ≤ sizeLine ∧ RL K F ws xs := by
  have h' : Rp K F v (.list (xs.map Enc.d)) := h
  cases h' with | lst h1 h2 h3 => exact ⟨_, _, rfl, h1, h2, h3⟩
theorem R.vt_v {x : VT α} (h : R K F v x) : ∃ p ws, v = .ref p ∧ SqT K F p ws ∧ ws.length ≤ sizeLine ∧ RL K F ws x.l := by
  have h' : Rp K F v (.tuple (x.l.map Enc.d)) := h
  cases h' with | tup h1 h2 h3 => exact ⟨_, _, rfl, h1, h2, h3⟩
theorem RpA.one {d1 : PyData} (h : RpA K F vs [d1]) : ∃ v1, vs = [v1] ∧ Rp K F v1 d1 := by
  cases h with | cons h1 h2 => cases h2; exact ⟨_, rfl, h1⟩
theorem RpA.two {d1 d2 : PyData} (h : RpA K F vs [d1, d2]) : ∃ v1 v2, vs = [v1, v2] ∧ Rp K F v1 d1 ∧ Rp K F v2 d2 := by
  cases h with | cons h1 h2 => obtain ⟨v2, rfl, r⟩ := h2.one; exact ⟨_, _, rfl, h1, r⟩
theorem RpA.three {d1 d2 d3 : PyData} (h : RpA K F vs [d1, d2, d3]) : ∃ v1 v2 v3, vs = [v1, v2, v3] ∧ Rp K F v1 d1 ∧ Rp K F v2 d2 ∧ Rp K F v3 d3 := by
  cases h with | cons h1 h2 => obtain ⟨v2, v3, rfl, r⟩ := h2.two; exact ⟨_, _, _, rfl, h1, r⟩
theorem RpA.four {d1 d2 d3 d4 : PyData} (h : RpA K F vs [d1, d2, d3, d4]) : ∃ v1 v2 v3 v4, vs = [v1, v2, v3, v4] ∧ Rp K F v1 d1 ∧ Rp K F v2 d2 ∧ Rp K F v3 d3 ∧ Rp K F v4 d4 := by
  cases h with | cons h1 h2 => obtain ⟨v2, v3, v4, rfl, r⟩ := h2.three; exact ⟨_, _, _, _, rfl, h1, r⟩
theorem RpA.five {d1 d2 d3 d4 d5 : PyData} (h : RpA K F vs [d1, d2, d3, d4, d5]) : ∃ v1 v2 v3 v4 v5, vs = [v1, v2, v3, v4, v5] ∧ Rp K F v1 d1 ∧ Rp K F v2 d2 ∧ Rp K F v3 d3 ∧ Rp K F v4 d4 ∧ Rp K F v5 d5 := by
  cases h with | cons h1 h2 => obtain ⟨v2, v3, v4, v5, rfl, r⟩ := h2.four; exact ⟨_, _, _, _, _, rfl, h1, r⟩
theorem R.p2_v {x : α × β} (h : R K F v x) : ∃ p v1 v2, v = .ref p ∧ SqT K F p [v1, v2] ∧ R K F v1 x.1 ∧ R K F v2 x.2 := by
  have h' : Rp K F v (.tuple [Enc.d x.1, Enc.d x.2]) := h
  cases h' with | tup h1 h2 h3 => obtain ⟨v1, v2, rfl, r1, r2⟩ := h3.two; exact ⟨_, _, _, rfl, h1, r1, r2⟩
theorem R.p3_v {x : T3 α β γ} (h : R K F v x) : ∃ p v1 v2 v3, v = .ref p ∧ SqT K F p [v1, v2, v3] ∧ R K F v1 x.a ∧ R K F v2 x.b ∧ R K F v3 x.c := by
  have h' : Rp K F v (.tuple [Enc.d x.a, Enc.d x.b, Enc.d x.c]) := h
  cases h' with | tup h1 h2 h3 => obtain ⟨v1, v2, v3, rfl, r⟩ := h3.three; exact ⟨_, _, _, _, rfl, h1, r⟩
theorem R.p4_v {x : T4 α β γ δ} (h : R K F v x) : ∃ p v1 v2 v3 v4, v = .ref p ∧ SqT K F p [v1, v2, v3, v4] ∧ R K F v1 x.a ∧ R K F v2 x.b ∧ R K F v3 x.c ∧ R K F v4 x.e := by
  have h' : Rp K F v (.tuple [Enc.d x.a, Enc.d x.b, Enc.d x.c, Enc.d x.e]) := h
  cases h' with | tup h1 h2 h3 => obtain ⟨v1, v2, v3, v4, rfl, r⟩ := h3.four; exact ⟨_, _, _, _, _, rfl, h1, r⟩
theorem R.p5_v {x : T5 α β γ δ ε} (h : R K F v x) : ∃ p v1 v2 v3 v4 v5, v = .ref p ∧ SqT K F p [v1, v2, v3, v4, v5] ∧ R K F v1 x.a ∧ R K F v2 x.b ∧ R K F v3 x.c ∧ R K F v4 x.e ∧ R K F v5 x.f := by
  have h' : Rp K F v (.tuple [Enc.d x.a, Enc.d x.b, Enc.d x.c, Enc.d x.e, Enc.d x.f]) := h
  cases h' with | tup h1 h2 h3 => obtain ⟨v1, v2, v3, v4, v5, rfl, r⟩ := h3.five; exact ⟨_, _, _, _, _, _, rfl, h1, r⟩
/-- making them -/
theorem R.mkl {xs : List α} (h1 : SqL K F p vs) (h2 : vs.length ≤ sizeLine) (h3 : RL K F vs xs) : R K F (.ref p) xs := .lst h1 h2 h3
theorem R.mkvt {xs : List α} (h1 : SqT K F p vs) (h2 : vs.length ≤ sizeLine) (h3 : RL K F vs xs) : R K F (.ref p) (VT.mk xs) := .tup h1 h2 h3
theorem R.mk2 {v1 v2 : V} {x : α} {y : β} (h1 : SqT K F p [v1, v2]) (r1 : R K F v1 x) (r2 : R K F v2 y) : R K F (.ref p) (x, y) := .tup h1 (by show 2 ≤ sizeLine; decide) (.cons r1 (.cons r2 .nil))
theorem R.mk3 {v1 v2 v3 : V} {x : α} {y : β} {z : γ} (h1 : SqT K F p [v1, v2, v3]) (r1 : R K F v1 x) (r2 : R K F v2 y) (r3 : R K F v3 z) : R K F (.ref p) (T3.mk x y z) := .tup h1 (by show 3 ≤ sizeLine; decide) (.cons r1 (.cons r2 (.cons r3 .nil)))
theorem R.mk4 {v1 v2 v3 v4 : V} {x : α} {y : β} {z : γ} {u : δ} (h1 : SqT K F p [v1, v2, v3, v4]) (r1 : R K F v1 x) (r2 : R K F v2 y) (r3 : R K F v3 z) (r4 : R K F v4 u) : R K F (.ref p) (T4.mk x y z u) := .tup h1 (by show 4 ≤ sizeLine; decide) (.cons r1 (.cons r2 (.cons r3 (.cons r4 .nil))))
theorem R.mk5 {v1 v2 v3 v4 v5 : V} {x : α} {y : β} {z : γ} {u : δ} {t : ε} (h1 : SqT K F p [v1, v2, v3, v4, v5]) (r1 : R K F v1 x) (r2 : R K F v2 y) (r3 : R K F v3 z) (r4 : R K F v4 u) (r5 : R K F v5 t) : R K F (.ref p) (T5.mk x y z u t) := .tup h1 (by show 5 ≤ sizeLine; decide) (.cons r1 (.cons r2 (.cons r3 (.cons r4 (.cons r5 .nil)))))
theorem RL.nil : RL K F [] ([] : List α) := RpA.nil
theorem RL.cons {x : α} {xs : List α} (r : R K F v x) (rs : RL K F vs xs) : RL K F (v :: vs) (x :: xs) := RpA.cons r rs
theorem RL.snoc {x : α} {xs : List α} (rs : RL K F vs xs) (r : R K F v x) : RL K F (vs ++ [v]) (xs ++ [x]) := by
  show RpA K F _ _
  rw [List.map_append]
  exact RpA.append rs (.cons r .nil)
theorem RL.app {us : List V} {xs ys : List α} (rs : RL K F vs xs) (r : RL K F us ys) : RL K F (vs ++ us) (xs ++ ys) := by
  show RpA K F _ _
  rw [List.map_append]
  exact RpA.append rs r
theorem RL.len {xs : List α} (rs : RL K F vs xs) : vs.length = xs.length := by
  have h := RpA.length rs
  rwa [List.length_map] at h
theorem RL.get {xs : List α} {i : Nat} (rs : RL K F vs xs) (e : vs[i]? = some v) : ∃ x, xs[i]? = some x ∧ R K F v x := by
  obtain ⟨d, e1, r⟩ := RpA.get rs e
  rw [List.getElem?_map] at e1
  cases h : xs[i]? with
  | none => rw [h] at e1; cases e1
  | some x =>
    rw [h] at e1
    have e2 : Enc.d x = d := Option.some.inj e1
    subst e2
    exact ⟨x, rfl, r⟩
theorem RL.back {xs : List α} {i : Nat} {x : α} (rs : RL K F vs xs) (e : xs[i]? = some x) : ∃ v, vs[i]? = some v ∧ R K F v x :=
  RpA.back rs (by rw [List.getElem?_map, e]; rfl)
theorem RL.at {xs : List α} {i : Int} {x : α} (rs : RL K F vs xs) (e : atI xs i = some x) : ∃ v, atI vs i = some v ∧ R K F v x := by
  unfold atI at e ⊢
  rw [rs.len]
  cases h : ixN xs.length i with
  | none => rw [h] at e; cases e
  | some j =>
    rw [h] at e
    exact rs.back e
theorem RL.cut {xs : List α} (lo hi : Option Int) (rs : RL K F vs xs) : RL K F (cutV vs lo hi) ((xs.drop (HT.sIx xs.length 0 lo)).take (HT.sIx xs.length xs.length hi - HT.sIx xs.length 0 lo)) := by
  unfold cutV
  rw [rs.len]
  show RpA K F _ _
  rw [List.map_take, List.map_drop]
  exact RpA.take _ (RpA.drop _ rs)
theorem RL.set {xs : List α} {x : α} (i : Nat) (r : R K F v x) (rs : RL K F vs xs) : RL K F (vs.set i v) (xs.set i x) := by
  show RpA K F _ _
  rw [List.map_set]
  exact RpA.set i r rs
theorem RL.rev {xs : List α} (rs : RL K F vs xs) : RL K F vs.reverse xs.reverse := by
  show RpA K F _ _
  rw [List.map_reverse]
  exact RpA.reverse rs
theorem RL.init {xs : List α} (rs : RL K F vs xs) : RL K F vs.dropLast xs.dropLast := by
  show RpA K F _ _
  rw [List.map_dropLast]
  exact RpA.dropLast rs
theorem RL.ints {xs : List Int} (rs : RL K F vs xs) : vs = xs.map V.int := by
  induction xs generalizing vs with
  | nil => cases rs; rfl
  | cons x xs ih => cases rs with | cons r t => rw [R.int_v r, ih t]; rfl
theorem RL.ofInts (xs : List Int) : RL K F (xs.map V.int) xs := by
  induction xs with
  | nil => exact .nil
  | cons x xs ih => exact .cons (.int x) ih
theorem RL.bls {xs : List Bool} (rs : RL K F vs xs) : vs = xs.map V.bl := by
  induction xs generalizing vs with
  | nil => cases rs; rfl
  | cons x xs ih => cases rs with | cons r t => rw [R.bl_v r, ih t]; rfl
theorem RL.strs {xs : List Str} (rs : RL K F vs xs) : vs = xs.map V.str ∧ ∀ x ∈ xs, GS x := by
  induction xs generalizing vs with
  | nil => cases rs; exact ⟨rfl, fun _ h => nomatch h⟩
  | cons x xs ih =>
    cases rs with
    | cons r t =>
      obtain ⟨e, g⟩ := R.str_v r
      obtain ⟨e2, g2⟩ := ih t
      refine ⟨by rw [e, e2]; rfl, fun y hy => ?_⟩
      rcases List.mem_cons.mp hy with rfl | hy
      · exact g
      · exact g2 y hy
theorem RL.ofStrs (xs : List Str) (h : ∀ x ∈ xs, GS x) : RL K F (xs.map V.str) xs := by
  induction xs with
  | nil => exact .nil
  | cons x xs ih => exact .cons (.str x (h x (List.mem_cons_self ..))) (ih fun y hy => h y (List.mem_cons_of_mem _ hy))
end
end

/-! ### how deep a type's data go -/
class Dep (α : Type) [Enc α] where
  n : Nat
  le : ∀ x : α, (Enc.d x).depth ≤ n
instance : Dep Int := ⟨0, fun _ => Nat.le_refl _⟩
instance : Dep Bool := ⟨0, fun _ => Nat.le_refl _⟩
instance : Dep Str := ⟨0, fun _ => Nat.le_refl _⟩
instance {α : Type} [Enc α] [Dep α] : Dep (Option α) := ⟨Dep.n α, fun o => by
  cases o with
  | none => exact Nat.zero_le _
  | some x => exact Dep.le x⟩
theorem depthAll_le {α : Type} [Enc α] [Dep α] : ∀ xs : List α, PyData.depthAll (xs.map Enc.d) ≤ Dep.n α
  | [] => Nat.zero_le _
  | x :: xs => Nat.max_le.mpr ⟨Dep.le x, depthAll_le xs⟩
instance {α : Type} [Enc α] [Dep α] : Dep (List α) := ⟨Dep.n α + 1, fun xs => Nat.succ_le_succ (depthAll_le xs)⟩
instance {α : Type} [Enc α] [Dep α] : Dep (VT α) := ⟨Dep.n α + 1, fun xs => Nat.succ_le_succ (depthAll_le xs.l)⟩
instance {α β : Type} [Enc α] [Enc β] [Dep α] [Dep β] : Dep (α × β) := ⟨max (Dep.n α) (Dep.n β) + 1, fun p => by
  have h1 := Dep.le p.1
  have h2 := Dep.le p.2
  show PyData.depthAll [Enc.d p.1, Enc.d p.2] + 1 ≤ _
  simp only [PyData.depthAll]
  omega⟩
instance {α β γ : Type} [Enc α] [Enc β] [Enc γ] [Dep α] [Dep β] [Dep γ] : Dep (T3 α β γ) := ⟨max (Dep.n α) (max (Dep.n β) (Dep.n γ)) + 1, fun p => by
  have h1 := Dep.le p.a
  have h2 := Dep.le p.b
  have h3 := Dep.le p.c
  show PyData.depthAll [Enc.d p.a, Enc.d p.b, Enc.d p.c] + 1 ≤ _
  simp only [PyData.depthAll]
  omega⟩
instance {α β γ δ : Type} [Enc α] [Enc β] [Enc γ] [Enc δ] [Dep α] [Dep β] [Dep γ] [Dep δ] : Dep (T4 α β γ δ) := ⟨max (Dep.n α) (max (Dep.n β) (max (Dep.n γ) (Dep.n δ))) + 1, fun p => by
  have h1 := Dep.le p.a
  have h2 := Dep.le p.b
  have h3 := Dep.le p.c
  have h4 := Dep.le p.e
  show PyData.depthAll [Enc.d p.a, Enc.d p.b, Enc.d p.c, Enc.d p.e] + 1 ≤ _
  simp only [PyData.depthAll]
  omega⟩
instance {α β γ δ ε : Type} [Enc α] [Enc β] [Enc γ] [Enc δ] [Enc ε] [Dep α] [Dep β] [Dep γ] [Dep δ] [Dep ε] : Dep (T5 α β γ δ ε) := ⟨max (Dep.n α) (max (Dep.n β) (max (Dep.n γ) (max (Dep.n δ) (Dep.n ε)))) + 1, fun p => by
  have h1 := Dep.le p.a
  have h2 := Dep.le p.b
  have h3 := Dep.le p.c
  have h4 := Dep.le p.e
  have h5 := Dep.le p.f
  show PyData.depthAll [Enc.d p.a, Enc.d p.b, Enc.d p.c, Enc.d p.e, Enc.d p.f] + 1 ≤ _
  simp only [PyData.depthAll]
  omega⟩
theorem R.shaped {α : Type} [Enc α] [Dep α] {K : PySem.W.Frag} {F : Hp} {v : V} {x : α} (r : R K F v x) (h : Dep.n α ≤ 64 := by decide) : SeqAt.shaped (Enc.d x) = true :=
  Bool.and_eq_true_iff.mpr ⟨Rp.lay _ _ r, decide_eq_true (Nat.le_trans (Dep.le x) h)⟩
/-- equal, as Python compares -/
def eqD {α : Type} [Enc α] (x y : α) : Bool := PyData.eqv (Enc.d x) (Enc.d y)

/-! ### growth: F is what stays as it is, H all that stands; M may be changed -/
structure Gr (M : Addr → Prop) (F0 H0 F H : Hp) : Prop where
  fh : Same F H
  ff : Same F0 F
  keep : ∀ a o, ¬ M a → H0 a = some o → H a = some o
  there : ∀ a, H0 a ≠ none → H a ≠ none
  new : ∀ a, H0 a ≠ none → F0 a = none → F a = none
abbrev M0 : Addr → Prop := fun _ => False
section
variable {M : Addr → Prop} {F0 H0 F H F' H' : Hp} {p a : Addr} {o : HO} {K : PySem.W.Frag} {xs : List V}
theorem Gr.refl (h : Same F H) : Gr M F H F H := ⟨h, Same.refl _, fun _ _ _ e => e, fun _ e => e, fun _ _ e => e⟩
theorem Gr.trans (g : Gr M F0 H0 F H) (k : Gr M F H F' H') : Gr M F0 H0 F' H' :=
  ⟨k.fh, g.ff.trans k.ff, fun a o n e => k.keep a o n (g.keep a o n e), fun a e => k.there a (g.there a e), fun a e n => k.new a (g.there a e) (g.new a e n)⟩
theorem Gr.of0 (g : Gr M0 F H F' H') : Gr M F H F' H' := ⟨g.fh, g.ff, fun a o _ e => g.keep a o id e, g.there, g.new⟩
theorem Gr.none0 (g : Gr M F0 H0 F H) (h : H a = none) : H0 a = none := by
  cases e : H0 a with
  | none => rfl
  | some o => exact absurd h (g.there a (by rw [e]; simp))
theorem Gr.noneF (g : Gr M F0 H0 F H) (h : H a = none) : F a = none := by
  cases e : F a with
  | none => rfl
  | some o => rw [g.fh a o e] at h; cases h
theorem same_new (h : F p = none) : Same F (upd F p o) := fun b u e => by rw [upd_ne (ne_of_none e h)]; exact e
theorem same_upd2 (h : Same F H) (hp : F p = none) : Same (upd F p o) (upd H p o) := fun b u e => by
  by_cases hb : b = p
  · subst hb; rw [upd_same] at e ⊢; exact e
  · rw [upd_ne hb] at e ⊢; exact h b u e
theorem same_out (h : Same F H) (hp : F p = none) : Same F (upd H p o) := fun b u e => by
  rw [upd_ne (ne_of_none e hp)]
  exact h b u e
/-- a new thing that stays as it is -/
theorem Gr.frz (g : Gr M F0 H0 F H) (h : H p = none) : Gr M F0 H0 (upd F p o) (upd H p o) :=
  ⟨same_upd2 g.fh (g.noneF h), g.ff.trans (same_new (g.noneF h)), fun a u n e => by rw [upd_ne (ne_of_none (g.keep a u n e) h)]; exact g.keep a u n e,
    fun a e => by
      by_cases ha : a = p
      · subst ha; rw [upd_same]; simp
      · rw [upd_ne ha]; exact g.there a e,
    fun a e n => by
      have ha : a ≠ p := fun z => by subst z; exact e (g.none0 h)
      rw [upd_ne ha]; exact g.new a e n⟩
/-- a new thing that may be changed -/
theorem Gr.own (g : Gr M F0 H0 F H) (h : H p = none) : Gr M F0 H0 F (upd H p o) :=
  ⟨same_out g.fh (g.noneF h), g.ff, fun a u n e => by rw [upd_ne (ne_of_none (g.keep a u n e) h)]; exact g.keep a u n e,
    fun a e => by
      by_cases ha : a = p
      · subst ha; rw [upd_same]; simp
      · rw [upd_ne ha]; exact g.there a e, g.new⟩
/-- a thing of ours is changed -/
theorem Gr.mut (g : Gr M F0 H0 F H) (n : F p = none) (n0 : H0 p = none ∨ M p) : Gr M F0 H0 F (upd H p o) :=
  ⟨same_out g.fh n, g.ff, fun a u m e => by
      have ha : a ≠ p := fun z => by
        subst z
        rcases n0 with z | z
        · rw [z] at e; cases e
        · exact m z
      rw [upd_ne ha]; exact g.keep a u m e,
    fun a e => by
      by_cases ha : a = p
      · subst ha; rw [upd_same]; simp
      · rw [upd_ne ha]; exact g.there a e, g.new⟩
/-- a thing of ours stays as it is from now on -/
theorem Gr.freeze (g : Gr M F0 H0 F H) (h : H p = some o) (n0 : H0 p = none) : Gr M F0 H0 (upd F p o) H :=
  ⟨fun b u e => by
      by_cases hb : b = p
      · subst hb; rw [upd_same] at e; cases e; exact h
      · rw [upd_ne hb] at e; exact g.fh b u e,
    fun b u e => by
      by_cases hb : b = p
      · subst hb
        have := g.fh b u (g.ff b u e)
        rw [h] at this; cases this
        exact upd_same
      · rw [upd_ne hb]; exact g.ff b u e, g.keep, g.there,
    fun a e n => by
      have ha : a ≠ p := fun z => by subst z; exact e n0
      rw [upd_ne ha]; exact g.new a e n⟩
theorem Gr.seq (g : Gr M F0 H0 F H) (m : ¬ M a) (h : SqL K H0 a xs) : SqL K H a xs := by
  rcases h with (h | ⟨o, h⟩) | h
  · exact .inl (.inl (g.keep _ _ m h))
  · exact .inl (.inr ⟨o, g.keep _ _ m h⟩)
  · exact .inr h
theorem same_frz (h : H p = some o) (n : F p = none) : Same F (upd F p o) := same_new n
end

/-! ### the makings, step by step -/
def bind2 {α β γ : Type} (o : Option (α × β)) (f : α → β → Option γ) : Option γ := o.bind fun p => f p.1 p.2
def bind3 {α β γ δ : Type} (o : Option (α × β × γ)) (f : α → β → γ → Option δ) : Option δ := o.bind fun p => f p.1 p.2.1 p.2.2
def bind4 {α β γ δ ε : Type} (o : Option (α × β × γ × δ)) (f : α → β → γ → δ → Option ε) : Option ε := o.bind fun p => f p.1 p.2.1 p.2.2.1 p.2.2.2
def bind5 {α β γ δ ε ζ : Type} (o : Option (α × β × γ × δ × ε)) (f : α → β → γ → δ → ε → Option ζ) : Option ζ := o.bind fun p => f p.1 p.2.1 p.2.2.1 p.2.2.2.1 p.2.2.2.2
theorem bnd {α β : Type} {o : Option α} {f : α → Option β} {r : β} (h : Option.bind o f = some r) : ∃ x, o = some x ∧ f x = some r := Option.bind_eq_some_iff.mp h
theorem bnd2 {α β γ : Type} {o : Option (α × β)} {f : α → β → Option γ} {r : γ} (h : bind2 o f = some r) : ∃ x y, o = some (x, y) ∧ f x y = some r :=
  let ⟨p, e, k⟩ := Option.bind_eq_some_iff.mp h
  ⟨p.1, p.2, e, k⟩
theorem bnd3 {α β γ δ : Type} {o : Option (α × β × γ)} {f : α → β → γ → Option δ} {r : δ} (h : bind3 o f = some r) : ∃ x y z, o = some (x, y, z) ∧ f x y z = some r :=
  let ⟨p, e, k⟩ := Option.bind_eq_some_iff.mp h
  ⟨p.1, p.2.1, p.2.2, e, k⟩
theorem bnd4 {α β γ δ ε : Type} {o : Option (α × β × γ × δ)} {f : α → β → γ → δ → Option ε} {r : ε} (h : bind4 o f = some r) : ∃ x y z u, o = some (x, y, z, u) ∧ f x y z u = some r :=
  let ⟨p, e, k⟩ := Option.bind_eq_some_iff.mp h
  ⟨p.1, p.2.1, p.2.2.1, p.2.2.2, e, k⟩
theorem bnd5 {α β γ δ ε ζ : Type} {o : Option (α × β × γ × δ × ε)} {f : α → β → γ → δ → ε → Option ζ} {r : ζ} (h : bind5 o f = some r) : ∃ x y z u t, o = some (x, y, z, u, t) ∧ f x y z u t = some r :=
  let ⟨p, e, k⟩ := Option.bind_eq_some_iff.mp h
  ⟨p.1, p.2.1, p.2.2.1, p.2.2.2.1, p.2.2.2.2, e, k⟩
/-- a loop's end: gone on, or handed back -/
inductive Lp (S R : Type) where
  | go (s : S)
  | ret (r : R)
def bindL {S R T : Type} (o : Option (Lp S R)) (f : S → Option T) (g : R → Option T) : Option T := o.bind fun l => match l with
  | .go s => f s
  | .ret r => g r
theorem ifT {α : Type} {c : Bool} {a b : α} {r : α} (h : c = true) (e : (if c = true then a else b) = r) : a = r := by rw [if_pos h] at e; exact e
theorem ifF {α : Type} {c : Bool} {a b : α} {r : α} (h : c = false) (e : (if c = true then a else b) = r) : b = r := by rw [if_neg (by rw [h]; decide)] at e; exact e
theorem iteB {c : Bool} {A B : Prop} (h1 : c = true → A) (h2 : c = false → B) : if c = true then A else B := by
  cases c with
  | true => exact h1 rfl
  | false => exact h2 rfl
theorem drop_at {α : Type} {xs : List α} {i : Nat} {x : α} (h : xs[i]? = some x) : xs.drop i = x :: xs.drop (i + 1) := by
  obtain ⟨h1, h2⟩ := List.getElem?_eq_some_iff.mp h
  rw [List.drop_eq_getElem_cons h1, h2]
theorem drop_end {α : Type} {xs : List α} {n : Nat} (h : n = xs.length) : xs.drop n = [] := by subst h; exact List.drop_length
end G
/-! My base, part 2: operations of the makings, and their rules. -/
namespace G
open PySem PySem.Spec PyProof.Rows L2 TL

/-! ### ints, truths -/
def eqI (a b : Int) : Bool := decide (V.int a = V.int b)
def neI (a b : Int) : Bool := !decide (V.int a = V.int b)
def eqB (a b : Bool) : Bool := decide (V.bl a = V.bl b)
def neB (a b : Bool) : Bool := !decide (V.bl a = V.bl b)
def eqS (a b : Str) : Bool := decide (V.str a = V.str b)
def neS (a b : Str) : Bool := !decide (V.str a = V.str b)
theorem eqI_iff {a b : Int} : eqI a b = decide (a = b) := by unfold eqI; simp
theorem neI_iff {a b : Int} : neI a b = !decide (a = b) := by unfold neI; simp
theorem eqB_iff {a b : Bool} : eqB a b = decide (a = b) := by unfold eqB; simp
theorem neB_iff {a b : Bool} : neB a b = !decide (a = b) := by unfold neB; simp
theorem eqS_iff {a b : Str} : eqS a b = decide (a = b) := by unfold eqS; simp
theorem neS_iff {a b : Str} : neS a b = !decide (a = b) := by unfold neS; simp
def toI (b : Bool) : Int := if b then 1 else 0
def mulI (a b : Int) : Option Int := if a.natAbs.log2 + b.natAbs.log2 < 1000000 then some (a * b) else none
def divI (a b : Int) : Option Int := if 0 < b ∧ b.natAbs.log2 < 9000 then some (a / b) else none
def modI (a b : Int) : Option Int := if 0 < b then some (a % b) else none
def shlI (a b : Int) : Option Int := if 0 ≤ b ∧ b ≤ 1000000 ∧ a.natAbs < 2 ^ 64 then some (a * 2 ^ b.toNat) else none
def shrI (a b : Int) : Option Int := if 0 ≤ b then some (a / 2 ^ b.toNat) else none
theorem mulI_ok {a b r : Int} (h : mulI a b = some r) : CMulW a b ∧ a * b = r := by
  unfold mulI at h
  split at h
  · exact ⟨by assumption, Option.some.inj h⟩
  · cases h
theorem divI_ok {a b r : Int} (h : divI a b = some r) : CDivW a b ∧ a / b = r := by
  unfold divI at h
  split at h
  · exact ⟨by assumption, Option.some.inj h⟩
  · cases h
theorem modI_ok {a b r : Int} (h : modI a b = some r) : 0 < b ∧ a % b = r := by
  unfold modI at h
  split at h
  · exact ⟨by assumption, Option.some.inj h⟩
  · cases h
theorem shlI_ok {a b r : Int} (h : shlI a b = some r) : CPow a b ∧ a * 2 ^ b.toNat = r := by
  unfold shlI at h
  split at h
  · exact ⟨by assumption, Option.some.inj h⟩
  · cases h
theorem shrI_ok {a b r : Int} (h : shrI a b = some r) : 0 ≤ b ∧ a / 2 ^ b.toNat = r := by
  unfold shrI at h
  split at h
  · exact ⟨by assumption, Option.some.inj h⟩
  · cases h
theorem maxI_eq {i j : Int} : (if j > i then j else i) = max i j := by omega
theorem minI_eq {i j : Int} : (if j < i then j else i) = min i j := by omega

/-! ### texts -/
def sgn (c : Nat) : Str := ⟨#[c]⟩
theorem GS.of {x : Str} (h1 : (tl x).length ≤ sizeLine) (h2 : ∀ c ∈ tl x, c < 0x110000) : GS x := by
  refine ⟨by rw [len_tl]; exact h1, ?_⟩
  show x.cps.all (fun c => decide (c < 0x110000)) = true
  rw [Array.all_eq_true']
  intro c hc
  exact decide_eq_true (h2 c (by simpa [tl] using hc))
theorem GS.mem {x : Str} (g : GS x) : ∀ c ∈ tl x, c < 0x110000 := by
  intro c hc
  have h : x.cps.all (fun c => decide (c < 0x110000)) = true := g.ok
  rw [Array.all_eq_true'] at h
  exact of_decide_eq_true (h c (by simpa [tl] using hc))
theorem GS.tll {x : Str} (g : GS x) : (tl x).length ≤ sizeLine := by rw [← len_tl]; exact g.len
theorem GS.sg {x : Str} {c : Nat} (g : GS x) (h : c ∈ tl x) : GS (sgn c) := GS.of (by show 1 ≤ sizeLine; decide) (fun d hd => by
  have e : d = c := by simpa [tl, sgn] using hd
  rw [e]
  exact g.mem c h)
theorem GS.cut {x : Str} (g : GS x) (lo hi : Option Int) : GS (cutS x lo hi) := GS.of (by
    rw [← len_tl]
    exact Nat.le_trans (cutS_length x lo hi) g.len)
  fun c hc => g.mem c (List.mem_of_mem_drop (List.mem_of_mem_take (show c ∈ ((tl x).drop _).take _ from hc)))
def catS (a b : Str) : Option Str := if a.length + b.length ≤ sizeLine then some (a ++ b) else none
theorem catS_ok {a b r : Str} (h : catS a b = some r) : a.length + b.length ≤ sizeLine ∧ a ++ b = r := by
  unfold catS at h
  split at h
  · exact ⟨by assumption, Option.some.inj h⟩
  · cases h
theorem GS.cat {a b r : Str} (ga : GS a) (gb : GS b) (h : catS a b = some r) : GS r := by
  obtain ⟨h1, rfl⟩ := catS_ok h
  refine GS.of ?_ fun c hc => ?_
  · rw [tl_append, List.length_append, ← len_tl, ← len_tl]
    exact h1
  · rw [tl_append] at hc
    rcases List.mem_append.mp hc with k | k
    · exact ga.mem c k
    · exact gb.mem c k
/-- the sign at a place -/
def codeAt (x : Str) (i : Int) : Option Nat := atI (tl x) i
theorem codeAt_mem {x : Str} {i : Int} {c : Nat} (h : codeAt x i = some c) : c ∈ tl x := by
  unfold codeAt atI at h
  cases e : ixN (tl x).length i with
  | none => rw [e] at h; cases h
  | some j => rw [e] at h; exact List.mem_of_getElem? h
def mulS (x : Str) (n : Int) : Option Str := if -(2 ^ 63 : Int) ≤ n ∧ n ≤ 16777216 ∧ x.length * n.toNat ≤ 16777216 then some (Txt.mul x n) else none
theorem mulS_ok {x r : Str} {n : Int} (h : mulS x n = some r) : MulOk x n ∧ Txt.mul x n = r := by
  unfold mulS at h
  split at h
  · rename_i q
    exact ⟨mulOk_of x.length n.toNat (Nat.le_refl _) (by omega) q.1 (by omega) q.2.2, Option.some.inj h⟩
  · cases h
theorem foldl_app (cs : Array Nat) : ∀ (k : Nat) (acc : Array Nat), ((List.replicate k cs).foldl (· ++ ·) acc).toList = acc.toList ++ (List.replicate k cs.toList).flatten
  | 0, acc => by simp
  | k + 1, acc => by
    rw [List.replicate_succ, List.foldl_cons, foldl_app cs k, List.replicate_succ, List.flatten_cons, Array.toList_append, List.append_assoc]
theorem tl_mul (x : Str) (n : Int) : tl (Txt.mul x n) = (List.replicate n.toNat (tl x)).flatten := by
  unfold Txt.mul
  split
  · have e : n.toNat = 0 := by omega
    rw [e]
    rfl
  · split
    · rename_i h1 h2
      rcases Bool.or_eq_true_iff.mp h2 with h | h
      · have e : n = 1 := eq_of_beq h
        subst e
        show tl x = [tl x].flatten
        simp
      · have e : x.length = 0 := eq_of_beq h
        have e2 : tl x = [] := List.eq_nil_of_length_eq_zero (by rw [← len_tl]; exact e)
        rw [e2]
        simp
    · show ((List.replicate n.toNat x.cps).foldl (· ++ ·) #[]).toList = _
      rw [foldl_app]
      rfl
theorem GS.mul {x r : Str} {n : Int} (g : GS x) (h : mulS x n = some r) : GS r := by
  have h0 := h
  unfold mulS at h0
  split at h0
  · rename_i q
    obtain ⟨_, rfl⟩ := mulS_ok h
    refine GS.of ?_ fun c hc => ?_
    · rw [tl_mul, List.length_flatten, List.map_replicate, List.sum_replicate_nat, ← len_tl, sizeLine_eq, Nat.mul_comm]
      exact q.2.2
    · rw [tl_mul] at hc
      obtain ⟨l, hl, hc⟩ := List.mem_flatten.mp hc
      rw [(List.mem_replicate.mp hl).2] at hc
      exact g.mem c hc
  · cases h0
def joinS (sep : Str) (ys : List Str) : Option Str := if (ys.map (·.length)).sum + ys.length * sep.length ≤ 16777216 then some (Txt.join sep ys) else none
theorem joinS_ok {sep r : Str} {ys : List Str} (h : joinS sep ys = some r) : (ys.map (·.length)).sum + ys.length * sep.length ≤ 16777216 ∧ Txt.join sep ys = r := by
  unfold joinS at h
  split at h
  · exact ⟨by assumption, Option.some.inj h⟩
  · cases h
theorem tl_joinS (sep : Str) (ys : List Str) : tl (Txt.join sep ys) = joinL (tl sep) (ys.map tl) := by
  have e : Txt.join sep ys = Str.join sep ys := by
    unfold Txt.join; exact StrLaws.glued_eq_join sep ys
  rw [e, tl_join]
end G
/-! My base, part 3: rules. -/
namespace G
open PySem PySem.Spec PyProof.Rows L2 TL

section
variable {X : Cx}
theorem CallR.imp {f : Value} {r r' : List V → Hp → VK → Prop} (h : CallR X f r) (k : ∀ xs H Q, r' xs H Q → r xs H Q) : CallR X f r' :=
  fun pins s σ H xs us Q I rx q => h pins s σ H xs us Q I rx (k _ _ _ q)
theorem OpR.imp {f : Value → Value → Sem Value} {r r' : R2} (h : OpR X f r) (k : ∀ x y H Q, r' x y H Q → r x y H Q) : OpR X f r' :=
  fun pins s σ H x y v u Q I rx ry q => h pins s σ H x y v u Q I rx ry (k _ _ _ _ q)
/-- int(a truth) -/
theorem call_toI : CallR X (.type "int") (fun xs H Q => ∃ k, xs = [.bl k] ∧ Q (.int (toI k)) H) := CallR.imp call_int1 fun xs H Q ⟨k, e, q⟩ => .inr ⟨k, e, q⟩
/-- len(a list or tuple), told -/
theorem call_lenL : CallR X (.builtin "len") (fun xs H Q => ∃ p ys n, xs = [.ref p] ∧ (SqL X.K H p ys ∨ SqT X.K H p ys) ∧ ys.length = n ∧ Q (.int (n : Nat)) H) :=
  CallR.imp call_len_seq fun xs H Q ⟨p, ys, n, e, h, e2, q⟩ => ⟨p, ys, e, h, by rw [e2]; exact q⟩
/-- is None, told -/
theorem op_isO : OpR X (compareOp .Is) (fun x y H Q => ∃ b, y = .non ∧ decide (x = .non) = b ∧ Q (.bl b) H) := OpR.imp op_isN fun x y H Q ⟨b, e, e2, q⟩ => ⟨e, by rw [e2]; exact q⟩
theorem op_notO : OpR X (compareOp .IsNot) (fun x y H Q => ∃ b, y = .non ∧ decide (x = .non) = b ∧ Q (.bl (!b)) H) := OpR.imp op_notN fun x y H Q ⟨b, e, e2, q⟩ => ⟨e, by rw [e2]; exact q⟩
theorem op_mulS : OpR X (binaryOp .Mult) (fun x y H Q => ∃ z n, x = .str z ∧ y = .int n ∧ MulOk z n ∧ Q (.str (Txt.mul z n)) H) := by
  intro pins s σ H x y v u Q I rx ry h
  obtain ⟨z, n, rfl, rfl, ok, q⟩ := h
  obtain ⟨t, rfl⟩ := rx
  obtain ⟨t', rfl⟩ := ry
  exact SB.mul ok fun t' k => ⟨.str _, H, I.tok k, ⟨t', rfl⟩, q⟩
/-- xs + ys, lists that are read -/
def rCatL (K : PySem.W.Frag) : R2 := fun x y H Q => ∃ l b xs zs, x = .ref l ∧ y = .ref b ∧ SqL K H l xs ∧ SqL K H b zs ∧ xs.length + zs.length ≤ sizeLine ∧ ∀ p, H p = none → Q (.ref p) (upd H p (.lst (xs ++ zs)))
theorem op_catL : OpR X (binaryOp .Add) (rCatL X.K) := by
  intro pins s σ H x y v u Q I rx ry h
  obtain ⟨l, b, xs, zs, rfl, rfl, hH, hB, hz, q⟩ := h
  cases rx
  cases ry
  obtain ⟨its, r, p1, hl⟩ := I.list hH
  obtain ⟨its2, r2, p2, hl2⟩ := I.list hB
  obtain ⟨⟨cls, dd, data, sl⟩, ho, hc, n, hd⟩ := p1.isList
  obtain ⟨⟨cls2, dd2, data2, sl2⟩, ho2, hc2, n2, hd2⟩ := p2.isList
  simp only at hc hd hc2 hd2
  subst hc hd hc2 hd2
  have ea : its.toArray ++ its2.toArray = (its ++ its2).toArray := by simp
  have e1 := r.length
  have e2 := r2.length
  refine concat_meets ⟨_, ho, rfl⟩ ⟨_, ho2, rfl⟩ noFill_list_add seq_list_add PySem.F.slot_list_add PySem.F.entry_list_add (PySem.F.args_list_add_2 _ _) (PyProof.Rows.list_addW l b its.toArray its2.toArray n n2 dd dd2 sl sl2 (by simp; omega)) ⟨ho, ho2, ?_⟩
  rw [ea]
  exact ⟨.ref _, _, I.lnew (t' := s.toks) (r.append r2) (by rw [List.length_append]; omega), rfl, q _ I.fresh⟩
end

/-! ### parts of an expression, closed: what they come to, whatever follows -/
section
variable {M : Addr → Prop} {F H : Hp} {σ : L2.St} {ta tb tc : TE} {Q : VK} {a c k : Bool}
/-- t comes to the truth c -/
def EvB (M : Addr → Prop) (F H : Hp) (t : VK → Prop) (c : Bool) : Prop := ∀ Q : VK, (∀ F' H', Gr M F H F' H' → Q (.bl c) H') → t Q
def EvT (M : Addr → Prop) (F H : Hp) (t : (Bool → Hp → Prop) → Prop) (c : Bool) : Prop := ∀ Q : Bool → Hp → Prop, (∀ F' H', Gr M F H F' H' → Q c H') → t Q
theorem andV_g (h1 : EvB M F H (fun Q => ta σ H Q) a) (h2 : a = true → ∀ F1 H1, Gr M F H F1 H1 → EvB M F1 H1 (fun Q => tb σ H1 Q) c) (h3 : a = false → c = false)
    (q : ∀ F' H', Gr M F H F' H' → Q (.bl c) H') : tAndV ta tb σ H Q := h1 _ fun F1 H1 g1 => ⟨a, rfl, by
  cases e : a with
  | true => exact iteT (h2 e F1 H1 g1 _ fun F2 H2 g2 => q F2 H2 (g1.trans g2))
  | false =>
    have ec := h3 e
    subst ec
    exact iteF (q F1 H1 g1)⟩
theorem orV_g (h1 : EvB M F H (fun Q => ta σ H Q) a) (h2 : a = false → ∀ F1 H1, Gr M F H F1 H1 → EvB M F1 H1 (fun Q => tb σ H1 Q) c) (h3 : a = true → c = true)
    (q : ∀ F' H', Gr M F H F' H' → Q (.bl c) H') : tOrV ta tb σ H Q := h1 _ fun F1 H1 g1 => ⟨a, rfl, by
  cases e : a with
  | false => exact iteF (h2 e F1 H1 g1 _ fun F2 H2 g2 => q F2 H2 (g1.trans g2))
  | true =>
    have ec := h3 e
    subst ec
    exact iteT (q F1 H1 g1)⟩
theorem andT_g {ta tb : TT} {Q : Bool → Hp → Prop} (h1 : EvT M F H (fun Q => ta σ H Q) a) (h2 : a = true → ∀ F1 H1, Gr M F H F1 H1 → EvT M F1 H1 (fun Q => tb σ H1 Q) c) (h3 : a = false → c = false)
    (q : ∀ F' H', Gr M F H F' H' → Q c H') : tAnd ta tb σ H Q := h1 _ fun F1 H1 g1 => by
  cases e : a with
  | true => exact iteT (h2 e F1 H1 g1 _ fun F2 H2 g2 => q F2 H2 (g1.trans g2))
  | false =>
    have ec := h3 e
    subst ec
    exact iteF (q F1 H1 g1)
theorem orT_g {ta tb : TT} {Q : Bool → Hp → Prop} (h1 : EvT M F H (fun Q => ta σ H Q) a) (h2 : a = false → ∀ F1 H1, Gr M F H F1 H1 → EvT M F1 H1 (fun Q => tb σ H1 Q) c) (h3 : a = true → c = true)
    (q : ∀ F' H', Gr M F H F' H' → Q c H') : tOr ta tb σ H Q := h1 _ fun F1 H1 g1 => by
  cases e : a with
  | false => exact iteF (h2 e F1 H1 g1 _ fun F2 H2 g2 => q F2 H2 (g1.trans g2))
  | true =>
    have ec := h3 e
    subst ec
    exact iteT (q F1 H1 g1)
/-- a < b < c -/
theorem chainV_g {r r' : R2} (h1 : EvB M F H (fun Q => ta σ H fun x H1 => tb σ H1 fun y H2 => r x y H2 Q) a) (h : tChain r r' ta tb tc σ H Q) : tChain r r' ta tb tc σ H Q := h
/-- e if t else e': it comes to what P says -/
theorem ifE_g {tt : TT} {P : V → Hp → Hp → Prop} (h1 : EvT M F H (fun Q => tt σ H Q) a)
    (h2 : a = true → ∀ F1 H1, Gr M F H F1 H1 → ∀ Q : VK, (∀ v F' H', Gr M F1 H1 F' H' → P v F' H' → Q v H') → ta σ H1 Q)
    (h3 : a = false → ∀ F1 H1, Gr M F H F1 H1 → ∀ Q : VK, (∀ v F' H', Gr M F1 H1 F' H' → P v F' H' → Q v H') → tb σ H1 Q)
    (q : ∀ v F' H', Gr M F H F' H' → P v F' H' → Q v H') : tIf tt ta tb σ H Q := h1 _ fun F1 H1 g1 => by
  cases e : a with
  | true => exact iteT (h2 e F1 H1 g1 _ fun v F2 H2 g2 => q v F2 H2 (g1.trans g2))
  | false => exact iteF (h3 e F1 H1 g1 _ fun v F2 H2 g2 => q v F2 H2 (g1.trans g2))
end

/-! ### peeling a statement -/
section
variable {D : Ends} {σ : L2.St} {H : Hp} {t u : TS} {te : TE} {g : TG} {c : TT}
theorem p_seq (h : t { D with nx := u D } σ H) : tSeq t u D σ H := h
theorem p_asg (h : te σ H (fun x H1 => g x σ H1 D.nx)) : tAsg te g D σ H := h
theorem p_ret (h : te σ H D.rt) : tRet te D σ H := h
theorem p_if (h : c σ H (fun b H1 => if b = true then t D σ H1 else u D σ H1)) : tIfS c t u D σ H := h
theorem p_drop (h : te σ H (fun _ H1 => D.nx σ H1)) : tDrop te D σ H := h
/-- a statement, then the rest, with a word between them -/
def tCut (t u : TS) : TS := fun D σ H => ∃ Mid : L2.St → Hp → Prop, t { D with nx := Mid } σ H ∧ ∀ σ' H', Mid σ' H' → u D σ' H'
theorem pss_cut {X : Cx} {st : Stmt} {rest : List Stmt} (h1 : PS X st t) (h2 : PSs X rest u) : PSs X (st :: rest) (tCut t u) := by
  refine ⟨fun pins s σ H D I h => ?_⟩
  obtain ⟨Mid, hm, hu⟩ := h
  refine wpAny_execs_cons (thn (h1.run pins s σ H { D with nx := Mid } I hm) fun f s1 q => ?_)
  cases f with
  | next =>
    obtain ⟨σ', H', I', q⟩ := q
    exact h2.run pins s1 σ' H' D I' (hu σ' H' q)
  | ret v => exact q
  | brk => exact q
  | cont => exact q
end

/-! ### a call by names alone -/
section
variable {X : Cx} {CX : CXT} {k : Nat} {f : Addr} {fd : FuncData} {ps ks : List Str} {sp : Sp} {E : XK} {x : Str} {p pos : Pos} {kws : List Keyword} {tk : TA} {g : List Value → List Value → List Value} {gV : List V → List V → List V}
theorem pe_callK0 (F : FnOk X.prog X.w X.K X.mg X.base CX k f fd ps sp) (hr : Room k X.A) (hg : Gl X x) (hm : X.mg x = some (.ref f)) (hk : PySem.W.keepIn X.K (.ref f) = true) (hb : KBinds X.K fd ps ks g gV) (hx : Passes CX X E)
    (hkw : PK X kws tk) (hall : (backToKw pos (keywordEach kws X.env)).all (·.1.isSome) = true := by rfl) (hks : (backToKw pos (keywordEach kws X.env)).filterMap (·.1) = ks := by rfl)
    (hdb : (x == ("__debug__" : Str)) = false := by decide)
    (hpl : ((backTo pos (starEach [] X.env)).any (·.1) || (backToKw pos (keywordEach kws X.env)).any (·.1.isNone)) = false := by rfl) :
    PE X (.Call (.Name x p) [] kws pos) (tCallK sp gV E tNil tk) := by
  refine ⟨fun pins s σ H Q I h => ?_⟩
  refine wpAny_Call_Name_kw (ld_glob I hg hm ?_ hdb)
  refine PySem.W.callWith_KW0 (h₀ := X.base) I.ok.mod.kin hk hall ?_ hpl
  refine thn (hkw.run pos pins s σ H _ I h) fun ws s2 ⟨zs, H2, I2, rz, q2⟩ => ⟨I2.kIn, ?_⟩
  rw [hks]
  exact run_fnk F hr hb hx I2 .nil rz q2
end

/-! ### texts kept in a written table -/
def dgetS (kvs : List (Str × Str)) (k d : Str) : Str := ((kvs.find? fun kv => decide (kv.1 = k)).map (·.2)).getD d
def kvS (kvs : List (Str × Str)) : List (Key × V) := kvs.map fun kv => (Sum.inr kv.1, V.str kv.2)
theorem valS (k : Str) : ∀ kvs : List (Str × Str), valV (kvS kvs) (Sum.inr k) = ((kvs.find? fun kv => decide (kv.1 = k)).map (·.2)).map V.str
  | [] => rfl
  | kv :: r => by
    unfold valV kvS
    rw [List.map_cons, List.find?_cons, List.find?_cons]
    by_cases h : kv.1 = k
    · have h' : (Sum.inr kv.1 : Key) = Sum.inr k := by rw [h]
      simp only [decide_eq_true h, decide_eq_true h', Option.map_some]
    · have h' : ¬ (Sum.inr kv.1 : Key) = Sum.inr k := fun e => h (Sum.inr.inj e)
      simp only [decide_eq_false h, decide_eq_false h']
      exact valS k r
theorem rd_dgets {ty tx : TE} {σ : L2.St} {H : Hp} {Q : VK} {k d : Str} (trs : List (TE × TE)) (kvs : List (Str × Str)) (he : trs = kvs.map fun kv => (tC (.str kv.1), tC (.str kv.2))) (h15 : kvs.length ≤ 15) (hm : mergeK [] (kvS kvs) = kvS kvs)
    (hy : ∀ H1 Q', Q' (.str k) H1 → ty σ H1 Q') (hx : ∀ H1 Q', Q' (.str d) H1 → tx σ H1 Q') (q : ∀ p, H p = none → Q (.str (dgetS kvs k d)) (upd H p (.dK (kvS kvs)))) : tDGet2 (tDisp trs) ty tx σ H Q := by
  intro p hp
  have walk : ∀ (l : List (Str × Str)) (R : List (V × V) → Hp → Prop) (H1 : Hp), R (l.map fun kv => (V.str kv.1, V.str kv.2)) H1 → tPairs (l.map fun kv => (tC (.str kv.1), tC (.str kv.2))) σ H1 R := by
    intro l
    induction l with
    | nil => intro R H1 h; exact h
    | cons kv l ih => intro R H1 h; exact ih (fun ps H3 => R ((V.str kv.1, V.str kv.2) :: ps) H3) H1 h
  rw [he]
  refine walk kvs _ _ ⟨upd_same, kvS kvs, ?_, ?_, ?_⟩
  · unfold kvS
    rw [List.map_map]
    rfl
  · unfold kvS
    rw [List.length_map]
    exact h15
  · rw [hm, upd_upd]
    refine ⟨p, rfl, .inl ⟨_, .inl upd_same⟩, hy _ _ (hx _ _ ⟨_, DGet.k (k := Sum.inr k) upd_same, ?_⟩)⟩
    rw [valS]
    have e : (((kvs.find? fun kv => decide (kv.1 = k)).map (·.2)).map V.str).getD (.str d) = .str (dgetS kvs k d) := by
      unfold dgetS
      cases (kvs.find? fun kv => decide (kv.1 = k)) <;> rfl
    rw [e]
    exact q p hp
theorem GS.dg {kvs : List (Str × Str)} {k d : Str} (h : ∀ kv ∈ kvs, GS kv.2) (hd : GS d) : GS (dgetS kvs k d) := by
  unfold dgetS
  cases e : (kvs.find? fun kv => decide (kv.1 = k)) with
  | none => exact hd
  | some kv => exact h kv (List.mem_of_find?_eq_some e)
end G
/-! My base, part 4: lists of one's own, the bag. -/
namespace G
open PySem PySem.Spec PyProof.Rows L2 TL

/-- a list of one's own at p: made behind the entry (H0), not among what stays (F) -/
structure Ow (H0 F H : Hp) (p : Addr) (ws : List V) : Prop where
  h : H p = some (.lst ws)
  nF : F p = none
  n0 : H0 p = none
section
variable {M : Addr → Prop} {F0 H0 F H F' H' : Hp} {p q : Addr} {o : HO} {K : PySem.W.Frag} {xs ws us : List V}
theorem Ow.new (g : Gr M F0 H0 F H) (hp : H p = none) : Ow H0 F (upd H p (.lst ws)) p ws := ⟨upd_same, g.noneF hp, g.none0 hp⟩
theorem Ow.frz (w : Ow H0 F H p ws) (hq : H q = none) : Ow H0 (upd F q o) (upd H q o) p ws :=
  have ne := ne_of_none w.h hq
  ⟨(upd_ne ne).trans w.h, (upd_ne ne).trans w.nF, w.n0⟩
theorem Ow.own (w : Ow H0 F H p ws) (hq : H q = none) : Ow H0 F (upd H q o) p ws :=
  have ne := ne_of_none w.h hq
  ⟨(upd_ne ne).trans w.h, w.nF, w.n0⟩
theorem Ow.put (w : Ow H0 F H p ws) : Ow H0 F (upd H p (.lst us)) p us := ⟨upd_same, w.nF, w.n0⟩
theorem Ow.other (w : Ow H0 F H p ws) (ne : p ≠ q) : Ow H0 F (upd H q o) p ws := ⟨(upd_ne ne).trans w.h, w.nF, w.n0⟩
theorem Ow.ne (w : Ow H0 F H p ws) (hq : H q = none) : p ≠ q := ne_of_none w.h hq
theorem Ow.gr (w : Ow H0 F H p ws) (g : Gr M F H F' H') (m : ¬ M p) : Ow H0 F' H' p ws :=
  ⟨g.keep _ _ m w.h, g.new p (by rw [w.h]; simp) w.nF, w.n0⟩
theorem Ow.gr0 (w : Ow H0 F H p ws) (g : Gr M0 F H F' H') : Ow H0 F' H' p ws := w.gr g id
theorem Ow.fz (w : Ow H0 F H p ws) (ne : p ≠ q) : Ow H0 (upd F q o) H p ws := ⟨w.h, (upd_ne ne).trans w.nF, w.n0⟩
theorem Gr.put (g : Gr M F0 H0 F H) (w : Ow H0 F H p ws) : Gr M F0 H0 F (upd H p o) := g.mut w.nF (.inl w.n0)
theorem Gr.fz (g : Gr M F0 H0 F H) (w : Ow H0 F H p ws) : Gr M F0 H0 (upd F p (.lst ws)) H := g.freeze w.h w.n0
theorem Ow.sq (w : Ow H0 F H p ws) : SqL K H p ws := .inl (.inl w.h)
theorem Ow.sf (w : Ow H0 F H p ws) : Same F (upd F p (.lst ws)) := same_new w.nF
theorem fzS : SqL K (upd F p (.lst ws)) p ws := .inl (.inl upd_same)
theorem fzT : SqT K (upd F p (.tup ws)) p ws := .inl (.inl upd_same)
end

/-- the bag of a law: its cells, which is next, the seed, how many were stirred -/
structure Bag where
  cells : List Int
  at_ : Nat
  seed : Int
  cnt : Int
structure BagOk (b : Bag) : Prop where
  lo : 0 ≤ b.seed
  hi : b.seed < 2 ^ 31
abbrev Bc (B C : Addr) : Addr → Prop := fun a => a = B ∨ a = C
structure BagAt (F H : Hp) (B C : Addr) (b : Bag) : Prop where
  hB : H B = some (.lst [.ref C, .int (b.at_ : Nat), .int b.seed, .int b.cnt])
  hC : H C = some (.lst (b.cells.map V.int))
  ne : B ≠ C
  fB : F B = none
  fC : F C = none
section
variable {M : Addr → Prop} {F0 H0 F H F' H' : Hp} {p q B C : Addr} {o : HO} {b b' : Bag} {ws : List V}
theorem BagAt.frz (a : BagAt F H B C b) (hq : H q = none) : BagAt (upd F q o) (upd H q o) B C b :=
  have n1 := ne_of_none a.hB hq
  have n2 := ne_of_none a.hC hq
  ⟨(upd_ne n1).trans a.hB, (upd_ne n2).trans a.hC, a.ne, (upd_ne n1).trans a.fB, (upd_ne n2).trans a.fC⟩
theorem BagAt.own (a : BagAt F H B C b) (hq : H q = none) : BagAt F (upd H q o) B C b :=
  have n1 := ne_of_none a.hB hq
  have n2 := ne_of_none a.hC hq
  ⟨(upd_ne n1).trans a.hB, (upd_ne n2).trans a.hC, a.ne, a.fB, a.fC⟩
theorem BagAt.nb (a : BagAt F H B C b) (hq : H q = none) : ¬ Bc B C q := fun z => by
  rcases z with z | z
  · exact ne_of_none a.hB hq z.symm
  · exact ne_of_none a.hC hq z.symm
theorem BagAt.other (a : BagAt F H B C b) (m : ¬ Bc B C q) : BagAt F (upd H q o) B C b :=
  have n1 : B ≠ q := fun z => m (.inl z.symm)
  have n2 : C ≠ q := fun z => m (.inr z.symm)
  ⟨(upd_ne n1).trans a.hB, (upd_ne n2).trans a.hC, a.ne, a.fB, a.fC⟩
theorem BagAt.fz (a : BagAt F H B C b) (m : ¬ Bc B C q) : BagAt (upd F q o) H B C b :=
  have n1 : B ≠ q := fun z => m (.inl z.symm)
  have n2 : C ≠ q := fun z => m (.inr z.symm)
  ⟨a.hB, a.hC, a.ne, (upd_ne n1).trans a.fB, (upd_ne n2).trans a.fC⟩
theorem BagAt.gr0 (a : BagAt F H B C b) (g : Gr M0 F H F' H') : BagAt F' H' B C b :=
  ⟨g.keep _ _ id a.hB, g.keep _ _ id a.hC, a.ne, g.new _ (by rw [a.hB]; simp) a.fB, g.new _ (by rw [a.hC]; simp) a.fC⟩
/-- a promise over the whole heap as what stays: the caller's own part stays apart -/
theorem Gr.apart (g : Gr M F0 H0 F H) (k : Gr M0 H H F' H') : Gr M F0 H0 F H' :=
  ⟨g.fh.trans fun a o e => k.keep a o id e, g.ff, fun a o m e => k.keep a o id (g.keep a o m e), fun a e => k.there a (g.there a e), g.new⟩
theorem Ow.apart (w : Ow H0 F H p ws) (k : Gr M0 H H F' H') : Ow H0 F H' p ws := ⟨k.keep _ _ id w.h, w.nF, w.n0⟩
theorem BagAt.apart (a : BagAt F H B C b) (k : Gr M0 H H F' H') : BagAt F H' B C b := ⟨k.keep _ _ id a.hB, k.keep _ _ id a.hC, a.ne, a.fB, a.fC⟩
end
end G
namespace G
open PySem PySem.Spec PyProof.Rows L2 TL
/-! ### loops' ends in the makings -/
def lpK {S R T : Type} (l : Lp S R) (f : S → Option T) (g : R → Option T) : Option T := match l with
  | .go s => f s
  | .ret r => g r
def bindL0 {R T : Type} (o : Option (Lp Unit R)) (f : Option T) (g : R → Option T) : Option T := o.bind fun l => lpK l (fun _ => f) g
def bindL1 {α R T : Type} (o : Option (Lp α R)) (f : α → Option T) (g : R → Option T) : Option T := o.bind fun l => lpK l f g
def bindL2 {α β R T : Type} (o : Option (Lp (α × β) R)) (f : α → β → Option T) (g : R → Option T) : Option T := o.bind fun l => lpK l (fun s => f s.1 s.2) g
def bindL3 {α β γ R T : Type} (o : Option (Lp (α × β × γ) R)) (f : α → β → γ → Option T) (g : R → Option T) : Option T := o.bind fun l => lpK l (fun s => f s.1 s.2.1 s.2.2) g
def bindL4 {α β γ δ R T : Type} (o : Option (Lp (α × β × γ × δ) R)) (f : α → β → γ → δ → Option T) (g : R → Option T) : Option T := o.bind fun l => lpK l (fun s => f s.1 s.2.1 s.2.2.1 s.2.2.2) g
section
variable {α β γ δ R T : Type} {g : R → Option T} {r : R} {t : T}
theorem bndL0 {o : Option (Lp Unit R)} {f : Option T} (h : bindL0 o f g = some t) : ∃ l, o = some l ∧ lpK l (fun _ => f) g = some t := Option.bind_eq_some_iff.mp h
theorem bndL1 {o : Option (Lp α R)} {f : α → Option T} (h : bindL1 o f g = some t) : ∃ l, o = some l ∧ lpK l f g = some t := Option.bind_eq_some_iff.mp h
theorem bndL2 {o : Option (Lp (α × β) R)} {f : α → β → Option T} (h : bindL2 o f g = some t) : ∃ l, o = some l ∧ lpK l (fun s => f s.1 s.2) g = some t := Option.bind_eq_some_iff.mp h
theorem bndL3 {o : Option (Lp (α × β × γ) R)} {f : α → β → γ → Option T} (h : bindL3 o f g = some t) : ∃ l, o = some l ∧ lpK l (fun s => f s.1 s.2.1 s.2.2) g = some t := Option.bind_eq_some_iff.mp h
theorem bndL4 {o : Option (Lp (α × β × γ × δ) R)} {f : α → β → γ → δ → Option T} (h : bindL4 o f g = some t) : ∃ l, o = some l ∧ lpK l (fun s => f s.1 s.2.1 s.2.2.1 s.2.2.2) g = some t := Option.bind_eq_some_iff.mp h
theorem bgo0 {f : Option T} (h : lpK (.go ()) (fun _ => f) g = some t) : f = some t := h
theorem bgo1 {f : α → Option T} {a : α} (h : lpK (.go a) f g = some t) : f a = some t := h
theorem bgo2 {f : α → β → Option T} {a : α} {b : β} (h : lpK (.go (a, b)) (fun s => f s.1 s.2) g = some t) : f a b = some t := h
theorem bgo3 {f : α → β → γ → Option T} {a : α} {b : β} {c : γ} (h : lpK (.go (a, b, c)) (fun s => f s.1 s.2.1 s.2.2) g = some t) : f a b c = some t := h
theorem bgo4 {f : α → β → γ → δ → Option T} {a : α} {b : β} {c : γ} {d : δ} (h : lpK (.go (a, b, c, d)) (fun s => f s.1 s.2.1 s.2.2.1 s.2.2.2) g = some t) : f a b c d = some t := h
theorem bret {S : Type} {f : S → Option T} (h : lpK (.ret r) f g = some t) : g r = some t := h
end
/-- ranges -/
def rangeL (lo : Int) (n : Nat) : List Int := (List.range n).map fun k => lo + (k : Nat)
theorem rangeL_at {lo : Int} {n i : Nat} (h : i < n) : (rangeL lo n)[i]? = some (lo + (i : Nat)) := by
  unfold rangeL
  rw [List.getElem?_map, List.getElem?_range h]
  rfl
theorem rangeL_len (lo : Int) (n : Nat) : (rangeL lo n).length = n := by unfold rangeL; simp
def rangeO (lo hi : Int) : Option (List Int) := if (-(2 ^ 62) ≤ lo ∧ lo < 2 ^ 62 ∧ -(2 ^ 62) ≤ hi ∧ hi < 2 ^ 62) ∧ (hi - lo).toNat ≤ sizeLine then some (rangeL lo (hi - lo).toNat) else none
theorem rangeO_ok {lo hi : Int} {l : List Int} (h : rangeO lo hi = some l) : ((-(2 ^ 62) ≤ lo ∧ lo < 2 ^ 62 ∧ -(2 ^ 62) ≤ hi ∧ hi < 2 ^ 62) ∧ (hi - lo).toNat ≤ sizeLine) ∧ rangeL lo (hi - lo).toNat = l := by
  unfold rangeO at h
  split at h
  · exact ⟨by assumption, Option.some.inj h⟩
  · cases h
def appL {α : Type} (xs : List α) (x : α) : Option (List α) := if xs.length < sizeLine then some (xs ++ [x]) else none
theorem appL_ok {α : Type} {xs r : List α} {x : α} (h : appL xs x = some r) : xs.length < sizeLine ∧ xs ++ [x] = r := by
  unfold appL at h
  split at h
  · exact ⟨by assumption, Option.some.inj h⟩
  · cases h
def conL {α : Type} (xs ys : List α) : Option (List α) := if xs.length + ys.length ≤ sizeLine then some (xs ++ ys) else none
theorem conL_ok {α : Type} {xs ys r : List α} (h : conL xs ys = some r) : xs.length + ys.length ≤ sizeLine ∧ xs ++ ys = r := by
  unfold conL at h
  split at h
  · exact ⟨by assumption, Option.some.inj h⟩
  · cases h
def cutL {α : Type} (xs : List α) (lo hi : Option Int) : List α := (xs.drop (HT.sIx xs.length 0 lo)).take (HT.sIx xs.length xs.length hi - HT.sIx xs.length 0 lo)
theorem str_at {x : Str} {i c : Nat} (h : x.cps[i]? = some c) : (tl x)[i]? = some c := by simpa [tl] using h
theorem str_size {x : Str} : x.cps.size = (tl x).length := by simp [tl]
theorem lt_line {a i n : Nat} (h : a ≤ i) (h2 : i < n) (h3 : n ≤ sizeLine) : a < sizeLine := by omega
theorem snoc_rest {α : Type} {ds rest res : List α} {x : α} (h : ds ++ (x :: rest) = res) : (ds ++ [x]) ++ rest = res := by rw [← h, List.append_assoc]; rfl
theorem sjoin {α : Type} {a b : α} (h : some a = some b) : a = b := Option.some.inj h
end G
/-! My base, part 5: more peeling, walks over texts, lists' operations. -/
namespace G
open PySem PySem.Spec PyProof.Rows L2 TL

section
variable {D : Ends} {σ : L2.St} {H : Hp} {t u : TS} {te : TE} {g : TG} {c : TT} {wi : TI} {i : Nat} {v : V} {k : L2.St → Hp → Prop}
theorem p_next (h : D.nx σ H) : tNext D σ H := h
theorem p_cont (h : D.ct σ H) : tCont D σ H := h
theorem p_brk (h : D.bk σ H) : tBreak D σ H := h
theorem p_name (h : k (σ.set i (some v)) H) : gName i v σ H k := h
theorem p_nm {v' : V} (e : v = v') (h : k (σ.set i (some v')) H) : gName i v σ H k := by subst e; exact h
theorem p_nx {f : L2.St → Hp → Prop} {r : VK} {bk ct : L2.St → Hp → Prop} (h : f σ H) : (Ends.mk f r bk ct).nx σ H := h
theorem p_yes {A B : Hp → Prop} (h : A H) : tYes σ H (fun b H3 => if b = true then A H3 else B H3) := h
theorem p_for (h : tFor wi g t D σ H) : tFor wi g t D σ H := h
theorem p_id (h : t D σ H) : t D σ H := h
end
theorem pjoin {α β : Type} {a c : α} {b d : β} (h : some (a, b) = some (c, d)) : a = c ∧ b = d := by
  injection h with h
  injection h with h1 h2
  exact ⟨h1, h2⟩
theorem pjoin3 {α β γ : Type} {a a' : α} {b b' : β} {c c' : γ} (h : some (a, b, c) = some (a', b', c')) : a = a' ∧ b = b' ∧ c = c' := by
  injection h with h
  injection h with h1 h2
  injection h2 with h2 h3
  exact ⟨h1, h2, h3⟩
theorem pjoin4 {α β γ δ : Type} {a a' : α} {b b' : β} {c c' : γ} {d d' : δ} (h : some (a, b, c, d) = some (a', b', c', d')) : a = a' ∧ b = b' ∧ c = c' ∧ d = d' := by
  injection h with h
  injection h with h1 h2
  injection h2 with h2 h3
  injection h3 with h3 h4
  exact ⟨h1, h2, h3, h4⟩
theorem pjoin5 {α β γ δ ε : Type} {a a' : α} {b b' : β} {c c' : γ} {d d' : δ} {e e' : ε} (h : some (a, b, c, d, e) = some (a', b', c', d', e')) : a = a' ∧ b = b' ∧ c = c' ∧ d = d' ∧ e = e' := by
  injection h with h
  injection h with h1 h2
  injection h2 with h2 h3
  injection h3 with h3 h4
  injection h4 with h4 h5
  exact ⟨h1, h2, h3, h4, h5⟩

/-! ### parts whose value is told -/
def tVal (t : TE) : TE := fun σ H Q => ∃ v, (∀ Q' : VK, Q' v H → t σ H Q') ∧ Q v H
def tValT (t : TT) : TT := fun σ H Q => ∃ b, (∀ Q' : Bool → Hp → Prop, Q' b H → t σ H Q') ∧ Q b H
section
variable {X : Cx}
theorem pe_val {e : Expr} {t : TE} (h : PE X e t) : PE X e (tVal t) := ⟨fun pins s σ H Q I q => by
  obtain ⟨v, k, q⟩ := q
  exact h.run pins s σ H Q I (k Q q)⟩
theorem pt_valT {e : Expr} {t : TT} (h : PT X e t) : PT X e (tValT t) := ⟨fun pins s σ H Q I q => by
  obtain ⟨v, k, q⟩ := q
  exact h.run pins s σ H Q I (k Q q)⟩
end
section
variable {a b : Bool} {H : Hp}
theorem qTv {Q : VK} (h : a = true) (q : Q (.bl (a && b)) H) : Q (.bl b) H := by subst h; exact q
theorem qFv {Q : VK} (h : a = false) (q : Q (.bl (a && b)) H) : Q (.bl false) H := by subst h; exact q
theorem qTb {Q : Bool → Hp → Prop} (h : a = true) (q : Q (a && b) H) : Q b H := by subst h; exact q
theorem qFb {Q : Bool → Hp → Prop} (h : a = false) (q : Q (a && b) H) : Q false H := by subst h; exact q
end
section
variable {F H : Hp} {σ : L2.St} {ta tb : TE} {Q : VK} {a b : Bool}
theorem andV_t (h1 : EvB M0 F H (fun Q => ta σ H Q) a) (h2 : a = true → ∀ F1 H1, Gr M0 F H F1 H1 → EvB M0 F1 H1 (fun Q => tb σ H1 Q) b)
    (q : ∀ F' H', Gr M0 F H F' H' → Q (.bl (a && b)) H') : tAndV ta tb σ H Q :=
  andV_g (c := a && b) h1 (fun e F1 H1 g => by rw [e]; exact h2 e F1 H1 g) (fun e => by rw [e]; rfl) q
theorem orV_t (h1 : EvB M0 F H (fun Q => ta σ H Q) a) (h2 : a = false → ∀ F1 H1, Gr M0 F H F1 H1 → EvB M0 F1 H1 (fun Q => tb σ H1 Q) b)
    (q : ∀ F' H', Gr M0 F H F' H' → Q (.bl (a || b)) H') : tOrV ta tb σ H Q :=
  orV_g (c := a || b) h1 (fun e F1 H1 g => by rw [e]; exact h2 e F1 H1 g) (fun e => by rw [e]; rfl) q
theorem andT_t {ta tb : TT} {Q : Bool → Hp → Prop} (h1 : EvT M0 F H (fun Q => ta σ H Q) a) (h2 : a = true → ∀ F1 H1, Gr M0 F H F1 H1 → EvT M0 F1 H1 (fun Q => tb σ H1 Q) b)
    (q : ∀ F' H', Gr M0 F H F' H' → Q (a && b) H') : tAnd ta tb σ H Q :=
  andT_g (c := a && b) h1 (fun e F1 H1 g => by rw [e]; exact h2 e F1 H1 g) (fun e => by rw [e]; rfl) q
theorem orT_t {ta tb : TT} {Q : Bool → Hp → Prop} (h1 : EvT M0 F H (fun Q => ta σ H Q) a) (h2 : a = false → ∀ F1 H1, Gr M0 F H F1 H1 → EvT M0 F1 H1 (fun Q => tb σ H1 Q) b)
    (q : ∀ F' H', Gr M0 F H F' H' → Q (a || b) H') : tOr ta tb σ H Q :=
  orT_g (c := a || b) h1 (fun e F1 H1 g => by rw [e]; exact h2 e F1 H1 g) (fun e => by rw [e]; rfl) q
end

/-! ### e if c else e', behind its test -/
section
variable {M : Addr → Prop} {F H : Hp} {σ : L2.St} {ta tb : TE} {Q : VK} {c : Bool}
theorem ifJ {P : V → Hp → Hp → Prop} (h2 : c = true → ∀ Q : VK, (∀ v F' H', Gr M F H F' H' → P v F' H' → Q v H') → ta σ H Q)
    (h3 : c = false → ∀ Q : VK, (∀ v F' H', Gr M F H F' H' → P v F' H' → Q v H') → tb σ H Q)
    (q : ∀ v F' H', Gr M F H F' H' → P v F' H' → Q v H') : if c = true then ta σ H Q else tb σ H Q := by
  cases e : c with
  | true => exact iteT (h2 e Q q)
  | false => exact iteF (h3 e Q q)
end

section
variable {M : Addr → Prop} {F H : Hp} {σ : L2.St} {tb : TE} {ub : TT} {Q : VK} {U : Bool → Hp → Prop} {a c : Bool} {P : Hp → Hp → Prop}
theorem andJV (h2 : a = true → ∀ Q : VK, (∀ F' H', Gr M F H F' H' → P F' H' → Q (.bl c) H') → tb σ H Q) (h3 : a = false → c = false ∧ P F H) (fh : Same F H)
    (q : ∀ F' H', Gr M F H F' H' → P F' H' → Q (.bl c) H') : if a = true then tb σ H Q else Q (.bl false) H := by
  cases e : a with
  | true => exact iteT (h2 e Q q)
  | false =>
    obtain ⟨ec, p⟩ := h3 e
    subst ec
    exact iteF (q _ _ (Gr.refl fh) p)
theorem orJV (h2 : a = false → ∀ Q : VK, (∀ F' H', Gr M F H F' H' → P F' H' → Q (.bl c) H') → tb σ H Q) (h3 : a = true → c = true ∧ P F H) (fh : Same F H)
    (q : ∀ F' H', Gr M F H F' H' → P F' H' → Q (.bl c) H') : if a = true then Q (.bl true) H else tb σ H Q := by
  cases e : a with
  | false => exact iteF (h2 e Q q)
  | true =>
    obtain ⟨ec, p⟩ := h3 e
    subst ec
    exact iteT (q _ _ (Gr.refl fh) p)
theorem andJT (h2 : a = true → ∀ U : Bool → Hp → Prop, (∀ F' H', Gr M F H F' H' → P F' H' → U c H') → ub σ H U) (h3 : a = false → c = false ∧ P F H) (fh : Same F H)
    (q : ∀ F' H', Gr M F H F' H' → P F' H' → U c H') : if a = true then ub σ H U else U false H := by
  cases e : a with
  | true => exact iteT (h2 e U q)
  | false =>
    obtain ⟨ec, p⟩ := h3 e
    subst ec
    exact iteF (q _ _ (Gr.refl fh) p)
theorem orJT (h2 : a = false → ∀ U : Bool → Hp → Prop, (∀ F' H', Gr M F H F' H' → P F' H' → U c H') → ub σ H U) (h3 : a = true → c = true ∧ P F H) (fh : Same F H)
    (q : ∀ F' H', Gr M F H F' H' → P F' H' → U c H') : if a = true then U true H else ub σ H U := by
  cases e : a with
  | false => exact iteF (h2 e U q)
  | true =>
    obtain ⟨ec, p⟩ := h3 e
    subst ec
    exact iteT (q _ _ (Gr.refl fh) p)
end
theorem qOv {a b : Bool} {H : Hp} {Q : VK} (h : a = false) (q : Q (.bl (a || b)) H) : Q (.bl b) H := by subst h; exact q
theorem qOb {a b : Bool} {H : Hp} {Q : Bool → Hp → Prop} (h : a = false) (q : Q (a || b) H) : Q b H := by subst h; exact q
theorem anF {a b : Bool} (h : a = false) : (a && b) = false := by rw [h]; rfl
theorem orTt {a b : Bool} (h : a = true) : (a || b) = true := by rw [h]; rfl
theorem ifTr {c : Bool} {A B : Prop} (h : c = true) (q : A) : if c = true then A else B := by rw [if_pos h]; exact q
theorem ifFr {c : Bool} {A B : Prop} (h : c = false) (q : B) : if c = true then A else B := by rw [if_neg (by rw [h]; decide)]; exact q

/-! ### None -/
class NN (α : Type) [Enc α] : Prop where
  ne : ∀ x : α, Enc.d x ≠ .none
instance : NN Int := ⟨fun _ => nofun⟩
instance : NN Bool := ⟨fun _ => nofun⟩
instance : NN Str := ⟨fun _ => nofun⟩
instance {α : Type} [Enc α] : NN (List α) := ⟨fun _ => nofun⟩
instance {α : Type} [Enc α] : NN (VT α) := ⟨fun _ => nofun⟩
instance {α β : Type} [Enc α] [Enc β] : NN (α × β) := ⟨fun _ => nofun⟩
instance {α β γ : Type} [Enc α] [Enc β] [Enc γ] : NN (T3 α β γ) := ⟨fun _ => nofun⟩
instance {α β γ δ : Type} [Enc α] [Enc β] [Enc γ] [Enc δ] : NN (T4 α β γ δ) := ⟨fun _ => nofun⟩
instance {α β γ δ ε : Type} [Enc α] [Enc β] [Enc γ] [Enc δ] [Enc ε] : NN (T5 α β γ δ ε) := ⟨fun _ => nofun⟩
theorem isN_eq {α : Type} [Enc α] [NN α] {K : PySem.W.Frag} {F : Hp} {v : V} {o : Option α} (r : R K F v o) : decide (v = .non) = o.isNone := by
  cases o with
  | none =>
    have e := R.non_v r
    subst e
    rfl
  | some x =>
    have r' : Rp K F v (Enc.d x) := r
    have h : v ≠ .non := fun e => by
      subst e
      have n := NN.ne x
      revert r' n
      generalize Enc.d x = d
      intro r' n
      cases r'
      exact n rfl
    exact decide_eq_false h

/-! ### walks over texts -/
theorem str_lt {x : Str} {i c : Nat} (h : x.cps[i]? = some c) : i < x.cps.size := (Array.getElem?_eq_some_iff.mp h).1
theorem for_str {z : Str} {g : TG} {tb : TS} {D : Ends} {σ : L2.St} {H : Hp} (Pv : Nat → L2.St → Hp → Prop) (h0 : Pv 0 σ H)
    (hs : ∀ i c σ H, z.cps[i]? = some c → Pv i σ H → g (.str (sgn c)) σ H fun σ2 H2 => tb { D with nx := Pv (i + 1), ct := Pv (i + 1), bk := D.nx } σ2 H2) (hd : ∀ σ H, Pv z.cps.size σ H → D.nx σ H) :
    ∃ W : Nat → Nat → L2.St → Hp → Prop, (∃ m, W 0 m σ H) ∧ ∀ i m σ H, W i m σ H →
      ((Its z).stop i H ∧ D.nx σ H) ∨ ((Its z).go i H ∧ ∃ N : L2.St → Hp → Prop, (∀ σ' H', N σ' H' → ∃ m', m' < m ∧ W (i + 1) m' σ' H') ∧ ∀ x H', (Its z).yld i H x H' → g x σ H' fun σ2 H2 => tb { D with nx := N, ct := N, bk := D.nx } σ2 H2) :=
  for_it walk_str Pv h0 (fun _ _ _ _ _ => trivial) (fun i x σ H H' _ p y => by
    obtain ⟨rfl, c, hc, rfl⟩ := y
    exact hs i c σ _ hc p) hd
theorem lc_str {z : Str} {g : TG} {tt : TT} {te : TE} {vs : List Nat} {σ : L2.St} {H1 : Hp} {D : Addr} {Qd : Hp → Prop} (Pv : Nat → Hp → Prop) (h0 : Pv 0 (upd H1 D (.lst [])))
    (hs : ∀ i c H, z.cps[i]? = some c → Pv i H → g (.str (sgn c)) (wipe σ vs) H fun σ2 H2 => wipe σ2 vs = wipe σ vs ∧ tt σ2 H2 fun b H3 =>
      if b = true then te σ2 H3 fun y H4 => ∃ acc, H4 D = some (.lst acc) ∧ acc.length < sizeLine ∧ Pv (i + 1) (upd H4 D (.lst (acc ++ [y]))) else Pv (i + 1) H3) (hd : ∀ H, Pv z.cps.size H → Qd H) :
    ∃ W : Nat → Nat → Hp → Prop, (∃ m, W 0 m (upd H1 D (.lst []))) ∧ ∀ i m H, W i m H →
      ((Its z).stop i H ∧ Qd H) ∨ ((Its z).go i H ∧ ∃ Nx : Hp → Prop, (∀ H', Nx H' → ∃ m', m' < m ∧ W (i + 1) m' H') ∧ ∀ x H', (Its z).yld i H x H' → g x (wipe σ vs) H' fun σ2 H2 => wipe σ2 vs = wipe σ vs ∧ tt σ2 H2 fun b H3 =>
        if b = true then te σ2 H3 fun y H4 => ∃ acc, H4 D = some (.lst acc) ∧ acc.length < sizeLine ∧ Nx (upd H4 D (.lst (acc ++ [y]))) else Nx H3) :=
  lc_it walk_str Pv h0 (fun _ _ _ _ => trivial) (fun i x H H' _ p y => by
    obtain ⟨rfl, c, hc, rfl⟩ := y
    exact hs i c _ hc p) hd

/-! ### ranges from nought, lists -/
def rangeO1 (hi : Int) : Option (List Int) := if (-(2 ^ 62) ≤ hi ∧ hi < 2 ^ 62) ∧ hi.toNat ≤ sizeLine then some (rangeL 0 hi.toNat) else none
theorem rangeO1_ok {hi : Int} {l : List Int} (h : rangeO1 hi = some l) : ((-(2 ^ 62) ≤ hi ∧ hi < 2 ^ 62) ∧ hi.toNat ≤ sizeLine) ∧ rangeL 0 hi.toNat = l := by
  unfold rangeO1 at h
  split at h
  · exact ⟨by assumption, Option.some.inj h⟩
  · cases h
def setL {α : Type} (xs : List α) (i : Int) (x : α) : Option (List α) := (ixN xs.length i).map fun j => xs.set j x
theorem setL_ok {α : Type} {xs r : List α} {i : Int} {x : α} (h : setL xs i x = some r) : ∃ j, ixN xs.length i = some j ∧ xs.set j x = r := by
  unfold setL at h
  cases e : ixN xs.length i with
  | none => rw [e] at h; cases h
  | some j =>
    rw [e] at h
    exact ⟨j, rfl, Option.some.inj h⟩
/-- sorted whole numbers -/
def sortI (xs : List Int) : List Int := xs.mergeSort fun a b => decide (a ≤ b)
theorem sortI_perm (xs : List Int) : (sortI xs).Perm xs := List.mergeSort_perm _ _
theorem sortI_sorted (xs : List Int) : (sortI xs).Pairwise (· ≤ ·) := by
  have h := List.pairwise_mergeSort (le := fun a b : Int => decide (a ≤ b)) (fun a b c h1 h2 => decide_eq_true (Int.le_trans (of_decide_eq_true h1) (of_decide_eq_true h2)))
    (fun a b => by
      rcases Int.le_total a b with h | h
      · rw [decide_eq_true h]; rfl
      · rw [decide_eq_true h, Bool.or_true]) xs
  exact h.imp fun h => of_decide_eq_true h
theorem sortI_len (xs : List Int) : (sortI xs).length = xs.length := (sortI_perm xs).length_eq
theorem sorted_uniq : ∀ {xs ys : List Int}, xs.Perm ys → xs.Pairwise (· ≤ ·) → ys.Pairwise (· ≤ ·) → xs = ys
  | xs, ys, h, h1, h2 => h.eq_of_pairwise (le := (· ≤ ·)) (fun a b _ _ h3 h4 => Int.le_antisymm h3 h4) h1 h2
theorem sortI_uniq {ns ys : List Int} (h : ys.Perm ns) (h2 : ys.Pairwise (· ≤ ·)) : sortI ns = ys :=
  sorted_uniq ((sortI_perm ns).trans h.symm) (sortI_sorted ns) h2

/-! ### texts: what is stripped, joined -/
theorem GS.sub {x y : Str} (g : GS x) (h : ∀ c ∈ tl y, c ∈ tl x) (hl : (tl y).length ≤ (tl x).length) : GS y := GS.of (Nat.le_trans hl g.tll) fun c hc => g.mem c (h c hc)
theorem GS.join {sep r : Str} {ys : List Str} (gs : GS sep) (gy : ∀ y ∈ ys, GS y) (h : joinS sep ys = some r) : GS r := by
  obtain ⟨h1, rfl⟩ := joinS_ok h
  refine GS.of ?_ fun c hc => ?_
  · rw [← len_tl]
    have e : Txt.join sep ys = Str.join sep ys := by unfold Txt.join; exact StrLaws.glued_eq_join sep ys
    rw [e]
    refine Nat.le_trans (StrLaws.join_length_le sep ys) ?_
    rw [sizeLine_eq]
    exact h1
  · rw [tl_joinS] at hc
    have mem : ∀ (l : List (List Nat)), c ∈ joinL (tl sep) l → c ∈ tl sep ∨ ∃ p ∈ l, c ∈ p := by
      intro l
      induction l with
      | nil => intro h; cases h
      | cons p r ih =>
        cases r with
        | nil => intro h; exact .inr ⟨p, List.mem_singleton.mpr rfl, h⟩
        | cons q r =>
          intro h
          rcases List.mem_append.mp (show c ∈ p ++ (tl sep ++ joinL (tl sep) (q :: r)) from h) with h | h
          · exact .inr ⟨p, List.mem_cons_self .., h⟩
          · rcases List.mem_append.mp h with h | h
            · exact .inl h
            · rcases ih h with h | ⟨p', hp, h⟩
              · exact .inl h
              · exact .inr ⟨p', List.mem_cons_of_mem _ hp, h⟩
    rcases mem _ hc with h | ⟨p, hp, h⟩
    · exact gs.mem c h
    · obtain ⟨y, hy, rfl⟩ := List.mem_map.mp hp
      exact (gy y hy).mem c h
theorem GS.strip {x : Str} (g : GS x) (y : Str) : GS (Txt.stripChars x y) := by
  unfold Txt.stripChars Txt.stripBy
  split
  · exact g
  · have e : ∀ i j, tl (Builtin.Str.strSub x i j) = ((tl x).take j).drop i := fun i j => by
      show (x.cps.extract i j).toList = _
      rw [List.drop_take]
      simp [tl]
    refine g.sub (fun c hc => ?_) ?_
    · unfold stripped at hc
      rw [e] at hc
      exact List.mem_of_mem_take (List.mem_of_mem_drop hc)
    · unfold stripped
      rw [e, List.length_drop, List.length_take]
      omega
end G
/-! My base, part 6: defs by data. -/
namespace G
open PySem PySem.Spec PyProof.Rows L2 TL
abbrev FnP (K : PySem.W.Frag) (x : Str) (st : Stmt) (f : Addr) (fd : FuncData) : Prop := FunD K x x (defArgs st) (defBody st) (defScope st) [] [] f fd
section
variable {P : Program} {w : World} {K : PySem.W.Frag} {mg : Str → Option Value} {base : Heap} {x qual : Str} {params : Arguments} {body : List Stmt} {scope : Scope} {f : Addr} {fd : FuncData}
theorem fd_ok {N ps : List Str} {k : Nat} {sp : Sp} (F : FunD K x qual params body scope [] [] f fd) (S : FnScope N ps scope) (len : ∀ vs H Q E, sp vs H Q E → vs.length = ps.length)
    (hbody : ∀ (cdv : Value) (A : Around) (outer : List Env) (s : Shared) (H : Hp) (vs : List V) (Q : VK) (E : XK), Room k (A.deeper (envOfC qual scope s.heap.objs.size f cdv)) → sp vs H Q E →
      ∃ t, PSs (cxOf CX0 P w K mg base N qual scope f cdv A outer s H E).nox body t ∧ t { nx := fun _ H' => Q .non H', rt := Q } (start N vs) H) : FnOk P w K mg base CX0 (k + 1) f fd ps sp :=
  FunD.ok F S len fun cdv A outer s H vs Q E hr hsp =>
    let ⟨t, h, q⟩ := hbody cdv A outer s H vs Q E hr hsp
    ⟨t, h.nox, q⟩
theorem fd_plain (F : FunD K x qual params body scope [] [] f fd) : ∃ kV doc pm an cdv ct, fd = PySem.W.fnOf x qual params body scope .none kV doc pm an cdv ct := by
  obtain ⟨oc, od, dV, kV, doc, pm, an, cdv, ct, osl, rfl, lk, hcd, hD, hK⟩ := F.ex
  rcases hD with ⟨_, rfl⟩ | ⟨e, _⟩
  · exact ⟨kV, doc, pm, an, cdv, ct, rfl⟩
  · exact absurd rfl e
end
end G
/-! My base, part 7: a text turned round. -/
namespace G
open PySem PySem.Spec PyProof.Rows L2 TL
def revS (x : Str) : Str := ⟨(tl x).reverse.toArray⟩
theorem tl_revS (x : Str) : tl (revS x) = (tl x).reverse := by unfold revS tl; simp
theorem revS_len (x : Str) : (revS x).length = x.length := by rw [len_tl, tl_revS, List.length_reverse, ← len_tl]
theorem GS.rev {x : Str} (g : GS x) : GS (revS x) := g.sub (fun c hc => by rw [tl_revS] at hc; exact List.mem_reverse.mp hc) (by rw [tl_revS, List.length_reverse]; exact Nat.le_refl _)
theorem rev_pick (z : Str) : (⟨((Builtin.Str.strSliceIndices none none (-1) z.length).filterMap (z.cps[·]?)).toArray⟩ : Str) = revS z := by
  have h := step_rev_list z default
  unfold Txt.sliceBy slicePicked at h
  rw [if_neg (by intro h; exact absurd (Bool.and_eq_true_iff.mp h).1 (by decide))] at h
  unfold revS
  have e2 : (tl z).reverse = (List.range z.length).map fun k => z.cps.getD (z.length - 1 - k) 0 := by
    refine List.ext_getElem (by rw [List.length_reverse, List.length_map, List.length_range, ← len_tl]) fun i h1 h2 => ?_
    rw [List.getElem_reverse, List.getElem_map, List.getElem_range]
    have hi : i < z.length := by rw [List.length_reverse, ← len_tl] at h1; exact h1
    have hz : z.cps.size = z.length := rfl
    simp only [tl, Array.getElem_toList, Array.length_toList]
    rw [Array.getD, dif_pos (show z.length - 1 - i < z.cps.size by omega)]
    rfl
  rw [e2, ← h]
  rfl
def tRevS (te : TE) : TE := fun σ H Q => te σ H fun x H1 => ∃ z, x = .str z ∧ z.length ≤ sizeLine ∧ Q (.str (revS z)) H1
theorem pe_revS {X : Cx} {e : Expr} {te : TE} {k : Nat} {p1 p2 p3 pos : Pos} (he : PE X e te) : PE X (.Subscript e (.Slice none none (some (.UnaryOp .USub (.Constant (.int 1) k p1) p2)) p3) pos) (tRevS te) := by
  refine ⟨fun pins s σ H Q I h => ?_⟩
  refine Subscript_ (thn (he.run pins s σ H _ I h) fun v s1 ⟨x, H1, I1, r1, q1⟩ => ?_)
  obtain ⟨z, ex, hz, q⟩ := q1
  subst ex
  obtain ⟨t, rfl⟩ := r1
  have hst : PO X (some (.UnaryOp .USub (.Constant (.int 1) k p1) p2)) (tPart (tUn (rU fun i => .int (-i)) (tC (.int 1)))) := po_some (pe_un un_neg pe_int)
  refine wpAny_Slice (thn (po_none.run pins s1 σ H1 (fun o H2 => o = none ∧ H2 = H1) I1 ⟨rfl, rfl⟩) fun vl s2 ⟨l, H2, I2, pl, el, e2⟩ => ?_)
  subst el e2
  refine thn (po_none.run pins s2 σ H2 (fun o H3 => o = none ∧ H3 = H2) I2 ⟨rfl, rfl⟩) fun vu s3 ⟨u, H3, I3, pu, eu, e3⟩ => ?_
  subst eu e3
  refine thn (hst.run pins s3 σ H3 (fun o H4 => o = some (-1) ∧ H4 = H3) I3 ⟨1, rfl, -1, rfl, rfl, rfl⟩) fun vs s4 ⟨o, H4, I4, ps, eo, e4⟩ => ?_
  subst eo e4
  have I5 : Inv X pins σ H4 { s4 with heap := s4.heap.push { cls := .type "slice", data := .fields #[vl, vu, vs] } } := I4.kept (t' := s4.toks) fun b ob q => Heap.get?_push_of_some _ q
  cases pl
  cases pu
  cases ps with | int _ t2 => ?_
  show wpAny (model X.prog X.w) X.A (subscriptTail e (.Slice none none (some (.UnaryOp .USub (.Constant (.int 1) k p1) p2)) p3) (.str z t) (.ref s4.heap.objs.size)) (EP X pins σ Q) X.xe { s4 with heap := s4.heap.push { cls := .type "slice", data := .fields #[.none, .none, .int (-1) t2] } }
  refine tail_any (ops := [.str z t, .ref s4.heap.objs.size]) (typeIs_str _ _ _) F.slot_str_getitem.lookup ?_ (by with_unfolding_all rfl)
  obtain ⟨os, hos, hcs, hds⟩ := Heap.IsSliceOf.new s4.heap Value.none Value.none (Value.int (-1) t2)
  refine wpAny_getItem_str_slice (l := none) (u := none) (st := some (-1, t2)) ⟨os, hos, hcs, hds⟩ rfl ?_
  have e1 : sliceMade z t none none (some (-1, t2)) = .str (revS z) := by
    unfold sliceMade
    rw [if_neg (by intro h; exact absurd (show ((-1 : Int) == 1) = true from (Bool.and_eq_true_iff.mp h).1) (by decide))]
    exact congrArg Made.str (rev_pick z)
  rw [e1]
  have hl : (revS z).length ≤ sizeLine := by rw [revS_len]; exact hz
  exact ⟨hl, .str _, _, I5.tok _, ⟨_, rfl⟩, q⟩
end G
/-! My base, part 8: which type a thing is of; alike. -/
namespace G
open PySem PySem.Spec PyProof.Rows L2 TL
def tyD : PyData → String
  | .none => "NoneType"
  | .bool _ => "bool"
  | .int _ => "int"
  | .str _ => "str"
  | .list _ => "list"
  | .tuple _ => "tuple"
  | .dict _ => "dict"
def isSq (d : PyData) : Bool := tyD d == "list" || tyD d == "tuple"
section
variable {K : PySem.W.Frag} {F H : Hp} {v : V} {d : PyData} {a : Addr} {xs : List V}
theorem SqL.ty (h : SqL K H a xs) : TyX K H (.ref a) (.type "list") := by
  rcases h with (h | ⟨o, h⟩) | ⟨o, its, n, e, c, _⟩
  · exact .base (.lst h)
  · exact .base (.frz h)
  · exact .kList e c
theorem SqT.ty (h : SqT K H a xs) : TyX K H (.ref a) (.type "tuple") := by
  rcases h with (h | ⟨o, h⟩) | ⟨o, its, n, e, c, _⟩
  · exact .base (.tup h)
  · exact .fTuple h
  · exact .kTuple e c
theorem Rp.ty (h : Rp K H v d) : TyX K H v (.type (tyD d)) := by
  cases h with
  | non => exact .base .non
  | bl b => exact .base (.bl b)
  | int i => exact .base (.int i)
  | str x _ => exact .base (.str x)
  | lst hs _ _ => exact SqL.ty hs
  | tup hs _ _ => exact SqT.ty hs
/-- the six kinds -/
def Knd (s : String) : Prop := s = "NoneType" ∨ s = "bool" ∨ s = "int" ∨ s = "str" ∨ s = "list" ∨ s = "tuple"
theorem Rp.knd (h : Rp K H v d) : Knd (tyD d) := by
  cases h with
  | non => exact .inl rfl
  | bl _ => exact .inr (.inl rfl)
  | int _ => exact .inr (.inr (.inl rfl))
  | str _ _ => exact .inr (.inr (.inr (.inl rfl)))
  | lst _ _ _ => exact .inr (.inr (.inr (.inr (.inl rfl))))
  | tup _ _ _ => exact .inr (.inr (.inr (.inr (.inr rfl))))
theorem kit_two (s : String) (b c : Bool) (h1 : kitB s "list" = some b) (h2 : kitB s "tuple" = some c) : PySem.W.kitAny K (.type s) [.type "list", .type "tuple"] = some (b || c) := by
  refine kitAny_cons (b := b) (kit_ty h1) (fun hb => ?_) (fun hb => by rw [hb]; rfl)
  refine kitAny_cons (b := c) (kit_ty h2) (fun hc => ?_) (fun hc => by rw [hc, Bool.or_true])
  rw [hb, hc]
  exact kitAny_nil
theorem kit_lt {s : String} (h : Knd s) : PySem.W.kitAny K (.type s) [.type "list", .type "tuple"] = some (s == "list" || s == "tuple") := by
  rcases h with rfl | rfl | rfl | rfl | rfl | rfl <;> exact kit_two _ _ _ (by decide +kernel) (by decide +kernel)
theorem kit_one {s : String} (h : Knd s) (t : String) (ht : t = "list" ∨ t = "bool" ∨ t = "str") : PySem.W.kitOne K (.type s) (.type t) = some (s == t) := by
  rcases ht with rfl | rfl | rfl <;> rcases h with rfl | rfl | rfl | rfl | rfl | rfl <;> exact kit_ty (by decide +kernel)
theorem kit_int {s : String} (h : Knd s) : PySem.W.kitOne K (.type s) (.type "int") = some (s == "int" || s == "bool") := by
  rcases h with rfl | rfl | rfl | rfl | rfl | rfl <;> exact kit_ty (by decide +kernel)
end
/-- no value of the data is deeper than n -/
theorem depth_list {n : Nat} {ds : List PyData} (h : PyData.depthAll ds + 1 ≤ n + 1) {d : PyData} (hd : d ∈ ds) : d.depth ≤ n := by
  have : ∀ (l : List PyData), d ∈ l → d.depth ≤ PyData.depthAll l := by
    intro l
    induction l with
    | nil => intro h; cases h
    | cons x l ih =>
      intro h
      simp only [PyData.depthAll]
      rcases List.mem_cons.mp h with rfl | h
      · omega
      · have := ih h
        omega
  have := this ds hd
  omega
def sp_alike (n : Nat) (K : PySem.W.Frag) : Sp := fun vs H Q _ => ∃ (v1 v2 : V) (d : PyData), vs = [v1, v2] ∧ Rp K H v1 d ∧ Rp K H v2 d ∧ d.depth ≤ n ∧ (∀ F' H', Gr M0 H H F' H' → Q (.bl true) H')
theorem al_sc {K : PySem.W.Frag} {H : Hp} {v1 v2 : V} {d : PyData} (r1 : Rp K H v1 d) (r2 : Rp K H v2 d) (hc : (tyD d == "list" || tyD d == "tuple") = false) : v1 = v2 ∧ scal v1 v2 = true := by
  cases r1 with
  | non => cases r2; exact ⟨rfl, rfl⟩
  | bl b => cases r2; exact ⟨rfl, rfl⟩
  | int i => cases r2; exact ⟨rfl, rfl⟩
  | str x _ => cases r2; exact ⟨rfl, rfl⟩
  | lst h1 h2 h3 => exact absurd hc (by simp [tyD])
  | tup h1 h2 h3 => exact absurd hc (by simp [tyD])
theorem ix_go {K : PySem.W.Frag} {H : Hp} {p : Addr} {xs : List V} {i : Nat} {v : V} {Q : VK} (h : SqL K H p xs ∨ SqT K H p xs) (e : xs[i]? = some v) (q : Q v H) : rIx K (.ref p) (.int (0 + (i : Nat))) H Q := by
  have ha : atI xs (0 + (i : Nat)) = some v := by rw [Int.zero_add]; exact atI_nat e
  rcases h with h | h
  · exact .inl ⟨p, xs, _, v, rfl, rfl, h, ha, q⟩
  · exact .inr (.inl ⟨p, xs, _, v, rfl, rfl, h, ha, q⟩)
theorem sq_up {K : PySem.W.Frag} {H H' : Hp} {p : Addr} {xs : List V} (h : SqL K H p xs ∨ SqT K H p xs) (e : Same H H') : SqL K H' p xs ∨ SqT K H' p xs := by
  rcases h with h | h
  · exact .inl (e.seq h)
  · exact .inr (SqT_mono e h)
def spA : Nat → PySem.W.Frag → Sp
  | 0, _ => fun _ _ _ _ => False
  | n + 1, K => sp_alike n K
theorem al_sq {K : PySem.W.Frag} {H : Hp} {v1 v2 : V} {d : PyData} {n : Nat} (r1 : Rp K H v1 d) (r2 : Rp K H v2 d) (hc : (tyD d == "list" || tyD d == "tuple") = true) (hd : d.depth ≤ n) :
    ∃ a1 ws1 a2 ws2 ds m, v1 = .ref a1 ∧ v2 = .ref a2 ∧ (SqL K H a1 ws1 ∨ SqT K H a1 ws1) ∧ (SqL K H a2 ws2 ∨ SqT K H a2 ws2) ∧ ws1.length ≤ sizeLine ∧ ws2.length ≤ sizeLine ∧ RpA K H ws1 ds ∧ RpA K H ws2 ds ∧ n = m + 1 ∧ ∀ d ∈ ds, d.depth ≤ m := by
  cases r1 with
  | non => exact absurd hc (by decide)
  | bl b => exact absurd hc (by simp [tyD])
  | int i => exact absurd hc (by simp [tyD])
  | str x _ => exact absurd hc (by simp [tyD])
  | lst h1 h2 h3 =>
    cases r2 with
    | lst k1 k2 k3 =>
      cases n with
      | zero => exact absurd hd (Nat.not_succ_le_zero _)
      | succ m => exact ⟨_, _, _, _, _, m, rfl, rfl, .inl h1, .inl k1, h2, k2, h3, k3, rfl, fun d hd2 => depth_list hd hd2⟩
  | tup h1 h2 h3 =>
    cases r2 with
    | tup k1 k2 k3 =>
      cases n with
      | zero => exact absurd hd (Nat.not_succ_le_zero _)
      | succ m => exact ⟨_, _, _, _, _, m, rfl, rfl, .inr h1, .inr k1, h2, k2, h3, k3, rfl, fun d hd2 => depth_list hd hd2⟩
theorem R.of_eq {α : Type} [Enc α] {K : PySem.W.Frag} {F : Hp} {v : V} {x y : α} (h : x = y) (r : R K F v y) : R K F v x := by rw [h]; exact r
theorem retQ {e : Bool} {Q : VK} {H : Hp} (h : e = true) (q : Q (.bl true) H) : Q (.bl e) H := by rw [h]; exact q
def m_l_alike {α : Type} [DecidableEq α] (x y : α) : Option Bool := if x = y then some true else none
theorem alike_ok {α : Type} [DecidableEq α] {x y : α} {r : Bool} (h : m_l_alike x y = some r) : x = y ∧ true = r := by
  unfold m_l_alike at h
  split at h
  · exact ⟨by assumption, Option.some.inj h⟩
  · cases h
theorem op_powW {X : Cx} : OpR X (binaryOp .Pow) (rI (fun i j => 0 ≤ j ∧ (Builtin.Int.intBits i : Int) * j ≤ 2 ^ 27) fun i j => .int (i ^ j.toNat)) := opI fun _ _ _ _ _ _ _ hc q => pow_int hc.1 hc.2 q
end G
/-! My base, part 9: parts of a text. -/
namespace G
open PySem PySem.Spec PyProof.Rows L2 TL
theorem GS.sub_ {x : Str} (g : GS x) (i j : Nat) : GS (Builtin.Str.strSub x i j) := by
  have e : tl (Builtin.Str.strSub x i j) = ((tl x).take j).drop i := by
    show (x.cps.extract i j).toList = _
    rw [List.drop_take]
    simp [tl]
  refine g.sub (fun c hc => ?_) ?_
  · rw [e] at hc
    exact List.mem_of_mem_take (List.mem_of_mem_drop hc)
  · rw [e, List.length_drop, List.length_take]
    omega
theorem GS.empty : GS Str.empty := ⟨Nat.zero_le _, by decide +kernel⟩
theorem GS.part {x y : Str} (gx : GS x) (gy : GS y) : GS (Txt.partition x y).1 ∧ GS (Txt.partition x y).2.1 ∧ GS (Txt.partition x y).2.2 := by
  unfold Txt.partition
  split
  · exact ⟨gx.sub_ _ _, gy, gx.sub_ _ _⟩
  · exact ⟨gx, .empty, .empty⟩
def partS (x y : Str) : T3 Str Str Str := ⟨(Txt.partition x y).1, (Txt.partition x y).2.1, (Txt.partition x y).2.2⟩
theorem lpgo {S R T : Type} {s : S} {f : S → Option T} {g : R → Option T} {t : T} (h : lpK (.go s) f g = some t) : f s = some t := h
end G
/-! My base, part 10: sorted(set(a list of whole numbers)). -/
namespace G
open PySem PySem.Spec PyProof.Rows L2 TL
section
variable {P : Program} {w : World} {A : Around} {E : Value → Shared → Prop} {s : Shared}
/-- the empty set, as it is laid -/
abbrev newS (w : World) : Obj := { cls := .type "set", dict := none, data := .set #[] 0 (.fresh 0 0 (!w.params.followText "set-order")) }
theorem set_of_list {l : Addr} {xs : Array Value} (ks : List Int) {Q : Value → Shared → Prop} (hh : A.handled = none) (hl : s.heap.IsList l xs) (hk : IntsAre xs.toList ks) (hb : ks.length + 1 < scanBound)
    (hq : ∀ (h' : Heap) (tk c : Nat), SetR w h' s.heap.objs.size (fun j => decide (j ∈ ks)) c → c ≤ ks.length → (∀ b o, s.heap.get? b = some o → h'.get? b = some o) → Q (.ref s.heap.objs.size) { s with heap := h', toks := tk }) :
    wpAny (model P w) A (call (.type "set") [.ref l]) Q E s := by
  have hsz : xs.size = ks.length := (Array.length_toList (xs := xs)).symm.trans (IntsAre.length hk)
  obtain ⟨c0, tl0, hmro⟩ := F.called_set.mro
  have hmade := F.called_set.made; have hsub := F.called_set.sub
  refine wpAny_call (codeAny_of_tree ?_); show wpAny _ _ (callAny (.type "set") _) _ _ _
  refine wpAny_pure ⟨Code.quiet_builtin _ (by decide +kernel), codeAny_builtin F.entry_type_call ?_⟩; rw [Around.under_plain (weight_type_call_type "set" [.ref l] []) rfl]
  have n1 := F.called_set.notType; have n2 := F.called_set.canCreate; have n3 := F.typeCall_set_1 (.ref l)
  repeat (any_goals (first | assumption | wp_step))
  refine codeAny_mono (code_set_led1 (A := A.in1) (.ref l) (E := E) (Q₁ := fun ob s₁ => ob = .ref s.heap.objs.size ∧ s₁ = { s with heap := s.heap.push (newS w) }) ⟨rfl, rfl⟩) fun r s₁ hr => ?_
  cases r with
  | error e => exact hr
  | ok fl =>
    cases fl with
    | next => exact hr.elim
    | brk => exact hr.elim
    | cont => exact hr.elim
    | ret ob =>
      obtain ⟨rfl, rfl⟩ := hr
      have hS : (s.heap.push (newS w)).get? s.heap.objs.size = some (newS w) := Heap.get?_push_size _ rfl
      have hT : Shared.TypeIs { s with heap := s.heap.push (newS w) } (.ref s.heap.objs.size) "set" := ⟨_, hS, rfl⟩
      have hli := F.called_set.init.lookup; have hbi := F.called_set.init.bind (.ref s.heap.objs.size)
      repeat (any_goals (first | assumption | wp_step))
      refine codeAny_mono (codeAny_call_builtin (R := wants (fun rr s₂ => rr = .none ∧ ∃ h' tk c, s₂ = { s with heap := h', toks := tk } ∧ SetR w h' s.heap.objs.size (fun j => decide (j ∈ ks)) c ∧ c ≤ ks.length ∧ (∀ b o, s.heap.get? b = some o → h'.get? b = some o)) E)
        F.called_set.init.plain F.entry_set_init (check_set_init_1 hT ?_)) fun r2 s2 hr2 => ?_
      · obtain ⟨⟨lc, ld, lt, ls⟩, hol, hcl, nl, hdl⟩ := hl
        simp only at hcl hdl; subst hcl; subst hdl
        have hol' : (s.heap.push (newS w)).get? l = some { cls := .type "list", dict := ld, data := .seq xs nl, slots := ls } := Heap.get?_push_of_some _ hol
        have b1 := F.sub_list_set; have b2 := F.sub_list_frozenset
        have b3 : (Value.type "list" == Value.type "dict") = false := by decide
        have hl1 : (s.heap.push (newS w)).IsList l xs := ⟨_, hol', rfl, nl, rfl⟩
        unfold Builtin.«set.__init__» noKeywords Builtin.Frozenset.updateFrom; generalize hPI : pyIter = PI
        wp_walk
        subst hPI; refine wpAny_pyIter_list hl1 ?_
        refine wpAny_bind (wpAny_runValue ?_); have lS : l < s.heap.objs.size := Heap.lt_size hol
        have hh3 : A.in1.in1.in1.handled = none := by simp [hh]
        have lI : l ≠ (s.heap.push (newS w)).objs.size := by rw [Heap.size_push]; exact Nat.ne_of_lt (Nat.lt_succ_of_lt lS)
        have sI : s.heap.objs.size ∉ [(s.heap.push (newS w)).objs.size, l] := by
          rw [Heap.size_push]
          intro z
          rcases List.mem_cons.mp z with z | z
          · exact absurd z (Nat.ne_of_lt (Nat.lt_succ_self _))
          · exact absurd (List.mem_singleton.mp z) (Nat.ne_of_gt lS)
        have each : ∀ (i : Nat) (v : Value), xs[i]? = some v → ∃ k t, ks[i]? = some k ∧ v = .int k t := fun i v hv => by
          have hi : i < ks.length := by rw [← hsz]; exact (Array.getElem?_eq_some_iff.mp hv).1
          obtain ⟨t, e⟩ := PyProof.Rows.IntsAre.int_at hk i v (by rw [Array.getElem?_toList]; exact hv)
          exact ⟨ks[i], t, List.getElem?_eq_getElem hi, by rw [e, List.getD_eq_getElem?_getD, List.getElem?_eq_getElem hi]; rfl⟩
        refine set_update_ints ((Walks.list hh3 _ l lI xs).toS) s.heap.objs.size sI ks hsz hb each (xs.size - 0) 0 _ (by omega) (Nat.zero_le _) ⟨⟨_, Heap.get?_push_size _ rfl, rfl, rfl⟩, (hl1.push _)⟩ ⟨0, Nat.le_refl 0, setR_new_at (Heap.get?_push_of_some _ hS)⟩ (fun s' c' hm hc' hS' => ?_)
        obtain ⟨h', g2, d', tk', os'⟩ := s'
        have eg : g2 = s.gens := hm.gens; have ed : d' = s.drawn := hm.drawn
        have eo : os' = s.os := hm.os; subst eg; subst ed; subst eo
        show wpAny _ _ _ _ _ _; refine wpAny_pure ?_
        show wpAny _ _ (ret Value.none) _ _ _; rw [hsz] at hc'
        refine wpAny_pure ⟨rfl, h', tk', c', rfl, hS', hc', fun b o e => ?_⟩
        have m0 : b < s.heap.objs.size := Heap.lt_size e
        refine hm.heap b o (fun z => ?_) (Heap.get?_push_of_some _ (Heap.get?_push_of_some _ e))
        rcases List.mem_cons.mp z with z | z
        · exact absurd z (Nat.ne_of_lt m0)
        · have z := List.mem_singleton.mp z
          rw [Heap.size_push] at z
          exact absurd z (Nat.ne_of_lt (Nat.lt_succ_of_lt m0))
      · cases r2 with
        | error e => exact hr2
        | ok fl2 =>
          cases fl2 with
          | next => exact hr2.elim
          | brk => exact hr2.elim
          | cont => exact hr2.elim
          | ret rr =>
            obtain ⟨rfl, h', tk, c, rfl, hS', hc', hk'⟩ := hr2
            repeat (any_goals (first | assumption | wp_step))
            exact hq _ _ _ hS' hc' hk'
end
end G
/-! My base, part 11: the set sorted. -/
namespace G
open PySem PySem.Spec PyProof.Rows L2 TL
section
variable {P : Program} {w : World} {A : Around} {E : Value → Shared → Prop} {s : Shared} {a : Addr}
theorem set_sorted {S : Int → Bool} {n : Nat} {Q : Value → Shared → Prop} (R : SetR w s.heap a S n) (hh : A.handled = none)
    (hq : ∀ s' p (out : List Value) (c : Nat) (ns : List Int), (∀ b o, s.heap.get? b = some o → s'.heap.get? b = some o) → s'.gens = s.gens → s'.os = s.os → s.heap.objs.size ≤ p →
      s'.heap.get? p = some (seqObj "list" out.toArray c) → IntsAre out ns → ns.Pairwise (· < ·) → (∀ k, k ∈ ns ↔ S k = true) → ns.length ≤ n → Q (.ref p) s') :
    wpAny (model P w) A (call (.builtin "sorted") [.ref a]) Q E s := by
  obtain ⟨o, es, ep, t, ho, hex, hd, good, nd, hm, hb, hf, hn, hr, hl⟩ := R
  refine Calls.call_function_entry kind_sorted plain_sorted entry_sorted (args_sorted1 _) ?_; unfold Builtin.«sorted»
  refine wpAny_bind (m := checkCount "sorted" 1 1 _) (wpAny_pure ?_)
  refine wpAny_bind (collect_set (A := A.in1) hh ⟨o, ho, hex.1, hd⟩ hf hb hr hl fun s1 vs k1 hz g1 o1 pm => ?_)
  have hvl : vs.length = n := by rw [pm.length_eq, List.length_map, Array.length_toList]; exact hn
  have hI : IntsAre vs (vs.map Builtin.Re.reRawOf) := ints_of vs fun v hv => by
    obtain ⟨e, he, q⟩ := List.mem_map.mp (pm.mem_iff.mp hv)
    obtain ⟨k, tk, h1, _⟩ := good e he
    exact ⟨k, tk, q ▸ h1⟩
  have pk : (vs.map Builtin.Re.reRawOf).Perm (es.toList.map keyOf) := by
    have q := pm.map Builtin.Re.reRawOf
    rwa [List.map_map] at q
  have hsl : vs.length ≤ sizeLine := by
    rw [hvl, ← hn, sizeLine_eq]
    have := hb
    unfold scanBound at this
    omega
  refine wpAny_bind (wpAny_newList ?_ hsl)
  have hoL : (s1.heap.push (seqObj "list" vs.toArray 0)).get? s1.heap.objs.size = some (seqObj "list" vs.toArray 0) := Heap.get?_push_size _ rfl
  refine wpAny_bind (wpAny_holding (wpAny_call_entry slot_list_sort ⟨_, hoL, rfl⟩ entry_list_sort (SrtO.list_sort_ord SrtO.swo_int hoL hsl (fun h2 => SrtO.ints_sortable hI h2) fun out h1 h2 => ⟨_, rfl, ?_⟩) (args_list_sort _)))
  obtain ⟨z1, z2, z3⟩ := SrtO.ints_out hI h1 h2
  obtain ⟨c, hc⟩ := sortedHeap_at (vs := vs) (out := out.toArray) hoL
  have pn := z2.trans pk
  refine wpAny_pure ⟨_, rfl, hq _ s1.heap.objs.size out c _ (fun b u e => ?_) g1 o1 hz hc z1 (lt_of_le_nodup _ z3 (pn.nodup_iff.mpr nd)) (fun k => by rw [pn.mem_iff, ← hm k]) (by rw [pn.length_eq, List.length_map, Array.length_toList, hn]; exact Nat.le_refl _)⟩
  have q := k1 b u e
  have hlt := Heap.lt_size q
  show (sortedHeap (s1.heap.push (seqObj "list" vs.toArray 0)) s1.heap.objs.size vs out.toArray).get? b = some u
  rw [sortedHeap_old (Nat.ne_of_lt hlt) (by rw [Heap.size_push]; exact Nat.lt_succ_of_lt hlt)]
  exact Heap.get?_push_of_some _ q
end
end G
/-! My base, part 12: the rule. -/
namespace G
open PySem PySem.Spec PyProof.Rows L2 TL
section
variable {X : Cx}
/-- sorted(set(a list of whole numbers)) -/
def tSSet (K : PySem.W.Frag) (ta : TE) : TE := fun σ H Q => ta σ H fun x H1 => ∃ (l : Addr) (ks : List Int), x = V.ref l ∧ SqL K H1 l (ks.map V.int) ∧ ks.length < 4000 ∧
  ∀ (ns : List Int) (p : Addr), ns.Pairwise (· < ·) → (∀ k, k ∈ ns ↔ k ∈ ks) → ns.length ≤ ks.length → H1 p = none → Q (.ref p) (upd H1 p (.lst (ns.map V.int)))
theorem pe_sset {a : Expr} {ta : TE} {p p2 q pos : Pos} (hc : X.calm = true) (hg : Gl X "sorted") (hm : X.mg "sorted" = none) (hg2 : Gl X "set") (hm2 : X.mg "set" = none) (ha : PE X a ta)
    (na : starEach [a] X.env = (false, eval a X.env) :: starEach [] X.env := by rfl) : PE X (.Call (.Name "sorted" p) [.Call (.Name "set" p2) [a] [] q] [] pos) (tSSet X.K ta) := by
  refine ⟨fun pins s σ H Q I h => ?_⟩
  refine Call_ (ld_blt I hg hm (u := .builtin "sorted") (by decide +kernel) ?_)
  refine PyProof.Rows.callWith_builtin1 (PyProof.Rows.args_cons ?_ rfl) rfl rfl
  refine Call_ (ld_blt I hg2 hm2 PyProof.Rows.boot_set ?_)
  refine PyProof.Rows.callWith_type1 (PyProof.Rows.args_cons (thn (ha.run pins s σ H _ I h) fun v s1 ⟨x, H1, I1, r1, q1⟩ => PyProof.Rows.args_nil ?_) na) na rfl
  obtain ⟨l, ks, rfl, hq, h4, q1⟩ := q1
  cases r1
  obtain ⟨its, r, pl, hz⟩ := I1.list hq
  refine set_of_list ks (I1.ok.hd hc) pl.isList (by simpa using r.ints) (by unfold scanBound; omega) fun h' tk c hS hck hk => ?_
  refine PyProof.Rows.args_nil ?_
  have I2 : Inv X pins σ H1 { s1 with heap := h', toks := tk } := I1.kept fun b o e => hk b o e
  refine set_sorted hS (I2.ok.hd hc) fun s' p out c2 ns k g o hp hgt hi hs hmem hlen => ?_
  have hlen2 : ns.length ≤ ks.length := Nat.le_trans hlen hck
  have hlz : (ns.map V.int).length ≤ sizeLine := by rw [List.length_map, sizeLine_eq]; omega
  have hn : H1 p = none := I2.hok.fresh hp
  have J : Inv X pins σ (upd H1 p (.lst (ns.map V.int))) s' := Inv.call' (ch := []) I2 o (Un.laid k hp hn) (I2.hok.laid k hp ⟨hlz, out, c2, vals_of_ints hi, hgt⟩) (by rw [g]; exact I2.bare) (fun _ z => nomatch z)
  exact ⟨.ref p, _, J, rfl, q1 ns p hs (fun k => by rw [hmem k, decide_eq_true_iff]) hlen2 hn⟩
end
end G
/-! My base, part 13: what sorted(set(..)) comes to. -/
namespace G
open PySem PySem.Spec PyProof.Rows L2 TL
/-- x put into a rising list, once -/
def ins (x : Int) : List Int → List Int
  | [] => [x]
  | y :: ys => if x < y then x :: y :: ys else if x = y then y :: ys else y :: ins x ys
def ssort (xs : List Int) : List Int := xs.foldr ins []
theorem ins_mem {x k : Int} : ∀ {l : List Int}, k ∈ ins x l ↔ k = x ∨ k ∈ l
  | [] => by simp [ins]
  | y :: ys => by
    unfold ins
    split
    · simp
    · split
      · rename_i h
        subst h
        simp
      · rw [List.mem_cons, ins_mem, List.mem_cons]
        constructor
        · rintro (h | h | h)
          · exact .inr (.inl h)
          · exact .inl h
          · exact .inr (.inr h)
        · rintro (h | h | h)
          · exact .inr (.inl h)
          · exact .inl h
          · exact .inr (.inr h)
theorem ins_sorted {x : Int} : ∀ {l : List Int}, l.Pairwise (· < ·) → (ins x l).Pairwise (· < ·)
  | [], _ => List.pairwise_singleton _ _
  | y :: ys, h => by
    obtain ⟨h1, h2⟩ := List.pairwise_cons.mp h
    unfold ins
    split
    · rename_i hx
      exact List.pairwise_cons.mpr ⟨fun z hz => by
        rcases List.mem_cons.mp hz with rfl | hz
        · exact hx
        · exact Int.lt_trans hx (h1 z hz), h⟩
    · split
      · exact h
      · refine List.pairwise_cons.mpr ⟨fun z hz => ?_, ins_sorted h2⟩
        rcases ins_mem.mp hz with rfl | hz
        · omega
        · exact h1 z hz
theorem ssort_mem {k : Int} : ∀ {l : List Int}, k ∈ ssort l ↔ k ∈ l
  | [] => Iff.rfl
  | x :: l => by
    show k ∈ ins x (ssort l) ↔ _
    rw [ins_mem, ssort_mem, List.mem_cons]
theorem ssort_sorted : ∀ l : List Int, (ssort l).Pairwise (· < ·)
  | [] => List.Pairwise.nil
  | x :: l => ins_sorted (ssort_sorted l)
theorem rise_uniq : ∀ {a b : List Int}, a.Pairwise (· < ·) → b.Pairwise (· < ·) → (∀ k, k ∈ a ↔ k ∈ b) → a = b
  | [], [], _, _, _ => rfl
  | [], y :: _, _, _, h => absurd ((h y).mpr (List.mem_cons_self ..)) (fun z => nomatch z)
  | x :: _, [], _, _, h => absurd ((h x).mp (List.mem_cons_self ..)) (fun z => nomatch z)
  | x :: a, y :: b, ha, hb, h => by
    obtain ⟨a1, a2⟩ := List.pairwise_cons.mp ha
    obtain ⟨b1, b2⟩ := List.pairwise_cons.mp hb
    have e : x = y := by
      rcases List.mem_cons.mp ((h x).mp (List.mem_cons_self ..)) with z | z
      · exact z
      · rcases List.mem_cons.mp ((h y).mpr (List.mem_cons_self ..)) with z2 | z2
        · exact z2.symm
        · have := b1 x z
          have := a1 y z2
          omega
    subst e
    rw [rise_uniq a2 b2 fun k => ?_]
    constructor
    · intro hk
      rcases List.mem_cons.mp ((h k).mp (List.mem_cons_of_mem _ hk)) with z | z
      · have := a1 k hk; omega
      · exact z
    · intro hk
      rcases List.mem_cons.mp ((h k).mpr (List.mem_cons_of_mem _ hk)) with z | z
      · have := b1 k hk; omega
      · exact z
theorem ssort_uniq {xs ns : List Int} (h1 : ns.Pairwise (· < ·)) (h2 : ∀ k, k ∈ ns ↔ k ∈ xs) : ssort xs = ns :=
  rise_uniq (ssort_sorted xs) h1 fun k => by rw [ssort_mem, h2]
def ssetO (xs : List Int) : Option (List Int) := if xs.length < 4000 then some (ssort xs) else none
theorem ssetO_ok {xs r : List Int} (h : ssetO xs = some r) : xs.length < 4000 ∧ ssort xs = r := by
  unfold ssetO at h
  split at h
  · exact ⟨by assumption, Option.some.inj h⟩
  · cases h
end G
/-! My base, part 14: list(zip(two lists)). -/
namespace G
open PySem PySem.Spec PyProof.Rows L2 TL
theorem zip_nolen : typeLookup (.type "zip") "__len__" = pure none := by rw [typeLookup_type, builtinLookup_eq_fast]; kernel_rfl
theorem zip_nohint : typeLookup (.type "zip") "__length_hint__" = pure none := by rw [typeLookup_type, builtinLookup_eq_fast]; kernel_rfl
/-- where the gathering of a zip stands: Ts are the pairs handed out, all of them still there -/
structure ZSt (z TI TO i1 i2 l1 l2 : Addr) (lo : Nat) (xs ys : Array Value) (h : Heap) (Ts : List Addr) : Prop where
  ti : IsPair h TI (.ref i1) (.ref i2)
  z : (Ts = [] ∧ IsZip h z TI TO .none ∧ ∃ a b, IsPair h TO a b) ∨ ∃ T f, T ∈ Ts ∧ IsZipHeld h z TI TO T f
  a1 : h.IsListIter i1 l1 Ts.length
  a2 : h.IsListIter i2 l2 Ts.length
  b1 : h.IsList l1 xs
  b2 : h.IsList l2 ys
  prs : ∀ (j : Nat) (T : Addr), Ts[j]? = some T → ∃ x y, xs[j]? = some x ∧ ys[j]? = some y ∧ IsPair h T x y
  fr : ∀ T ∈ Ts, lo ≤ T
  nd : Ts.Nodup
theorem ne_lo {a b lo : Nat} (h : a < lo) (h2 : lo ≤ b) : b ≠ a := fun e => absurd (e ▸ h2) (Nat.not_le_of_lt h)
section
variable {P : Program} {w : World} {A : Around} {E : Value → Shared → Prop} {s : Shared} {z TI TO i1 i2 l1 l2 S : Addr} {lo : Nat} {xs ys : Array Value} {h h' : Heap} {Ts : List Addr}
theorem ZSt.at_T (Z : ZSt z TI TO i1 i2 l1 l2 lo xs ys h Ts) {T : Addr} (hT : T ∈ Ts) : ∃ o, h.get? T = some o := by
  obtain ⟨j, hj⟩ := List.getElem?_of_mem hT
  obtain ⟨x, y, _, _, p⟩ := Z.prs j T hj
  exact ⟨_, p⟩
/-- what is kept of it by a write elsewhere -/
theorem ZSt.keep (Z : ZSt z TI TO i1 i2 l1 l2 lo xs ys h Ts) (hS : S < lo) (S1 : S ≠ z) (S2 : S ≠ TI) (S3 : S ≠ TO) (S4 : S ≠ i1) (S5 : S ≠ i2) (S6 : S ≠ l1) (S7 : S ≠ l2) (k : ∀ b o, b ≠ S → h.get? b = some o → h'.get? b = some o) : ZSt z TI TO i1 i2 l1 l2 lo xs ys h' Ts := by
  refine ⟨k _ _ S2.symm Z.ti, ?_, Z.a1.at fun o e => k _ o S4.symm e, Z.a2.at fun o e => k _ o S5.symm e, Z.b1.at fun o e => k _ o S6.symm e, Z.b2.at fun o e => k _ o S7.symm e, fun j T hj => ?_, Z.fr, Z.nd⟩
  · rcases Z.z with ⟨e, q, a, b, r⟩ | ⟨T, f, hT, q⟩
    · exact .inl ⟨e, k _ _ S1.symm q, a, b, k _ _ S3.symm r⟩
    · exact .inr ⟨T, f, hT, k _ _ S1.symm q⟩
  · obtain ⟨x, y, e1, e2, p⟩ := Z.prs j T hj
    have hT := Z.fr T (List.mem_of_getElem? hj)
    exact ⟨x, y, e1, e2, k _ _ (ne_lo hS hT) p⟩
/-- one pair more -/
theorem ZSt.more (Z : ZSt z TI TO i1 i2 l1 l2 lo xs ys h Ts) (D : ZipApart z TI TO i1 i2 l1 l2) (hlo : lo ≤ h.objs.size) (hl : z < lo ∧ TO < lo ∧ i1 < lo ∧ i2 < lo) {f : Bool} {x y : Value} (c1 : IsZipHeld h' z TI TO h.objs.size f ∨ ∃ T, T ∈ Ts ∧ IsZipHeld h' z TI TO T f)
    (c2 : h'.IsListIter i1 l1 (Ts.length + 1)) (c3 : h'.IsListIter i2 l2 (Ts.length + 1)) (c4 : IsPair h' h.objs.size x y) (e1 : xs[Ts.length]? = some x) (e2 : ys[Ts.length]? = some y)
    (k : ∀ c o, c ≠ z → c ≠ TO → c ≠ i1 → c ≠ i2 → h.get? c = some o → h'.get? c = some o) : ZSt z TI TO i1 i2 l1 l2 lo xs ys h' (Ts ++ [h.objs.size]) := by
  have hn : h.objs.size ∉ Ts := fun m => by
    obtain ⟨o, e⟩ := Z.at_T m
    exact absurd (Heap.lt_size e) (Nat.lt_irrefl _)
  refine ⟨k _ _ D.TIz D.TITO D.TIi1 D.TIi2 Z.ti, .inr ?_, ?_, ?_, Z.b1.at fun o e => k _ o D.l1z D.l1TO D.l1i1 D.l1i2 e, Z.b2.at fun o e => k _ o D.l2z D.l2TO D.l2i1 D.l2i2 e, fun j T hj => ?_, fun T hT => ?_, ?_⟩
  · rcases c1 with c1 | ⟨T, hT, c1⟩
    · exact ⟨_, f, List.mem_append.mpr (.inr (List.mem_singleton.mpr rfl)), c1⟩
    · exact ⟨T, f, List.mem_append.mpr (.inl hT), c1⟩
  · rw [List.length_append]; exact c2
  · rw [List.length_append]; exact c3
  · by_cases hjl : j < Ts.length
    · rw [List.getElem?_append_left hjl] at hj
      obtain ⟨x', y', f1, f2, p⟩ := Z.prs j T hj
      have hT := Z.fr T (List.mem_of_getElem? hj)
      exact ⟨x', y', f1, f2, k _ _ (ne_lo hl.1 hT) (ne_lo hl.2.1 hT) (ne_lo hl.2.2.1 hT) (ne_lo hl.2.2.2 hT) p⟩
    · rw [List.getElem?_append_right (by omega)] at hj
      have hj0 : j - Ts.length = 0 := by
        cases q : j - Ts.length with
        | zero => rfl
        | succ m => rw [q] at hj; simp at hj
      rw [hj0] at hj
      have eT : h.objs.size = T := Option.some.inj hj
      have ej : j = Ts.length := by omega
      subst ej
      subst eT
      exact ⟨x, y, e1, e2, c4⟩
  · rcases List.mem_append.mp hT with m | m
    · exact Z.fr T m
    · rw [List.mem_singleton.mp m]; exact hlo
  · exact List.nodup_append.mpr ⟨Z.nd, by simp, fun a ha b hb => by
      rw [List.mem_singleton.mp hb]
      intro e
      rw [e] at ha
      exact hn ha⟩
theorem zip_gather {R : Result → Shared → Prop} (hh : A.in1.handled = none) (D : ZipApart z TI TO i1 i2 l1 l2) (hl : z < lo ∧ TO < lo ∧ i1 < lo ∧ i2 < lo) (hS : S < lo) (S1 : S ≠ z) (S2 : S ≠ TI) (S3 : S ≠ TO) (S4 : S ≠ i1) (S5 : S ≠ i2) (S6 : S ≠ l1) (S7 : S ≠ l2) (hn : min xs.size ys.size ≤ sizeLine) (res : Value) :
    ∀ (k : Nat) (s : Shared) (Ts : List Addr) (c : Nat), min xs.size ys.size - Ts.length = k → Ts.length ≤ min xs.size ys.size → lo ≤ s.heap.objs.size → ZSt z TI TO i1 i2 l1 l2 lo xs ys s.heap Ts →
    s.heap.get? S = some { cls := .type "list", dict := none, data := .seq (Ts.map Value.ref).toArray c, slots := #[] } →
    (∀ (s' : Shared) (Ts' : List Addr) (c' : Nat), s'.gens = s.gens → s'.os = s.os → (∀ (j : Nat) (T : Addr), Ts'[j]? = some T → ∃ x y, xs[j]? = some x ∧ ys[j]? = some y ∧ IsPair s'.heap T x y) → (∀ T ∈ Ts', lo ≤ T) → Ts'.Nodup → Ts'.length = min xs.size ys.size → s'.heap.get? S = some { cls := .type "list", dict := none, data := .seq (Ts'.map Value.ref).toArray c', slots := #[] } →
      (∀ b o, b ≠ S → b ≠ z → b ≠ TO → b ≠ i1 → b ≠ i2 → s.heap.get? b = some o → s'.heap.get? b = some o) → R (.ok (.ret res)) s') →
    codeAny (model P w) A (.builtin "list.extend.loop" ⟨[.ref S, .ref z, res], []⟩) R s := by
  intro k
  induction k with
  | zero =>
    intro s Ts c hk hle hlo Z hSo hR
    have hlen : Ts.length = min xs.size ys.size := by omega
    refine codeAny_builtin F.entry_extend_loop ?_; rw [Around.under_plainId F.plain_extend_loop _]
    show wpAny _ A.in1 (pyNext (.ref z) >>= _) _ _ s
    have hend : xs[Ts.length]? = none ∨ ys[Ts.length]? = none := by
      rcases Nat.le_total xs.size ys.size with q | q
      · exact .inl (Array.getElem?_eq_none (by omega))
      · exact .inr (Array.getElem?_eq_none (by omega))
    have fin : ∀ h' : Heap, (∀ c o, c ≠ z → c ≠ TO → c ≠ i1 → c ≠ i2 → s.heap.get? c = some o → h'.get? c = some o) → R (.ok (.ret res)) { s with heap := h' } := fun h' kk => by
      refine hR { s with heap := h' } Ts c rfl rfl (fun j T hj => ?_) Z.fr Z.nd hlen (kk _ _ S1 S3 S4 S5 hSo) (fun b o _ b2 b3 b4 b5 e => kk b o b2 b3 b4 b5 e)
      obtain ⟨x, y, e1, e2, p⟩ := Z.prs j T hj
      have hT := Z.fr T (List.mem_of_getElem? hj)
      exact ⟨x, y, e1, e2, kk _ _ (ne_lo hl.1 hT) (ne_lo hl.2.1 hT) (ne_lo hl.2.2.1 hT) (ne_lo hl.2.2.2 hT) p⟩
    rcases Z.z with ⟨e, q, a, b, r⟩ | ⟨T, f, hT, q⟩
    · refine wpAny_bind (wpAny_pyNext_zip_end hh D q Z.ti r Z.a1 Z.a2 Z.b1 Z.b2 hend fun h' kk => ?_)
      exact wpAny_pure (fin h' kk)
    · obtain ⟨oT, eT⟩ := Z.at_T hT
      refine wpAny_bind (wpAny_pyNext_zip_end_held hh D q eT Z.ti Z.a1 Z.a2 Z.b1 Z.b2 hend fun h' kk => ?_)
      exact wpAny_pure (fin h' fun c o c1 _ c3 c4 e => kk c o c1 c3 c4 e)
  | succ k ih =>
    intro s Ts c hk hle hlo Z hSo hR
    have hlt : Ts.length < min xs.size ys.size := by omega
    have hx : Ts.length < xs.size := by omega
    have hy : Ts.length < ys.size := by omega
    have e1 : xs[Ts.length]? = some xs[Ts.length] := Array.getElem?_eq_getElem hx
    have e2 : ys[Ts.length]? = some ys[Ts.length] := Array.getElem?_eq_getElem hy
    refine codeAny_builtin F.entry_extend_loop ?_; rw [Around.under_plainId F.plain_extend_loop _]
    show wpAny _ A.in1 (pyNext (.ref z) >>= _) _ _ s
    have go : ∀ h' : Heap, h'.objs.size = s.heap.objs.size + 1 → ZSt z TI TO i1 i2 l1 l2 lo xs ys h' (Ts ++ [s.heap.objs.size]) → (∀ c o, c ≠ z → c ≠ TO → c ≠ i1 → c ≠ i2 → s.heap.get? c = some o → h'.get? c = some o) →
        wpAny (model P w) A.in1 (updateSeq S (·.push (Value.ref s.heap.objs.size)) >>= fun _ => again (.builtin "list.extend.loop" ⟨[.ref S, .ref z, res], []⟩)) (fun fin s' => match fin with | .done f => R (.ok f) s' | .again c' => c'.quiet = true ∧ codeAny (model P w) A c' R s') (fun e s' => R (.error e) s') { s with heap := h' } := fun h' hsz Z' kk => by
      have hS' : h'.get? S = some { cls := .type "list", dict := none, data := .seq (Ts.map Value.ref).toArray c, slots := #[] } := kk _ _ S1 S3 S4 S5 hSo
      have hlen1 : ((Ts.map Value.ref).toArray).size = Ts.length := by simp
      refine wpAny_bind ?_
      refine wpAny_updateSeq (s := { s with heap := h' }) hS' rfl (wpAny_pure ⟨plainId_quiet F.plain_extend_loop _, ?_⟩) (by rw [hlen1]; omega) (by show ((Ts.map Value.ref).toArray.push _).size ≤ sizeLine + 1; rw [Array.size_push, hlen1]; omega)
      have hS2 := Heap.get?_update_self (Obj.mapSeq (·.push (Value.ref s.heap.objs.size))) hS' rfl
      have kS : ∀ b o, b ≠ S → h'.get? b = some o → (h'.update S (Obj.mapSeq (·.push (Value.ref s.heap.objs.size)))).get? b = some o := fun b o hb e => (Heap.get?_update_other _ _ (Ne.symm hb)).trans e
      have eA : (Ts.map Value.ref).toArray.push (Value.ref s.heap.objs.size) = ((Ts ++ [s.heap.objs.size]).map Value.ref).toArray := by simp
      refine ih _ (Ts ++ [s.heap.objs.size]) _ (by rw [List.length_append]; show _ - (Ts.length + 1) = k; omega) (by rw [List.length_append]; show Ts.length + 1 ≤ _; omega) ?_ (Z'.keep hS S1 S2 S3 S4 S5 S6 S7 kS) (by rw [← eA]; exact hS2) (fun s' Ts' c' g1 g2 g3 g4 g5 g6 g7 g8 => ?_)
      · show lo ≤ (h'.update S _).objs.size
        rw [(Heap.SameBut.update h' S _).1, hsz]
        omega
      · exact hR s' Ts' c' g1 g2 g3 g4 g5 g6 g7 fun b o b1 b2 b3 b4 b5 e => g8 b o b1 b2 b3 b4 b5 (kS b o b1 (kk b o b2 b3 b4 b5 e))
    rcases Z.z with ⟨e, q, a, b, r⟩ | ⟨T, f, hT, q⟩
    · refine wpAny_bind (wpAny_pyNext_zip_item D q Z.ti r Z.a1 Z.a2 Z.b1 Z.b2 e1 e2 fun h' d1 d2 d3 d4 d5 d6 kk => ?_)
      exact go h' d6 (Z.more D hlo hl (f := false) (.inl d1) d3 d4 d5 e1 e2 kk) kk
    · obtain ⟨oT, eT⟩ := Z.at_T hT
      refine wpAny_bind (wpAny_pyNext_zip_item_held D q eT Z.ti Z.a1 Z.a2 Z.b1 Z.b2 e1 e2 fun h' d1 d3 d4 d5 d6 kk => ?_)
      exact go h' d6 (Z.more D hlo hl (f := true) (.inr ⟨T, hT, d1⟩) d3 d4 d5 e1 e2 fun c o c1 _ c3 c4 e => kk c o c1 c3 c4 e) fun c o c1 _ c3 c4 e => kk c o c1 c3 c4 e
end
end G
/-! My base, part 15: list(zip(..)), the call. -/
namespace G
open PySem PySem.Spec PyProof.Rows L2 TL
section
variable {P : Program} {w : World} {A : Around} {E : Value → Shared → Prop} {s : Shared} {z TI TO i1 i2 l1 l2 S : Addr} {lo : Nat} {xs ys : Array Value}
theorem zip_extend {R : Result → Shared → Prop} (hh : A.handled = none) (D : ZipApart z TI TO i1 i2 l1 l2) (hl : z < lo ∧ TO < lo ∧ i1 < lo ∧ i2 < lo) (hS : S < lo) (S1 : S ≠ z) (S2 : S ≠ TI) (S3 : S ≠ TO) (S4 : S ≠ i1) (S5 : S ≠ i2) (S6 : S ≠ l1) (S7 : S ≠ l2) (hn : min xs.size ys.size ≤ sizeLine) (res : Value)
    (c0 : Nat) (hlo : lo ≤ s.heap.objs.size) (Z : ZSt z TI TO i1 i2 l1 l2 lo xs ys s.heap []) (hSo : s.heap.get? S = some { cls := .type "list", dict := none, data := .seq #[] c0, slots := #[] })
    (hR : ∀ (s' : Shared) (Ts' : List Addr) (c' : Nat), s'.gens = s.gens → s'.os = s.os → (∀ (j : Nat) (T : Addr), Ts'[j]? = some T → ∃ x y, xs[j]? = some x ∧ ys[j]? = some y ∧ IsPair s'.heap T x y) → (∀ T ∈ Ts', lo ≤ T) → Ts'.Nodup → Ts'.length = min xs.size ys.size → s'.heap.get? S = some { cls := .type "list", dict := none, data := .seq (Ts'.map Value.ref).toArray c', slots := #[] } →
      (∀ b o, b ≠ S → b ≠ z → b ≠ TO → b ≠ i1 → b ≠ i2 → s.heap.get? b = some o → s'.heap.get? b = some o) → R (.ok (.ret res)) s') :
    wpAny (model P w) A.in1 (Builtin.List.listExtendWith (.ref S) (.ref z) res) (fun fin s' => match fin with | .done f => R (.ok f) s' | .again c' => c'.quiet = true ∧ codeAny (model P w) A c' R s') (fun e s' => R (.error e) s') s := by
  have hh1 : A.in1.handled = none := by simp [hh]
  obtain ⟨q0, q, ta, tb, tr⟩ : ([] : List Addr) = [] ∧ IsZip s.heap z TI TO .none ∧ ∃ a b, IsPair s.heap TO a b := by
    rcases Z.z with h | ⟨T, f, hT, _⟩
    · exact h
    · exact nomatch hT
  have hT : s.TypeIs (.ref z) "zip" := ⟨_, q, rfl⟩
  unfold Builtin.List.listExtendWith; refine wpAny_bind (wpAny_typeOf hT ?_)
  have m1 : Builtin.List.listSameRef (.ref S) (.ref z) = false := by simp [Builtin.List.listSameRef, S1]
  have m2 : (Value.type "zip" == Value.type "list") = false := by decide
  have m3 : (Value.type "zip" == Value.type "tuple") = false := by decide
  simp only [m1, m2, m3, Bool.or_false, Bool.false_eq_true, if_false]
  refine wpAny_bind (wpAny_pyIter_zip q ?_)
  refine wpAny_bind (wpAny_holding ?_); unfold Builtin.List.listLengthHint
  refine wpAny_bind (wpAny_specialOf hT zip_nolen ?_)
  show wpAny _ A.in1 (specialOf (Value.ref z) (Str.ofString "__length_hint__") >>= _) _ _ _
  refine wpAny_bind (wpAny_specialOf hT zip_nohint ?_); refine wpAny_pure ?_
  show wpAny _ A.in1 (rule "list.extend.makes-room" >>= fun _ => Builtin.List.listTouch (.ref S) >>= fun _ => again (.builtin "list.extend.loop" ⟨[.ref S, .ref z, res], []⟩)) _ _ _
  refine wpAny_bind (wpAny_rule ?_); refine wpAny_bind ?_
  show wpAny _ A.in1 (updateSeq S (·.push .none) >>= fun _ => updateSeq S (·.pop)) _ _ _
  refine wpAny_bind (wpAny_updateSeq hSo rfl ?_)
  have hS2 := Heap.get?_update_self (Obj.mapSeq (·.push Value.none)) hSo rfl
  refine wpAny_updateSeq (hz := by seq_fits) hS2 rfl ?_
  have hS3 := Heap.get?_update_self (Obj.mapSeq (·.pop)) hS2 rfl
  have oth : ∀ b o, b ≠ S → s.heap.get? b = some o → ((s.heap.update S (Obj.mapSeq (·.push Value.none))).update S (Obj.mapSeq (·.pop))).get? b = some o := fun b o hb e => (Heap.get?_update_other _ _ (Ne.symm hb)).trans ((Heap.get?_update_other _ _ (Ne.symm hb)).trans e)
  refine wpAny_pure ⟨plainId_quiet F.plain_extend_loop _, zip_gather hh1 D hl hS S1 S2 S3 S4 S5 S6 S7 hn res (min xs.size ys.size) _ [] _ rfl (Nat.zero_le _) ?_ (Z.keep hS S1 S2 S3 S4 S5 S6 S7 oth) hS3 fun s' Ts' c' g1 g2 g3 g4 g5 g6 g7 g8 => ?_⟩
  · show lo ≤ ((s.heap.update S _).update S _).objs.size
    rw [(Heap.SameBut.update _ S _).1, (Heap.SameBut.update _ S _).1]
    exact hlo
  · exact hR s' Ts' c' g1 g2 g3 g4 g5 g6 g7 fun b o b1 b2 b3 b4 b5 e => g8 b o b1 b2 b3 b4 b5 (oth b o b1 e)
theorem list_zip {Q : Value → Shared → Prop} (hh : A.handled = none) (D : ZipApart z TI TO i1 i2 l1 l2) (hl : z < s.heap.objs.size ∧ TO < s.heap.objs.size ∧ i1 < s.heap.objs.size ∧ i2 < s.heap.objs.size ∧ TI < s.heap.objs.size ∧ l1 < s.heap.objs.size ∧ l2 < s.heap.objs.size) (hn : min xs.size ys.size ≤ sizeLine)
    (hz : IsZip s.heap z TI TO .none) (hTI : IsPair s.heap TI (.ref i1) (.ref i2)) {a b : Value} (hTO : IsPair s.heap TO a b) (a1 : s.heap.IsListIter i1 l1 0) (a2 : s.heap.IsListIter i2 l2 0) (b1 : s.heap.IsList l1 xs) (b2 : s.heap.IsList l2 ys)
    (hq : ∀ (s' : Shared) (Ts' : List Addr) (c' : Nat), s'.gens = s.gens → s'.os = s.os → (∀ (j : Nat) (T : Addr), Ts'[j]? = some T → ∃ x y, xs[j]? = some x ∧ ys[j]? = some y ∧ IsPair s'.heap T x y) → (∀ T ∈ Ts', s.heap.objs.size + 1 ≤ T) → Ts'.Nodup → Ts'.length = min xs.size ys.size → s'.heap.get? s.heap.objs.size = some { cls := .type "list", dict := none, data := .seq (Ts'.map Value.ref).toArray c', slots := #[] } →
      (∀ b o, b ≠ z → b ≠ TO → b ≠ i1 → b ≠ i2 → s.heap.get? b = some o → s'.heap.get? b = some o) → Q (.ref s.heap.objs.size) s') :
    wpAny (model P w) A (call (.type "list") [.ref z]) Q E s := by
  obtain ⟨z1, z2, z3, z4, z5, z6, z7⟩ := hl
  refine callType_codes (Q₁ := fun ob s₁ => ob = .ref s.heap.objs.size ∧ s₁ = { s with heap := s.heap.push { cls := .type "list", data := .seq #[] } }) F.called_list (F.typeCall_list_1 _) F.entry_list_init (code_list_new _ ⟨rfl, rfl⟩) fun ob s₁ h₁ => ?_
  obtain ⟨rfl, rfl⟩ := h₁
  have hSo : (s.heap.push { cls := .type "list", data := .seq #[] }).get? s.heap.objs.size = some { cls := .type "list", data := .seq #[] } := Heap.get?_push_size _ rfl
  have hsz : (s.heap.push { cls := .type "list", data := .seq #[] }).objs.size = s.heap.objs.size + 1 := Heap.size_push ..
  have up : ∀ b o, s.heap.get? b = some o → (s.heap.push { cls := .type "list", data := .seq #[] }).get? b = some o := fun b o e => Heap.get?_push_of_some _ e
  refine ⟨⟨_, hSo, rfl⟩, F.args_list_init_2 _ _, ?_⟩
  show wpAny _ _ (do let old ← Builtin.List.listItems (.ref s.heap.objs.size); Builtin.List.listUpdate (.ref s.heap.objs.size) (fun _ => #[]); letGo old.toList.reverse; Builtin.List.listExtendWith (.ref s.heap.objs.size) (.ref z) .none) _ _ _
  refine wpAny_bind ?_; unfold Builtin.List.listItems
  refine wpAny_bind (wpAny_seqItems hSo rfl (wpAny_pure ?_))
  show wpAny _ _ (updateSeq s.heap.objs.size (fun _ => #[]) >>= fun _ => letGo (#[] : Array Value).toList.reverse >>= fun _ => Builtin.List.listExtendWith (.ref s.heap.objs.size) (.ref z) .none) _ _ _
  refine wpAny_bind (wpAny_updateSeq hSo rfl ?_)
  have hS2 := Heap.get?_update_self (Obj.mapSeq (fun _ => (#[] : Array Value))) hSo rfl
  have oth : ∀ b o, b ≠ s.heap.objs.size → s.heap.get? b = some o → ((s.heap.push { cls := .type "list", data := .seq #[] }).update s.heap.objs.size (Obj.mapSeq (fun _ => (#[] : Array Value)))).get? b = some o := fun b o hb e => (Heap.get?_update_other _ _ (Ne.symm hb)).trans (up b o e)
  refine wpAny_bind (wpAny_letGo ?_)
  have ne : ∀ {b : Addr}, b < s.heap.objs.size → b ≠ s.heap.objs.size := fun hb => Nat.ne_of_lt hb
  refine zip_extend (lo := s.heap.objs.size + 1) (by simp [hh]) D ⟨Nat.lt_succ_of_lt z1, Nat.lt_succ_of_lt z2, Nat.lt_succ_of_lt z3, Nat.lt_succ_of_lt z4⟩ (Nat.lt_succ_self _) (ne z1).symm (ne z5).symm (ne z2).symm (ne z3).symm (ne z4).symm (ne z6).symm (ne z7).symm hn .none _ ?_
    ⟨oth _ _ (ne z5) hTI, .inl ⟨rfl, oth _ _ (ne z1) hz, a, b, oth _ _ (ne z2) hTO⟩, a1.at fun o e => oth _ o (ne z3) e, a2.at fun o e => oth _ o (ne z4) e, b1.at fun o e => oth _ o (ne z6) e, b2.at fun o e => oth _ o (ne z7) e, (fun j T hj => by simp at hj), (fun T hT => nomatch hT), List.nodup_nil⟩ hS2 (fun s' Ts' c' g1 g2 g3 g4 g5 g6 g7 g8 => ?_)
  · show _ ≤ ((s.heap.push _).update _ _).objs.size
    rw [(Heap.SameBut.update _ _ _).1, hsz]
    exact Nat.le_refl _
  · exact ⟨rfl, hq s' Ts' c' g1 g2 g3 g4 g5 g6 g7 fun b o b2 b3 b4 b5 e => g8 b o (Nat.ne_of_lt (Heap.lt_size e)) b2 b3 b4 b5 (oth b o (Nat.ne_of_lt (Heap.lt_size e)) e)⟩
end
end G
/-! My base, part 16: list(zip(..)), the rule; many new pairs. -/
namespace G
open PySem PySem.Spec PyProof.Rows L2 TL
/-- pairs that are laid, one behind another -/
def tupsU (H : Hp) : List (Addr × V × V) → Hp
  | [] => H
  | q :: l => tupsU (upd H q.1 (.tup [q.2.1, q.2.2])) l
structure NewP (H : Hp) (l : List (Addr × V × V)) : Prop where
  none : ∀ q ∈ l, H q.1 = none
  nd : (l.map (·.1)).Nodup
theorem NewP.tail {H : Hp} {q : Addr × V × V} {l : List (Addr × V × V)} (n : NewP H (q :: l)) {o : HO} : NewP (upd H q.1 o) l := by
  have hd := List.nodup_cons.mp (show (q.1 :: l.map (·.1)).Nodup from n.nd)
  refine ⟨fun r hr => ?_, hd.2⟩
  rw [upd_ne (fun e => hd.1 (by rw [← e]; exact List.mem_map.mpr ⟨r, hr, rfl⟩))]
  exact n.none r (List.mem_cons_of_mem _ hr)
theorem tupsU_at : ∀ {l : List (Addr × V × V)} {H : Hp} {a : Addr}, (∀ q ∈ l, q.1 ≠ a) → tupsU H l a = H a
  | [], _, _, _ => rfl
  | q :: l, H, a, h => by
    show tupsU _ l a = _
    rw [tupsU_at fun r hr => h r (List.mem_cons_of_mem _ hr), upd_ne (h q (List.mem_cons_self ..)).symm]
theorem tupsU_in : ∀ {l : List (Addr × V × V)} {H : Hp} {q : Addr × V × V}, (l.map (·.1)).Nodup → q ∈ l → tupsU H l q.1 = some (.tup [q.2.1, q.2.2])
  | r :: l, H, q, hn, hq => by
    have hd := List.nodup_cons.mp (show (r.1 :: l.map (·.1)).Nodup from hn)
    show tupsU _ l q.1 = _
    rcases List.mem_cons.mp hq with rfl | hq
    · rw [tupsU_at fun z hz e => hd.1 (by rw [← e]; exact List.mem_map.mpr ⟨z, hz, rfl⟩), upd_same]
    · exact tupsU_in hd.2 hq
theorem tupsU_gr {M : Addr → Prop} : ∀ {l : List (Addr × V × V)} {F0 H0 F H : Hp}, Gr M F0 H0 F H → NewP H l → Gr M F0 H0 (tupsU F l) (tupsU H l)
  | [], _, _, _, _, g, _ => g
  | q :: l, F0, H0, F, H, g, n => by
    show Gr M F0 H0 (tupsU (upd F q.1 (.tup [q.2.1, q.2.2])) l) (tupsU (upd H q.1 (.tup [q.2.1, q.2.2])) l)
    exact tupsU_gr (g.frz (n.none q (List.mem_cons_self ..))) n.tail
theorem tupsU_RL {α β : Type} [Enc α] [Enc β] {K : PySem.W.Frag} {F : Hp} : ∀ {l : List (Addr × V × V)} {xs : List α} {ys : List β}, (l.map (·.1)).Nodup → (∀ q ∈ l, F q.1 = some (.tup [q.2.1, q.2.2])) → RL K F (l.map (·.2.1)) xs → RL K F (l.map (·.2.2)) ys →
    RL K F (l.map fun q => V.ref q.1) (xs.zip ys)
  | [], _, _, _, _, h1, h2 => by
    have e1 := RL.len h1
    have e3 : ∀ {γ : Type} (z : List γ), ([] : List V).length = z.length → z = [] := fun z h => List.eq_nil_of_length_eq_zero h.symm
    rw [e3 _ e1]
    exact RpA.nil
  | q :: l, [], _, _, _, h1, _ => by cases h1
  | q :: l, _ :: _, [], _, _, _, h2 => by cases h2
  | q :: l, x :: xs, y :: ys, hn, hF, h1, h2 => by
    cases h1 with
    | cons r1 h1 =>
      cases h2 with
      | cons r2 h2 =>
        have hd := List.nodup_cons.mp (show (q.1 :: l.map (·.1)).Nodup from hn)
        exact RL.cons (R.mk2 (.inl (.inl (hF q (List.mem_cons_self ..)))) r1 r2) (tupsU_RL hd.2 (fun z hz => hF z (List.mem_cons_of_mem _ hz)) h1 h2)
theorem HOk.track {P : Program} {w : World} {H : Hp} {h : Heap} {a : Addr} {o : HO} (x : HOk P w H h) (hn : H a = none) (new : ObjOk P w (upd H a o) h a o) : HOk P w (upd H a o) h := fun b u e => by
  by_cases hb : b = a
  · subst hb; rw [upd_same] at e; cases e; exact new
  · rw [upd_ne hb] at e
    exact (x b u e).stay (fun c v _ q => q) (fun c q => by rw [upd_ne (ne_of_none q hn)]; exact q) fun c zs q => by rw [upd_ne (ne_of_none q hn)]; exact q
theorem HOk.tracks {P : Program} {w : World} {h : Heap} : ∀ {l : List (Addr × V × V)} {H : Hp}, HOk P w H h → NewP H l → (∀ q ∈ l, ∃ x y, IsPair h q.1 x y ∧ RelV q.2.1 x ∧ RelV q.2.2 y) → HOk P w (tupsU H l) h
  | [], _, x, _, _ => x
  | q :: l, H, x, n, hp => by
    obtain ⟨a, b, p, r1, r2⟩ := hp q (List.mem_cons_self ..)
    refine HOk.tracks (l := l) (H := upd H q.1 (.tup [q.2.1, q.2.2])) (HOk.track x (n.none q (List.mem_cons_self ..)) ⟨by show 2 ≤ sizeLine; decide, [a, b], .cons r1 (.cons r2 .nil), ⟨_, p, rfl, _, rfl⟩⟩) n.tail fun z hz => hp z (List.mem_cons_of_mem _ hz)
theorem vals_refs : ∀ Ts : List Addr, Vals (Ts.map V.ref) (Ts.map Value.ref)
  | [] => .nil
  | _ :: Ts => .cons rfl (vals_refs Ts)
section
variable {X : Cx}
/-- list(zip(xs, ys)) of two lists -/
def tLZip (K : PySem.W.Frag) (ta : TA) : TE := fun σ H Q => ta σ H fun vs H1 => ∃ (a b : Addr) (xs ys : List V), vs = [.ref a, .ref b] ∧ SqL K H1 a xs ∧ SqL K H1 b ys ∧
  ∀ (l : List (Addr × V × V)) (p : Addr), NewP H1 l → l.map (·.2.1) = xs.take (min xs.length ys.length) → l.map (·.2.2) = ys.take (min xs.length ys.length) → tupsU H1 l p = none → Q (.ref p) (upd (tupsU H1 l) p (.lst (l.map fun q => V.ref q.1)))
theorem pe_lzip {e e2 : Expr} {ta : TA} {p p2 q pos : Pos} (hc : X.calm = true) (hg : Gl X "list") (hm : X.mg "list" = none) (hg2 : Gl X "zip") (hm2 : X.mg "zip" = none) (ha : PA X [e, e2] ta)
    (hs : starEach [e, e2] X.env = (false, eval e X.env) :: starEach [e2] X.env := by rfl) (hpl : (backTo q (starEach [e2] X.env)).any (·.1) = false := by rfl) :
    PE X (.Call (.Name "list" p) [.Call (.Name "zip" p2) [e, e2] [] q] [] pos) (tLZip X.K ta) := by
  refine ⟨fun pins s σ H Q I h => ?_⟩
  refine Call_ (ld_blt I hg hm (u := .type "list") (by decide +kernel) ?_)
  refine PyProof.Rows.callWith_type1 (PyProof.Rows.args_cons ?_ rfl) rfl rfl
  refine Call_ (ld_blt I hg2 hm2 PyProof.Rows.boot_zip (PyProof.Rows.callWith_type1 (thn (ha.run q pins s σ H _ I h) fun us s1 ⟨vs, H1, I1, r1, q1⟩ => ?_) hs hpl))
  obtain ⟨a, b, xs, ys, ex, hqx, hqy, q1⟩ := q1
  subst ex
  obtain ⟨u1, u2, rfl, ra, rb⟩ := vals2 r1
  cases (show u1 = Value.ref a from ra)
  cases (show u2 = Value.ref b from rb)
  obtain ⟨its, rv, p1, hz1⟩ := I1.list hqx
  obtain ⟨its2, rv2, pq2, hz2⟩ := I1.list hqy
  have la : a < s1.heap.objs.size := p1.lt
  have lb : b < s1.heap.objs.size := pq2.lt
  refine call_zip_2 p1.isList pq2.isList fun h' hz hTI hTO h1 h2 hsz hk => ?_
  refine PyProof.Rows.args_nil ?_
  have hmin : min its.toArray.size its2.toArray.size = min xs.length ys.length := by simp [← rv.length, ← rv2.length]
  refine list_zip (s := { s1 with heap := h' }) (I1.ok.hd hc) (PySem.W.ktu_apart s1.heap.objs.size a b la lb) ?_ (by rw [hmin]; exact Nat.le_trans (Nat.min_le_left _ _) hz1) hz hTI hTO h1 h2 (p1.isList.at fun o e => hk a o e) (pq2.isList.at fun o e => hk b o e) fun s' Ts c g1 g2 g3 g4 g5 g6 g7 g8 => ?_
  · show _ < h'.objs.size ∧ _ < h'.objs.size ∧ _ < h'.objs.size ∧ _ < h'.objs.size ∧ _ < h'.objs.size ∧ a < h'.objs.size ∧ b < h'.objs.size
    rw [hsz]
    have la' : (a : Nat) < s1.heap.objs.size := la
    have lb' : (b : Nat) < s1.heap.objs.size := lb
    refine ⟨?_, ?_, ?_, ?_, ?_, ?_, ?_⟩ <;> (first | exact Nat.lt_succ_self _ | exact Nat.add_lt_add_left (by decide) _ | exact Nat.lt_of_lt_of_le la (Nat.le_add_right _ _) | exact Nat.lt_of_lt_of_le lb (Nat.le_add_right _ _) | exact Nat.lt_add_of_pos_right (by decide))
  · have hsz' : h'.objs.size = s1.heap.objs.size + 5 := hsz
    have kept : ∀ b o, s1.heap.get? b = some o → s'.heap.get? b = some o := fun b o e => by
      have hb := Heap.lt_size e
      exact g8 b o (Nat.ne_of_lt (Nat.lt_of_lt_of_le hb (Nat.le_add_right _ _))) (Nat.ne_of_lt (Nat.lt_of_lt_of_le hb (Nat.le_add_right _ _))) (Nat.ne_of_lt hb) (Nat.ne_of_lt (Nat.lt_of_lt_of_le hb (Nat.le_add_right _ _))) (hk b o e)
    generalize hn : min xs.length ys.length = n at hmin
    have hl1 : (xs.take n).length = n := by rw [List.length_take]; omega
    have hl2 : (ys.take n).length = n := by rw [List.length_take]; omega
    have hT : Ts.length = n := g6.trans hmin
    have hz2' : ((xs.take n).zip (ys.take n)).length = n := by rw [List.length_zip, hl1, hl2, Nat.min_self]
    obtain ⟨l, hl⟩ : ∃ l, l = Ts.zip ((xs.take n).zip (ys.take n)) := ⟨_, rfl⟩
    have m1 : l.map (·.1) = Ts := by rw [hl]; exact List.map_fst_zip (by rw [hT, hz2']; exact Nat.le_refl _)
    have m2 : l.map (·.2) = (xs.take n).zip (ys.take n) := by rw [hl]; exact List.map_snd_zip (by rw [hT, hz2']; exact Nat.le_refl _)
    have m3 : l.map (·.2.1) = xs.take n := by
      have : (l.map (·.2)).map (·.1) = xs.take n := by rw [m2]; exact List.map_fst_zip (by rw [hl1, hl2]; exact Nat.le_refl _)
      rwa [List.map_map] at this
    have m4 : l.map (·.2.2) = ys.take n := by
      have : (l.map (·.2)).map (·.2) = ys.take n := by rw [m2]; exact List.map_snd_zip (by rw [hl1, hl2]; exact Nat.le_refl _)
      rwa [List.map_map] at this
    have m5 : (l.map fun q => V.ref q.1) = Ts.map V.ref := by rw [← m1, List.map_map]; rfl
    have hTlo : ∀ T ∈ Ts, s1.heap.objs.size + 6 ≤ T := fun T hm => by
      have := g4 T hm
      have e : h'.objs.size + 1 = s1.heap.objs.size + 6 := by rw [hsz']
      rw [← e]
      exact this
    have newp : NewP H1 l := ⟨fun q hq => I1.hok.fresh (Nat.le_trans (Nat.le_add_right _ 6) (hTlo q.1 (by rw [← m1]; exact List.mem_map.mpr ⟨q, hq, rfl⟩))), by rw [m1]; exact g5⟩
    have hp0 : ∀ q ∈ l, q.1 ≠ h'.objs.size := fun q hq e => by
      have := g4 q.1 (by rw [← m1]; exact List.mem_map.mpr ⟨q, hq, rfl⟩)
      rw [e] at this
      exact absurd this (Nat.not_succ_le_self _)
    have hpn : tupsU H1 l h'.objs.size = none := by
      rw [tupsU_at hp0]
      exact I1.hok.fresh (by rw [hsz']; exact Nat.le_add_right _ _)
    have prs : ∀ q ∈ l, ∃ x y, IsPair s'.heap q.1 x y ∧ RelV q.2.1 x ∧ RelV q.2.2 y := fun q hq => by
      obtain ⟨j, hj⟩ := List.getElem?_of_mem hq
      have j1 : Ts[j]? = some q.1 := by rw [← m1, List.getElem?_map, hj]; rfl
      have j2 : (xs.take n)[j]? = some q.2.1 := by rw [← m3, List.getElem?_map, hj]; rfl
      have j3 : (ys.take n)[j]? = some q.2.2 := by rw [← m4, List.getElem?_map, hj]; rfl
      obtain ⟨x, y, e1, e2, pr⟩ := g3 j q.1 j1
      have k2 : xs[j]? = some q.2.1 := by
        have := List.getElem?_take_of_lt (l := xs) (show j < n by rw [← hT]; exact (List.getElem?_eq_some_iff.mp j1).1)
        rw [← this]
        exact j2
      have k3 : ys[j]? = some q.2.2 := by
        have := List.getElem?_take_of_lt (l := ys) (show j < n by rw [← hT]; exact (List.getElem?_eq_some_iff.mp j1).1)
        rw [← this]
        exact j3
      obtain ⟨w1, f1, r1⟩ := rv.get k2
      obtain ⟨w2, f2, r2⟩ := rv2.get k3
      have x1 : w1 = x := by
        have : its[j]? = some x := by simpa using e1
        rw [f1] at this
        exact Option.some.inj this
      have x2 : w2 = y := by
        have : its2[j]? = some y := by simpa using e2
        rw [f2] at this
        exact Option.some.inj this
      exact ⟨x, y, pr, x1 ▸ r1, x2 ▸ r2⟩
    have old : ∀ b, b < s1.heap.objs.size → upd (tupsU H1 l) h'.objs.size (.lst (l.map fun q => V.ref q.1)) b = H1 b := fun b hb => by
      rw [upd_ne (Nat.ne_of_lt (Nat.lt_of_lt_of_le hb (by rw [hsz']; exact Nat.le_add_right _ _)))]
      refine tupsU_at fun q hq e => ?_
      have := hTlo q.1 (by rw [← m1]; exact List.mem_map.mpr ⟨q, hq, rfl⟩)
      rw [e] at this
      exact absurd (Nat.lt_of_lt_of_le hb (Nat.le_trans (Nat.le_add_right _ 6) this)) (Nat.lt_irrefl _)
    have oldS : ∀ {b : Addr} {o : HO}, H1 b = some o → upd (tupsU H1 l) h'.objs.size (.lst (l.map fun q => V.ref q.1)) b = some o := fun e => by rw [old _ (I1.hok.lt e)]; exact e
    have hok : HOk X.prog X.w (upd (tupsU H1 l) h'.objs.size (.lst (l.map fun q => V.ref q.1))) s'.heap :=
      HOk.track (HOk.tracks (I1.hok.kept kept) newp prs) hpn ⟨by rw [m5, List.length_map, hT, ← hn]; exact Nat.le_trans (Nat.min_le_left _ _) hz1, Ts.map Value.ref, c, by rw [m5]; exact vals_refs Ts, g7⟩
    have un : Un (frs X.stack) [] H1 (upd (tupsU H1 l) h'.objs.size (.lst (l.map fun q => V.ref q.1))) s1.heap s'.heap :=
      ⟨fun b o e _ _ _ => kept b o e, fun b o e _ _ _ => ⟨o.slots, kept b o e⟩, fun b o e n _ => by rw [old b (Heap.lt_size e)]; exact n, fun b o e _ => ⟨o, kept b o e⟩, fun b zs e => oldS e, fun b o u e => oldS e, fun b ps e => ⟨#[], by rw [oldS e]; simp⟩⟩
    have J : Inv X pins σ (upd (tupsU H1 l) h'.objs.size (.lst (l.map fun q => V.ref q.1))) s' := Inv.call' (ch := []) I1 g2 un hok (by rw [g1]; exact I1.bare) (fun _ z => nomatch z)
    exact ⟨.ref h'.objs.size, _, J, rfl, q1 l h'.objs.size newp (by rw [m3, hn]) (by rw [m4, hn]) hpn⟩
end
end G
/-! My base, part 17: xs.extend(a tuple). -/
namespace G
open PySem PySem.Spec PyProof.Rows L2 TL
theorem ext_tup (l : Addr) (xs : Array Value) (n : Nat) (b : Addr) (ys : Array Value) (n2 : Nat) (dd : Option Addr) (sl : Array (Option Value)) (h0 : ¬(!xs.isEmpty && Builtin.List.listTooLong (xs.size + ys.size)) = true) (h1 : xs.size ≤ sizeLine) (h2 : xs.size + ys.size ≤ sizeLine + 1) :
    Meets (Builtin.«list.extend» ⟨[.ref l, .ref b], []⟩) (fun _ R s => s.heap.get? l = some { cls := .type "list", dict := none, data := .seq xs n, slots := #[] } ∧ s.heap.get? b = some { cls := .type "tuple", dict := dd, data := .seq ys n2, slots := sl } ∧ R (.ok (.ret Value.none)) { s with heap := s.heap.update l (Obj.mapSeq fun x => x ++ ys), toks := s.toks }) :=
  .of_wp fun prog w A R s h => by
    obtain ⟨hp, g, d, tk, os⟩ := s; obtain ⟨hl, hb, h⟩ := h; have q1 := AutoSeq1.idx_int; have q2 := AutoSeq1.sub_tuple_tuple; have q3 := AutoSeq1.sub_list_list; have q4 := AutoSeq1.sub_tuple_list; have q5 := AutoSeq1.sub_list_tuple
    have hz : (xs ++ ys).size ≤ sizeLine + 1 := by rw [Array.size_append]; exact h2
    wp_walk using (wpAny_updateSeq hl rfl (hz := h1) (_hz' := hz)), AutoSeq1.wpAny_loadPart' hl, AutoSeq1.wpAny_loadPart' hb; exact ⟨_, rfl, h⟩
section
variable {X : Cx}
def rExtT (K : PySem.W.Frag) : V → List V → Hp → VK → Prop := fun x vs H Q => ∃ l b xs zs, x = .ref l ∧ vs = [.ref b] ∧ H l = some (.lst xs) ∧ SqT K H b zs ∧ xs.length + zs.length ≤ sizeLine ∧ Q .non (upd H l (.lst (xs ++ zs)))
theorem mt_extT : MtM X "list.extend" (rExtT X.K) := by
  intro pins s σ H x vs v us Q I rx rv h
  obtain ⟨l, b, xs, zs, rfl, rfl, hH, hB, hz, q⟩ := h
  cases rx
  obtain ⟨u, rfl, ru⟩ := rv.one
  cases ru
  obtain ⟨z, its, n, r, hl, e⟩ := I.lstM hH
  obtain ⟨its2, r2, ⟨⟨oc, od, dt, sl⟩, ho, hc, n2, hd⟩, hz2⟩ := I.tuple hB
  simp only at hc hd
  subst hc; subst hd
  have hl2 := r2.length
  have hsz : its.toArray.size + its2.toArray.size ≤ sizeLine := by rw [List.size_toArray, List.size_toArray]; omega
  have hlong : ¬ (!its.toArray.isEmpty && Builtin.List.listTooLong (its.toArray.size + its2.toArray.size)) = true := by rw [notLongL hsz, Bool.and_false]; exact Bool.false_ne_true
  refine call_meets F.slot_list_extend ⟨_, e, rfl⟩ F.entry_list_extend (F.args_list_extend_2 _ _) (ext_tup l its.toArray n b its2.toArray n2 od sl hlong (by rw [List.size_toArray]; omega) (by omega)) ⟨e, ho, ?_⟩
  exact ⟨.non, _, I.lset (its' := its ++ its2) hH e (by simp) (r.append r2) (by rw [List.length_append]; omega), rfl, q⟩
end
end G
/-! My base, part 18: what list(zip(..)) stands for; extend. -/
namespace G
open PySem PySem.Spec PyProof.Rows L2 TL
theorem zip_tk {α β : Type} : ∀ (xs : List α) (ys : List β) (n : Nat), n = min xs.length ys.length → (xs.take n).zip (ys.take n) = xs.zip ys
  | [], ys, n, h => by simp
  | x :: xs, [], n, h => by simp
  | x :: xs, y :: ys, n, h => by
    have e : n = min xs.length ys.length + 1 := by rw [h, List.length_cons, List.length_cons]; omega
    subst e
    rw [List.take_succ_cons, List.take_succ_cons, List.zip_cons_cons, List.zip_cons_cons, zip_tk xs ys _ rfl]
section
variable {α β : Type} [Enc α] [Enc β] {K : PySem.W.Frag} {F H : Hp} {l : List (Addr × V × V)} {ws ws2 : List V} {xs : List α} {ys : List β}
theorem RL.tk (n : Nat) (h : RL K F ws xs) : RL K F (ws.take n) (xs.take n) := by
  show RpA K F _ _
  rw [List.map_take]
  exact RpA.take n h
theorem lz_RL (nw : NewP H l) (sm : Same F (tupsU F l)) (e1 : l.map (·.2.1) = ws.take (min ws.length ws2.length)) (e2 : l.map (·.2.2) = ws2.take (min ws.length ws2.length)) (h1 : RL K F ws xs) (h2 : RL K F ws2 ys) :
    RL K (tupsU F l) (l.map fun q => V.ref q.1) (List.zip xs ys) := by
  rw [← zip_tk xs ys (min ws.length ws2.length) (by rw [h1.len, h2.len])]
  refine tupsU_RL nw.nd (fun q hq => tupsU_in nw.nd hq) ?_ ?_
  · rw [e1]
    exact RpA.up (RL.tk _ h1) sm
  · rw [e2]
    exact RpA.up (RL.tk _ h2) sm
theorem lz_len (e1 : l.map (·.2.1) = ws.take (min ws.length ws2.length)) (hl : ws.length ≤ sizeLine) : (l.map fun q => V.ref q.1).length ≤ sizeLine := by
  have h := congrArg List.length e1
  rw [List.length_map, List.length_take] at h
  rw [List.length_map, h]
  exact Nat.le_trans (Nat.min_le_right _ _) hl
end
def extL {α : Type} (xs ys : List α) : Option (List α) := conL xs ys
end G
/-! My base, part 19: rules that name K. -/
namespace G
open PySem PySem.Spec PyProof.Rows L2 TL
theorem RL.re {α : Type} [Enc α] {K : PySem.W.Frag} {F : Hp} {ws : List V} {x y : List α} (h : x = y) (r : RL K F ws x) : RL K F ws y := h ▸ r
section
variable {X : Cx} {K : PySem.W.Frag}
theorem ix_listK (h : X.K = K := by rfl) : IxR X (rIxL K) := h ▸ ix_list
theorem ix_tupK (h : X.K = K := by rfl) : IxR X (rIxT K) := h ▸ ix_tup
theorem sl_listK (h : X.K = K := by rfl) : SlR X (rSlL K) := h ▸ sl_list
theorem call_lenLK (h : X.K = K := by rfl) : CallR X (.builtin "len") (fun xs H Q => ∃ p ys n, xs = [.ref p] ∧ (SqL K H p ys ∨ SqT K H p ys) ∧ ys.length = n ∧ Q (.int (n : Nat)) H) := by subst h; exact call_lenL
theorem call_isi_ (h : X.K = K := by rfl) : CallR X (.builtin "isinstance") (rIsi K) := by subst h; exact call_isi
theorem call_list_of_ (h : X.K = K := by rfl) : CallR X (.type "list") (fun xs H Q => ∃ p ys, xs = [.ref p] ∧ (SqL K H p ys ∨ SqT K H p ys) ∧ ∀ l, H l = none → Q (.ref l) (upd H l (.lst ys))) := by subst h; exact call_list_of
theorem cr_all_ (hc : X.calm = true) (h : X.K = K := by rfl) : CallR X (.builtin "all") (rAll K) := by subst h; exact cr_all hc
theorem cr_any_ (hc : X.calm = true) (h : X.K = K := by rfl) : CallR X (.builtin "any") (rAny K) := by subst h; exact cr_any hc
theorem cr_sortedI_ (h : X.K = K := by rfl) : CallR X (.builtin "sorted") (rSortedI K) := by subst h; exact cr_sortedI
theorem op_catLK (h : X.K = K := by rfl) : OpR X (binaryOp .Add) (rCatL K) := by subst h; exact op_catL
theorem op_eqDK (hu : X.A.units + 64 < cLine) (h : X.K = K := by rfl) : OpR X (compareOp .Eq) (rEqD K) := by subst h; exact op_eqD hu
theorem op_neDK (hu : X.A.units + 64 < cLine) (h : X.K = K := by rfl) : OpR X (compareOp .NotEq) (rNeD K) := by subst h; exact op_neD hu
theorem pi_listK {tg l : Expr} {tl : TE} (hl : PE X l tl) (h : X.K = K := by rfl) : PI X tg l (iList K tl) := by subst h; exact pi_list hl
theorem pi_tupK {tg l : Expr} {tl : TE} (hl : PE X l tl) (h : X.K = K := by rfl) : PI X tg l (iTup K tl) := by subst h; exact pi_tup hl
theorem pg_tupK {es : List Expr} {k : Nat} {pos : Pos} {t : TGs} (n : Nat) (hc : X.calm = true) (ht : PGs X es t) (h : X.K = K := by rfl)
    (hn : (assignEach es X.env).length = n := by rfl) (hst : (assignEach es X.env).findIdx? (·.1) = none := by rfl) : PG X (.Tuple es k pos) (gTup K n t) := by subst h; exact pg_tup hc ht hn hst
theorem pe_bmK {o e : Expr} {es : List Expr} {to : TE} {t : TA} {name : Str} {apos cpos : Pos} {T id : String} {r : V → List V → Hp → VK → Prop} (pa : PlainAttrs T) (slot : Slot T name id) (hty : typeOf (.builtin id) = pure (.type "method_descriptor")) (hm : MtR X id r) (ho : PE X o to) (ha : PA X (e :: es) t) (h : X.K = K := by rfl)
    (hbase : attributeBase o name X.env (eval o X.env) = eval o X.env := by rfl)
    (hfew : ((backTo cpos (starEach (e :: es) X.env)).all (fun x => !x.1) && (backToKw cpos (keywordEach [] X.env)).all (fun x => x.1.isSome) && decide ((e :: es).length + ([] : List Keyword).length + (if ([] : List Keyword).isEmpty then 0 else 1) < 30)) = true := by rfl)
    (hline : (apos.endLine == cpos.line) = true := by rfl) (hs : starEach (e :: es) X.env = (false, eval e X.env) :: starEach es X.env := by rfl) (hplain : (backTo cpos (starEach es X.env)).any (·.1) = false := by rfl) :
    PE X (.Call (.Attribute o name apos) (e :: es) [] cpos) (tBM K T r to t) := by subst h; exact pe_bm pa slot hty hm ho ha hbase hfew hline hs hplain
theorem pe_bm0K {o : Expr} {to : TE} {name : Str} {apos cpos : Pos} {T id : String} {r : V → List V → Hp → VK → Prop} (pa : PlainAttrs T) (slot : Slot T name id) (hty : typeOf (.builtin id) = pure (.type "method_descriptor")) (hm : MtR X id r) (ho : PE X o to) (h : X.K = K := by rfl)
    (hbase : attributeBase o name X.env (eval o X.env) = eval o X.env := by rfl) (hline : (apos.endLine == cpos.line) = true := by rfl) : PE X (.Call (.Attribute o name apos) [] [] cpos) (tBM0 K T r to) := by subst h; exact pe_bm0 pa slot hty hm ho hbase hline
def rJoin (K : PySem.W.Frag) : V → List V → Hp → VK → Prop := fun x xs H Q => ∃ a p, ∃ ys : List Str, x = .str a ∧ xs = [.ref p] ∧ (SqL K H p (ys.map V.str) ∨ SqT K H p (ys.map V.str)) ∧
  (ys.map (·.length)).sum + ys.length * a.length ≤ 16777216 ∧ Q (.str (Txt.join a ys)) H
theorem pe_joinK {o e : Expr} {to te : TE} {apos pos : Pos} (ho : PE X o to) (he : PE X e te) (h : X.K = K := by rfl) (hs : starEach [e] X.env = [(false, eval e X.env)] := by rfl) (hbase : attributeBase o "join" X.env (eval o X.env) = eval o X.env := by rfl) (hline : (apos.endLine == pos.line) = true := by rfl) :
    PE X (.Call (.Attribute o "join" apos) [e] [] pos) (tM1 (rJoin K) to te) := by subst h; exact pe_join ho he hs hbase hline
theorem pe_revLK {e : Expr} {te : TE} {k : Nat} {p1 p2 p3 pos : Pos} (he : PE X e te) (h : X.K = K := by rfl) : PE X (.Subscript e (.Slice none none (some (.UnaryOp .USub (.Constant (.int 1) k p1) p2)) p3) pos) (tRevL K te) := by subst h; exact pe_revL he
theorem pe_ssetK {a : Expr} {ta : TE} {p p2 q pos : Pos} (hc : X.calm = true) (hg : Gl X "sorted") (hm : X.mg "sorted" = none) (hg2 : Gl X "set") (hm2 : X.mg "set" = none) (ha : PE X a ta) (h : X.K = K := by rfl)
    (na : starEach [a] X.env = (false, eval a X.env) :: starEach [] X.env := by rfl) : PE X (.Call (.Name "sorted" p) [.Call (.Name "set" p2) [a] [] q] [] pos) (tSSet K ta) := by subst h; exact pe_sset hc hg hm hg2 hm2 ha na
theorem pe_lzipK {e e2 : Expr} {ta : TA} {p p2 q pos : Pos} (hc : X.calm = true) (hg : Gl X "list") (hm : X.mg "list" = none) (hg2 : Gl X "zip") (hm2 : X.mg "zip" = none) (ha : PA X [e, e2] ta) (h : X.K = K := by rfl)
    (hs : starEach [e, e2] X.env = (false, eval e X.env) :: starEach [e2] X.env := by rfl) (hpl : (backTo q (starEach [e2] X.env)).any (·.1) = false := by rfl) :
    PE X (.Call (.Name "list" p) [.Call (.Name "zip" p2) [e, e2] [] q] [] pos) (tLZip K ta) := by subst h; exact pe_lzip hc hg hm hg2 hm2 ha hs hpl
theorem mt_extTK (h : X.K = K := by rfl) : MtM X "list.extend" (rExtT K) := by subst h; exact mt_extT
end
end G
/-! Plain laws: how the makings come out. -/
namespace G
open PySem PySem.Spec PyProof.Rows L2 TL
section
variable {α β γ δ S : Type} {I : S → Prop}
def O1 (o : Option α) (P : α → Prop) : Prop := ∃ a, o = some a ∧ P a
def O2 (I : S → Prop) (o : Option (α × S)) (P : α → Prop) : Prop := ∃ a b, o = some (a, b) ∧ I b ∧ P a
theorem O1.ret {a : α} {P : α → Prop} (h : P a) : O1 (some a) P := ⟨a, rfl, h⟩
theorem O1.imp {o : Option α} {P Q : α → Prop} (h : O1 o P) (k : ∀ a, P a → Q a) : O1 o Q := let ⟨a, e, p⟩ := h; ⟨a, e, k a p⟩
theorem O1.bind {o : Option α} {f : α → Option β} {P : α → Prop} {Q : β → Prop} (h : O1 o P) (k : ∀ a, P a → O1 (f a) Q) : O1 (Option.bind o f) Q := by
  obtain ⟨a, rfl, p⟩ := h
  exact k a p
theorem O2.ret {a : α} {b : S} {P : α → Prop} (hb : I b) (h : P a) : O2 I (some (a, b)) P := ⟨a, b, rfl, hb, h⟩
theorem O2.imp {o : Option (α × S)} {P Q : α → Prop} (h : O2 I o P) (k : ∀ a, P a → Q a) : O2 I o Q := let ⟨a, b, e, i, p⟩ := h; ⟨a, b, e, i, k a p⟩
theorem O2.bind1 {o : Option α} {f : α → Option (β × S)} {P : α → Prop} {Q : β → Prop} (h : O1 o P) (k : ∀ a, P a → O2 I (f a) Q) : O2 I (Option.bind o f) Q := by
  obtain ⟨a, rfl, p⟩ := h
  exact k a p
theorem O2.ite {c : Bool} {x y : Option (α × S)} {P : α → Prop} (h1 : c = true → O2 I x P) (h2 : c = false → O2 I y P) : O2 I (if c = true then x else y) P := by
  cases c with
  | true => exact h1 rfl
  | false => exact h2 rfl
theorem O1.ite {c : Bool} {x y : Option α} {P : α → Prop} (h1 : c = true → O1 x P) (h2 : c = false → O1 y P) : O1 (if c = true then x else y) P := by
  cases c with
  | true => exact h1 rfl
  | false => exact h2 rfl
end
section
variable {α β : Type} {S : Type} {I : S → Prop}
theorem O2.bind {o : Option (α × S)} {f : α → S → Option (β × S)} {P : α → Prop} {Q : β → Prop} (h : O2 I o P) (k : ∀ a b, I b → P a → O2 I (f a b) Q) : O2 I (bind2 o f) Q := by
  obtain ⟨a, b, rfl, i, p⟩ := h
  exact k a b i p
end
section
variable {α β γ δ R T S : Type} {I : S → Prop} {Q : T → Prop} {g : R → Option (T × S)}
theorem O2.bL0 {o : Option (Lp Unit R)} {f : Option (T × S)} (e : o = some (.go ())) (k : O2 I f Q) : O2 I (bindL0 o f g) Q := by subst e; exact k
theorem O2.bL1 {o : Option (Lp α R)} {f : α → Option (T × S)} {a : α} (e : o = some (.go a)) (k : O2 I (f a) Q) : O2 I (bindL1 o f g) Q := by subst e; exact k
theorem O2.bL2 {o : Option (Lp (α × β) R)} {f : α → β → Option (T × S)} {a : α} {b : β} (e : o = some (.go (a, b))) (k : O2 I (f a b) Q) : O2 I (bindL2 o f g) Q := by subst e; exact k
theorem O2.bL3 {o : Option (Lp (α × β × γ) R)} {f : α → β → γ → Option (T × S)} {a : α} {b : β} {c : γ} (e : o = some (.go (a, b, c))) (k : O2 I (f a b c) Q) : O2 I (bindL3 o f g) Q := by subst e; exact k
end
theorem O2.true_ {S : Type} {I : S → Prop} {o : Option (Bool × S)} (h : O2 I o (fun r => r = true)) : ∃ b, o = some (true, b) := by
  obtain ⟨r, b, e, _, rfl⟩ := h
  exact ⟨b, e⟩
/-! ### lists and texts -/
theorem atI_O {α : Type} {xs : List α} {i : Int} {P : α → Prop} (h0 : 0 ≤ i) (h1 : i < xs.length) (h : ∀ x ∈ xs, P x) : O1 (atI xs i) P := by
  obtain ⟨n, rfl⟩ := Int.eq_ofNat_of_zero_le h0
  have hn : n < xs.length := by omega
  have e : xs[n]? = some xs[n] := List.getElem?_eq_getElem hn
  exact ⟨_, atI_nat e, h _ (List.getElem_mem hn)⟩
theorem tl_inj {x y : Str} (h : tl x = tl y) : x = y := by
  obtain ⟨⟨l⟩⟩ := x
  obtain ⟨⟨m⟩⟩ := y
  have h' : l = m := h
  rw [h']
theorem eqS_tl {x y : Str} : eqS x y = decide (tl x = tl y) := by
  rw [eqS_iff]
  exact decide_eq_decide.mpr ⟨fun h => by rw [h], tl_inj⟩
theorem tl_cut {z : Str} {lo hi : Option Int} : tl (cutS z lo hi) = ((tl z).drop (HT.sIx (tl z).length 0 lo)).take (HT.sIx (tl z).length (tl z).length hi - HT.sIx (tl z).length 0 lo) := by
  rw [← len_tl]
  unfold cutS tl
  rfl
theorem sIx_neg (n d : Nat) {k : Nat} (hk : 0 < k) : HT.sIx n d (some (-(k : Int))) = n - k := by
  show (if (-(k : Int)) < 0 then (-(k : Int) + (n : Int)).toNat else min (-(k : Int)).toNat n) = n - k
  rw [if_pos (by omega)]
  omega
theorem sIx_neg1 (n d : Nat) : HT.sIx n d (some (-1)) = n - 1 := sIx_neg n d (k := 1) (by decide)
theorem sIx_n (n d : Nat) : HT.sIx n d none = d := rfl
theorem tl_sgn (c : Nat) : tl (sgn c) = [c] := rfl
theorem catS_O {a b : Str} {P : Str → Prop} (h : (tl a).length + (tl b).length ≤ 16777216) (p : P (a ++ b)) : O1 (catS a b) P := by
  refine ⟨a ++ b, ?_, p⟩
  unfold catS
  rw [if_pos (by rw [len_tl, len_tl, sizeLine_eq]; exact h)]
theorem mulS_O {x : Str} {n : Int} {P : Str → Prop} (h1 : -(2 ^ 63 : Int) ≤ n) (h2 : n ≤ 16777216) (h3 : (tl x).length * n.toNat ≤ 16777216) (p : P (Txt.mul x n)) : O1 (mulS x n) P := by
  refine ⟨_, ?_, p⟩
  unfold mulS
  rw [if_pos ⟨h1, h2, by rw [len_tl]; exact h3⟩]
theorem codeAt_O {x : Str} {i : Int} {P : Nat → Prop} (h0 : 0 ≤ i) (h1 : i < (tl x).length) (h : ∀ c ∈ tl x, P c) : O1 (codeAt x i) P := atI_O h0 h1 h
theorem rangeO1_O {n : Int} {P : List Int → Prop} (h : n ≤ 16777216) (h0 : -(2 ^ 62) ≤ n) (p : P (rangeL 0 n.toNat)) : O1 (rangeO1 n) P := by
  refine ⟨_, ?_, p⟩
  unfold rangeO1
  rw [if_pos ⟨⟨h0, by omega⟩, by rw [sizeLine_eq]; omega⟩]
theorem joinS_O {sep : Str} {ys : List Str} {P : Str → Prop} (h : (ys.map fun y => (tl y).length).sum + ys.length * (tl sep).length ≤ 16777216) (p : P (Txt.join sep ys)) : O1 (joinS sep ys) P := by
  refine ⟨_, ?_, p⟩
  unfold joinS
  rw [if_pos]
  have e : (ys.map fun y => y.length) = ys.map fun y => (tl y).length := List.map_congr_left fun y _ => len_tl y
  show (ys.map fun y => y.length).sum + ys.length * sep.length ≤ _
  rw [e, len_tl]
  exact h
theorem tl_empty : tl ("" : Str) = [] := by decide +kernel
theorem joinL_nil : ∀ (ys : List (List Nat)), joinL [] ys = ys.flatten
  | [] => rfl
  | [y] => by show y = [y].flatten; simp
  | y :: z :: r => by
    show y ++ ([] ++ joinL [] (z :: r)) = _
    rw [joinL_nil (z :: r)]
    simp
theorem tl_join0 (ys : List Str) : tl (Txt.join ("" : Str) ys) = (ys.map tl).flatten := by rw [tl_joinS, tl_empty, joinL_nil]
/-- a text of no more than n signs -/
def Sh (n : Nat) (x : Str) : Prop := (tl x).length ≤ n
theorem Sh.mono {n m : Nat} {x : Str} (h : Sh n x) (k : n ≤ m) : Sh m x := Nat.le_trans h k
theorem Sh.cut {n : Nat} {x : Str} {lo hi : Option Int} (h : Sh n x) : Sh n (cutS x lo hi) := by
  unfold Sh at *
  rw [tl_cut, List.length_take, List.length_drop]
  omega
theorem Sh.sgn {c : Nat} : Sh 1 (sgn c) := Nat.le_refl 1
theorem Sh.rev {n : Nat} {x : Str} (h : Sh n x) : Sh n (revS x) := by
  unfold Sh at *
  rw [tl_revS, List.length_reverse]
  exact h
theorem Sh.cat {n m : Nat} {a b : Str} (ha : Sh n a) (hb : Sh m b) : Sh (n + m) (a ++ b) := by
  unfold Sh at *
  rw [tl_append, List.length_append]
  omega
theorem Sh.cat_O {n m : Nat} {a b : Str} (ha : Sh n a) (hb : Sh m b) (h : n + m ≤ 16777216 := by decide) : O1 (catS a b) (Sh (n + m)) :=
  catS_O (Nat.le_trans (Nat.add_le_add ha hb) h) (ha.cat hb)
theorem tl_mul_len (x : Str) (n : Int) : (tl (Txt.mul x n)).length = n.toNat * (tl x).length := by
  rw [tl_mul, List.length_flatten, List.map_replicate, List.sum_replicate_nat]
theorem Sh.mul_O {n m : Nat} {x : Str} {i : Int} (hx : Sh n x) (h0 : -1000000 ≤ i) (h1 : i ≤ (m : Nat)) (h2 : m * n ≤ 16777216) (h3 : m ≤ 16777216) : O1 (mulS x i) (Sh (m * n)) := by
  have h4 : i.toNat ≤ m := by omega
  have h5 : i.toNat * (tl x).length ≤ m * n := Nat.mul_le_mul h4 hx
  refine mulS_O (by omega) (by omega) (by rw [Nat.mul_comm]; omega) ?_
  unfold Sh
  rw [tl_mul_len]
  exact h5
theorem sh_sum {n : Nat} : ∀ {ys : List Str}, (∀ y ∈ ys, Sh n y) → (ys.map fun y => (tl y).length).sum ≤ ys.length * n
  | [], _ => by simp
  | y :: ys, h => by
    have h1 := sh_sum (n := n) (ys := ys) fun z hz => h z (List.mem_cons_of_mem _ hz)
    have h2 : (tl y).length ≤ n := h y (List.mem_cons_self ..)
    rw [List.map_cons, List.sum_cons, List.length_cons, Nat.add_mul, Nat.one_mul]
    omega
theorem Sh.join_O {n m : Nat} {ys : List Str} (h : ∀ y ∈ ys, Sh n y) (hm : ys.length ≤ m) (h2 : m * n ≤ 16777216) : O1 (joinS ("" : Str) ys) (Sh (m * n)) := by
  have h1 := sh_sum h
  have h3 : ys.length * n ≤ m * n := Nat.mul_le_mul_right n hm
  have e : (tl ("" : Str)).length = 0 := by rw [tl_empty]; rfl
  refine joinS_O (by rw [e]; omega) ?_
  unfold Sh
  rw [tl_join0, List.length_flatten, List.map_map]
  exact Nat.le_trans h1 h3
theorem rangeL_length {lo : Int} {n : Nat} : (rangeL lo n).length = n := rangeL_len lo n
/-! ### == of data -/
class EqvD (α : Type) [Enc α] : Prop where
  iff : ∀ x y : α, PyData.eqv (Enc.d x) (Enc.d y) = true ↔ x = y
instance : EqvD Int := ⟨fun x y => by show (x == y) = true ↔ _; exact beq_iff_eq⟩
instance : EqvD Bool := ⟨fun x y => by show (x == y) = true ↔ _; exact beq_iff_eq⟩
instance : EqvD Str := ⟨fun x y => by show (x == y) = true ↔ _; exact beq_iff_eq⟩
instance {α : Type} [Enc α] [EqvD α] [NN α] : EqvD (Option α) := ⟨fun x y => by
  cases x with
  | none =>
    cases y with
    | none => exact ⟨fun _ => rfl, fun _ => rfl⟩
    | some y =>
      have n := NN.ne y
      refine ⟨fun h => ?_, (fun h => nomatch h)⟩
      have h' : PyData.eqv .none (Enc.d y) = true := h
      revert h' n
      generalize Enc.d y = d
      intro n h'
      cases d <;> first | exact absurd rfl n | cases h'
  | some x =>
    cases y with
    | none =>
      have n := NN.ne x
      refine ⟨fun h => ?_, (fun h => nomatch h)⟩
      have h' : PyData.eqv (Enc.d x) .none = true := h
      revert h' n
      generalize Enc.d x = d
      intro n h'
      cases d <;> first | exact absurd rfl n | cases h'
    | some y => exact ⟨fun h => congrArg some ((EqvD.iff x y).mp h), fun h => (EqvD.iff x y).mpr (Option.some.inj h)⟩⟩
theorem eqvAll_iff {α : Type} [Enc α] [EqvD α] : ∀ xs ys : List α, PyData.eqvAll (xs.map Enc.d) (ys.map Enc.d) = true ↔ xs = ys
  | [], [] => ⟨fun _ => rfl, fun _ => rfl⟩
  | [], _ :: _ => ⟨(fun h => nomatch h), (fun h => nomatch h)⟩
  | _ :: _, [] => ⟨(fun h => nomatch h), (fun h => nomatch h)⟩
  | x :: xs, y :: ys => by
    show (PyData.eqv (Enc.d x) (Enc.d y) && PyData.eqvAll (xs.map Enc.d) (ys.map Enc.d)) = true ↔ _
    rw [Bool.and_eq_true, EqvD.iff, eqvAll_iff xs ys, List.cons.injEq]
instance {α : Type} [Enc α] [EqvD α] : EqvD (List α) := ⟨fun x y => eqvAll_iff x y⟩
instance {α : Type} [Enc α] [EqvD α] : EqvD (VT α) := ⟨fun x y => by
  obtain ⟨x⟩ := x
  obtain ⟨y⟩ := y
  rw [VT.mk.injEq]
  exact eqvAll_iff x y⟩
instance {α β : Type} [Enc α] [Enc β] [EqvD α] [EqvD β] : EqvD (α × β) := ⟨fun x y => by
  obtain ⟨a, b⟩ := x
  obtain ⟨c, d⟩ := y
  show (PyData.eqv (Enc.d a) (Enc.d c) && (PyData.eqv (Enc.d b) (Enc.d d) && true)) = true ↔ _
  rw [Bool.and_true, Bool.and_eq_true, EqvD.iff, EqvD.iff, Prod.mk.injEq]⟩
instance {α β γ : Type} [Enc α] [Enc β] [Enc γ] [EqvD α] [EqvD β] [EqvD γ] : EqvD (T3 α β γ) := ⟨fun x y => by
  obtain ⟨a, b, e⟩ := x
  obtain ⟨c, d, f⟩ := y
  show (PyData.eqv (Enc.d a) (Enc.d c) && (PyData.eqv (Enc.d b) (Enc.d d) && (PyData.eqv (Enc.d e) (Enc.d f) && true))) = true ↔ _
  rw [Bool.and_true, Bool.and_eq_true, Bool.and_eq_true, EqvD.iff, EqvD.iff, EqvD.iff, T3.mk.injEq]⟩
instance {α β γ δ : Type} [Enc α] [Enc β] [Enc γ] [Enc δ] [EqvD α] [EqvD β] [EqvD γ] [EqvD δ] : EqvD (T4 α β γ δ) := ⟨fun x y => by
  obtain ⟨a, b, e, g⟩ := x
  obtain ⟨c, d, f, h⟩ := y
  show (PyData.eqv (Enc.d a) (Enc.d c) && (PyData.eqv (Enc.d b) (Enc.d d) && (PyData.eqv (Enc.d e) (Enc.d f) && (PyData.eqv (Enc.d g) (Enc.d h) && true)))) = true ↔ _
  rw [Bool.and_true, Bool.and_eq_true, Bool.and_eq_true, Bool.and_eq_true, EqvD.iff, EqvD.iff, EqvD.iff, EqvD.iff, T4.mk.injEq]⟩
theorem eqD_iff {α : Type} [Enc α] [EqvD α] {x y : α} : eqD x y = true ↔ x = y := EqvD.iff x y
theorem eqD_dec {α : Type} [Enc α] [EqvD α] [DecidableEq α] {x y : α} : eqD x y = decide (x = y) := by
  rw [Bool.eq_iff_iff, eqD_iff, decide_eq_true_iff]
theorem eqD_refl {α : Type} [Enc α] [EqvD α] (x : α) : eqD x x = true := eqD_iff.mpr rfl
theorem eqD_false {α : Type} [Enc α] [EqvD α] {x y : α} (h : x ≠ y) : eqD x y = false := Bool.eq_false_iff.mpr fun e => h (eqD_iff.mp e)
theorem alike_self {α : Type} [DecidableEq α] (x : α) : m_l_alike x x = some true := by
  unfold m_l_alike
  rw [if_pos rfl]
theorem bind2_some {α β γ : Type} {a : α} {b : β} {f : α → β → Option γ} : bind2 (some (a, b)) f = f a b := rfl
theorem notT {α : Type} {a b : α} : (if (!true) = true then a else b) = b := rfl
theorem alike_O {α : Type} [DecidableEq α] {x y : α} {P : Bool → Prop} (h : x = y) (p : P true) : O1 (m_l_alike x y) P := by
  refine ⟨true, ?_, p⟩
  unfold m_l_alike
  rw [if_pos h]
end G
/-! Plain laws: patterns, their worth, addresses written. -/
namespace G
open PySem PySem.Spec PyProof.Rows L2 TL
/-- a sign of '01' -/
def isB (c : Nat) : Bool := decide (c ∈ [48, 49])
theorem isB_iff {c : Nat} : isB c = true ↔ c = 48 ∨ c = 49 := by unfold isB; simp
theorem tl01 : tl ("01" : Str) = [48, 49] := by decide +kernel
theorem tlStar : tl ("*" : Str) = [42] := by decide +kernel
theorem tl0 : tl ("0" : Str) = [48] := by decide +kernel
theorem tl1 : tl ("1" : Str) = [49] := by decide +kernel
def Bits (bs : List Nat) : Prop := ∀ c ∈ bs, isB c = true
theorem Bits.nil : Bits [] := fun _ h => nomatch h
theorem Bits.app {a b : List Nat} (ha : Bits a) (hb : Bits b) : Bits (a ++ b) := fun c h => (List.mem_append.mp h).elim (ha c) (hb c)
theorem Bits.take {a : List Nat} (n : Nat) (ha : Bits a) : Bits (a.take n) := fun c h => ha c (List.mem_of_mem_take h)
theorem Bits.drop {a : List Nat} (n : Nat) (ha : Bits a) : Bits (a.drop n) := fun c h => ha c (List.mem_of_mem_drop h)
theorem Bits.one {c : Nat} (h : isB c = true) : Bits [c] := fun d hd => by rw [List.mem_singleton.mp hd]; exact h
theorem Bits.mem01 {c : Nat} (h : c ∈ tl ("01" : Str)) : isB c = true := by rw [tl01] at h; exact decide_eq_true h
theorem Bits.no42 {a : List Nat} (ha : Bits a) : 42 ∉ a := fun h => absurd (ha 42 h) (by decide)
/-- the pattern of w signs that bits bs make -/
def patL (w : Nat) (bs : List Nat) : List Nat := bs ++ (if bs.length < w then [42] else [])
structure Pat (w : Nat) (bs : List Nat) (x : Str) : Prop where
  bits : Bits bs
  le : bs.length ≤ w
  eq : tl x = patL w bs
theorem tl_strip (x y : Str) : tl (Txt.stripChars x y) = ((tl x).take (stripHi y.cps.contains true x (stripLo y.cps.contains true x))).drop (stripLo y.cps.contains true x) := by
  unfold Txt.stripChars
  rw [stripBy_eq]
  show (x.cps.extract _ _).toList = _
  rw [List.drop_take]
  simp [tl]
theorem tw0 {p : Nat → Bool} : ∀ l : List Nat, (∀ c, l.head? = some c → p c = false) → l.takeWhile p = []
  | [], _ => rfl
  | c :: r, h => by rw [List.takeWhile_cons, if_neg (by rw [h c rfl]; exact Bool.false_ne_true)]
theorem strip_star {x : Str} {bs st : List Nat} (e : tl x = bs ++ st) (h : 42 ∉ bs) (hs : st = [] ∨ st = [42]) : tl (Txt.stripChars x ("*" : Str)) = bs := by
  have hc : ∀ c : Nat, (("*" : Str)).cps.contains c = decide (c = 42) := fun c => by
    have e1 : (("*" : Str)).cps = #[42] := by decide +kernel
    rw [e1]
    simp [Bool.beq_eq_decide_eq]
  rw [tl_strip]
  generalize hg : (("*" : Str)).cps.contains = g at *
  have hx : x.cps.toList = bs ++ st := e
  have hlen : x.length = bs.length + st.length := by rw [len_tl, e, List.length_append]
  cases bs with
  | nil =>
    rcases hs with rfl | rfl
    · rw [e]; simp
    · have h1 : stripLo g true x = 1 := by
        unfold stripLo
        rw [if_pos rfl, hx]
        show (List.takeWhile g [42]).length = 1
        rw [List.takeWhile_cons, if_pos (by rw [hc]; decide)]
        rfl
      rw [h1, e]
      rw [List.drop_eq_nil_iff, List.length_take]
      exact Nat.min_le_right _ _
  | cons c r =>
    have hc42 : g c = false := by rw [hc]; exact decide_eq_false fun z => h (by rw [z]; exact List.mem_cons_self ..)
    have h1 : stripLo g true x = 0 := by
      unfold stripLo
      rw [if_pos rfl, hx]
      show (List.takeWhile g (c :: (r ++ st))).length = 0
      rw [List.takeWhile_cons, if_neg (by rw [hc42]; decide)]
      rfl
    have hlast : ∀ l : List Nat, 42 ∉ l → l.reverse.takeWhile g = [] := fun l hl => tw0 _ fun d hd => by
      rw [hc]
      refine decide_eq_false fun z => hl ?_
      rw [← z]
      exact List.mem_reverse.mp (List.mem_of_mem_head? hd)
    have h2 : stripHi g true x 0 = (c :: r).length := by
      unfold stripHi
      rw [if_pos rfl, hx, List.drop_zero, hlen]
      rcases hs with rfl | rfl
      · rw [List.append_nil, hlast _ h]
        simp
      · rw [List.reverse_append]
        show _ - (List.takeWhile g (42 :: (c :: r).reverse)).length = _
        rw [List.takeWhile_cons, if_pos (by rw [hc]; decide), hlast _ h]
        simp
    rw [h1, h2, e, List.drop_zero, List.take_left]
theorem part_star {x : Str} {bs st : List Nat} (e : tl x = bs ++ st) (h : 42 ∉ bs) (hs : st = [] ∨ st = [42]) : tl (partS x ("*" : Str)).a = bs := by
  have ex : x = ⟨bs.toArray⟩ ++ (⟨st.toArray⟩ : Str) := tl_inj (by rw [tl_append, e])
  have hb : 42 ∉ tl (⟨bs.toArray⟩ : Str) := by simpa [tl] using h
  rcases hs with rfl | rfl
  · have e2 : x = ⟨bs.toArray⟩ := tl_inj (by rw [e]; simp [tl])
    show tl (Txt.partition x ("*" : Str)).1 = bs
    rw [e2, TL.partition_none tlStar hb]
  · have e2 : x = (⟨bs.toArray⟩ : Str) ++ ("*" : Str) ++ Str.empty := tl_inj (by rw [tl_append, tl_append, tlStar, e]; simp [tl, Str.empty])
    show tl (Txt.partition x ("*" : Str)).1 = bs
    rw [e2, TL.partition_app tlStar hb]
theorem Pat.strip {w : Nat} {bs : List Nat} {x : Str} (p : Pat w bs x) : tl (Txt.stripChars x ("*" : Str)) = bs := by
  refine strip_star (st := if bs.length < w then [42] else []) p.eq p.bits.no42 ?_
  split
  · exact .inr rfl
  · exact .inl rfl
theorem Pat.part {w : Nat} {bs : List Nat} {x : Str} (p : Pat w bs x) : tl (partS x ("*" : Str)).a = bs := by
  refine part_star (st := if bs.length < w then [42] else []) p.eq p.bits.no42 ?_
  split
  · exact .inr rfl
  · exact .inl rfl
theorem Pat.len {w : Nat} {bs : List Nat} {x : Str} (p : Pat w bs x) : (tl x).length ≤ w := by
  rw [p.eq, patL, List.length_append]
  have := p.le
  split
  · simp; omega
  · simp; omega
/-! ### worth -/
def wr (bs : List Nat) : Nat := bs.foldl (fun n c => 2 * n + (if c = 49 then 1 else 0)) 0
theorem wr_from (bs : List Nat) : ∀ a : Nat, bs.foldl (fun n c => 2 * n + (if c = 49 then 1 else 0)) a = a * 2 ^ bs.length + wr bs := by
  induction bs with
  | nil => intro a; simp [wr]
  | cons c bs ih =>
    intro a
    have h0 := ih (2 * 0 + (if c = 49 then 1 else 0))
    show List.foldl _ (2 * a + (if c = 49 then 1 else 0)) bs = _
    rw [ih]
    have h1 : wr (c :: bs) = (2 * 0 + (if c = 49 then 1 else 0)) * 2 ^ bs.length + wr bs := h0
    rw [h1, List.length_cons, Nat.pow_succ]
    generalize (if c = 49 then 1 else 0) = d
    generalize 2 ^ bs.length = p
    rw [Nat.add_mul, Nat.mul_zero, Nat.zero_add, Nat.add_assoc, Nat.mul_comm 2 a, Nat.mul_assoc, Nat.mul_comm 2 p]
theorem wr_app (a b : List Nat) : wr (a ++ b) = wr a * 2 ^ b.length + wr b := by
  unfold wr
  rw [List.foldl_append]
  exact wr_from b _
theorem wr_cons (c : Nat) (b : List Nat) : wr (c :: b) = (if c = 49 then 1 else 0) * 2 ^ b.length + wr b := by
  have := wr_app [c] b
  rw [List.singleton_append] at this
  rw [this]
  congr 2
  simp [wr]
theorem wr_snoc (a : List Nat) (c : Nat) : wr (a ++ [c]) = 2 * wr a + (if c = 49 then 1 else 0) := by
  unfold wr
  rw [List.foldl_append]
  rfl
theorem wr_lt : ∀ bs : List Nat, wr bs < 2 ^ bs.length
  | [] => by decide
  | c :: bs => by
    have := wr_lt bs
    rw [wr_cons, List.length_cons, Nat.pow_succ]
    split <;> omega
theorem wr_zeros (k : Nat) : wr (List.replicate k 48) = 0 := by
  induction k with
  | zero => rfl
  | succ k ih => rw [List.replicate_succ, wr_cons, ih]; simp
theorem wr_ones (k : Nat) : wr (List.replicate k 49) + 1 = 2 ^ k := by
  induction k with
  | zero => rfl
  | succ k ih =>
    rw [List.replicate_succ, wr_cons, List.length_replicate, Nat.pow_succ, if_pos rfl]
    omega
theorem wr_inj : ∀ {a b : List Nat}, Bits a → Bits b → a.length = b.length → wr a = wr b → a = b
  | [], [], _, _, _, _ => rfl
  | [], _ :: _, _, _, h, _ => nomatch h
  | _ :: _, [], _, _, h, _ => nomatch h
  | c :: a, d :: b, ha, hb, h, e => by
    have hl : a.length = b.length := Nat.succ.inj h
    rw [wr_cons, wr_cons, hl] at e
    have h1 := wr_lt a
    have h2 := wr_lt b
    rw [hl] at h1
    have hc := isB_iff.mp (ha c (List.mem_cons_self ..))
    have hd := isB_iff.mp (hb d (List.mem_cons_self ..))
    have he : c = d ∧ wr a = wr b := by
      rcases hc with rfl | rfl <;> rcases hd with rfl | rfl <;> simp at e ⊢ <;> omega
    rw [he.1, wr_inj (fun x hx => ha x (List.mem_cons_of_mem _ hx)) (fun x hx => hb x (List.mem_cons_of_mem _ hx)) hl he.2]
theorem toI_sgn1 (c : Nat) : toI (eqS (sgn c) ("1" : Str)) = ((if c = 49 then 1 else 0 : Nat) : Int) := by
  rw [eqS_tl, tl_sgn, tl1]
  by_cases h : c = 49
  · subst h; rfl
  · rw [decide_eq_false (fun e => h (List.cons.inj e).1), if_neg h]; rfl
theorem log2_lt64 {a : Nat} (h : a < 2 ^ 64) : a.log2 < 64 := by
  by_cases h0 : a = 0
  · subst h0; decide
  · exact (Nat.log2_lt h0).mpr h
theorem mulI_nat {a b : Nat} (ha : a < 2 ^ 64) (hb : b < 2 ^ 64) : mulI (a : Int) (b : Int) = some ((a * b : Nat) : Int) := by
  unfold mulI
  have h1 := log2_lt64 ha
  have h2 := log2_lt64 hb
  rw [if_pos (by rw [Int.natAbs_natCast, Int.natAbs_natCast]; omega)]
  rfl
theorem shlI_one {k : Nat} (h : k ≤ 1000000) : shlI 1 (k : Int) = some ((2 ^ k : Nat) : Int) := by
  unfold shlI
  rw [if_pos ⟨by omega, by omega, by decide⟩, Int.one_mul, Int.toNat_natCast]
  simp
theorem shrI_nat {n k : Nat} : shrI (n : Int) (k : Int) = some ((n / 2 ^ k : Nat) : Int) := by
  unfold shrI
  rw [if_pos (by omega), Int.toNat_natCast]
  simp
theorem and_one (n : Nat) : Builtin.bitAnd (n : Int) 1 = ((n % 2 : Nat) : Int) := by
  have := Bits.bitAnd_mask (x := (n : Int)) 1 (by omega)
  rw [show ((2 : Int) ^ 1 - 1) = 1 by decide] at this
  rw [this]
  simp
theorem pow_lt64 {k : Nat} (h : k < 64) : 2 ^ k < 2 ^ 64 := Nat.pow_lt_pow_right (by decide) h
/-! ### an address written with w signs -/
def bin : Nat → Nat → List Nat
  | 0, _ => []
  | w + 1, n => bin w (n / 2) ++ [48 + n % 2]
theorem bin_len : ∀ w n : Nat, (bin w n).length = w
  | 0, _ => rfl
  | w + 1, n => by rw [bin, List.length_append, bin_len w]; rfl
theorem bin_bits : ∀ w n : Nat, Bits (bin w n)
  | 0, _ => Bits.nil
  | w + 1, n => (bin_bits w _).app (Bits.one (isB_iff.mpr (by have := Nat.mod_two_eq_zero_or_one n; omega)))
theorem wr_bin : ∀ w n : Nat, wr (bin w n) = n % 2 ^ w
  | 0, n => by rw [Nat.pow_zero, Nat.mod_one]; rfl
  | w + 1, n => by
    rw [bin, wr_snoc, wr_bin w, Nat.pow_succ, Nat.mul_comm (2 ^ w) 2, Nat.mod_mul]
    have : (if 48 + n % 2 = 49 then 1 else 0) = n % 2 := by
      have := Nat.mod_two_eq_zero_or_one n
      split <;> omega
    rw [this]
    omega
theorem bin_take : ∀ (k j n : Nat), (bin (k + j) n).take k = bin k (n / 2 ^ j)
  | k, 0, n => by
    rw [Nat.add_zero, Nat.pow_zero, Nat.div_one]
    exact List.take_of_length_le (by rw [bin_len]; exact Nat.le_refl _)
  | k, j + 1, n => by
    show (bin (k + j) (n / 2) ++ [48 + n % 2]).take k = _
    rw [List.take_append_of_le_length (by rw [bin_len]; omega), bin_take k j, Nat.div_div_eq_div_mul, Nat.pow_succ, Nat.mul_comm 2]
theorem bin_top : ∀ k n : Nat, bin (k + 1) n = (48 + n / 2 ^ k % 2) :: bin k n
  | 0, n => by rw [Nat.pow_zero, Nat.div_one]; rfl
  | k + 1, n => by
    rw [bin, bin_top k (n / 2), Nat.div_div_eq_div_mul, Nat.mul_comm 2, ← Nat.pow_succ]
    rfl
theorem code01 {d : Nat} (h : d < 2) : codeAt ("01" : Str) (d : Nat) = some (48 + d) := by
  have : d = 0 ∨ d = 1 := by omega
  rcases this with rfl | rfl
  · exact atI_nat (by rw [tl01]; rfl)
  · exact atI_nat (by rw [tl01]; rfl)
end G
namespace K03
open PySem PySem.Spec PyProof.Rows L2 TL G
def topS (i : Nat) : Stmt := PySem.Challenge.pw_wishnet_k03_parts_of_patterns.main.body.getD i (.Pass ⟨0, 0, 0, 0⟩)
abbrev s_bits_of : Stmt := topS 2
abbrev s_span_of : Stmt := topS 3
abbrev s_parts_of : Stmt := topS 4
abbrev s_l_bag : Stmt := topS 6
abbrev s_l_draw : Stmt := topS 7
abbrev s_l_bits : Stmt := topS 8
abbrev s_l_worth : Stmt := topS 9
abbrev s_l_size : Stmt := topS 10
abbrev s_l_one : Stmt := topS 11
abbrev s_l_some : Stmt := topS 12
abbrev s_l_span : Stmt := topS 13
abbrev s_l_alike : Stmt := topS 14
abbrev s_l_grouped : Stmt := topS 15
abbrev s_l_cut_right : Stmt := topS 16
abbrev s_law : Stmt := topS 17
structure Txt (K : PySem.W.Frag) (mg : Str → Option Value) where
  a_bits_of : Addr
  d_bits_of : FuncData
  F_bits_of : FnP K "bits_of" s_bits_of a_bits_of d_bits_of
  g_bits_of : mg "bits_of" = some (.ref a_bits_of)
  a_span_of : Addr
  d_span_of : FuncData
  F_span_of : FnP K "span_of" s_span_of a_span_of d_span_of
  g_span_of : mg "span_of" = some (.ref a_span_of)
  a_parts_of : Addr
  d_parts_of : FuncData
  F_parts_of : FnP K "parts_of" s_parts_of a_parts_of d_parts_of
  g_parts_of : mg "parts_of" = some (.ref a_parts_of)
  a_l_bag : Addr
  d_l_bag : FuncData
  F_l_bag : FnP K "_law_bag" s_l_bag a_l_bag d_l_bag
  g_l_bag : mg "_law_bag" = some (.ref a_l_bag)
  a_l_draw : Addr
  d_l_draw : FuncData
  F_l_draw : FnP K "_law_draw" s_l_draw a_l_draw d_l_draw
  g_l_draw : mg "_law_draw" = some (.ref a_l_draw)
  a_l_bits : Addr
  d_l_bits : FuncData
  F_l_bits : FnP K "_law_bits" s_l_bits a_l_bits d_l_bits
  g_l_bits : mg "_law_bits" = some (.ref a_l_bits)
  a_l_worth : Addr
  d_l_worth : FuncData
  F_l_worth : FnP K "_law_worth" s_l_worth a_l_worth d_l_worth
  g_l_worth : mg "_law_worth" = some (.ref a_l_worth)
  a_l_size : Addr
  d_l_size : FuncData
  F_l_size : FnP K "_law_size" s_l_size a_l_size d_l_size
  g_l_size : mg "_law_size" = some (.ref a_l_size)
  a_l_one : Addr
  d_l_one : FuncData
  F_l_one : FnP K "_law_one" s_l_one a_l_one d_l_one
  g_l_one : mg "_law_one" = some (.ref a_l_one)
  a_l_some : Addr
  d_l_some : FuncData
  F_l_some : FnP K "_law_some" s_l_some a_l_some d_l_some
  g_l_some : mg "_law_some" = some (.ref a_l_some)
  a_l_span : Addr
  d_l_span : FuncData
  F_l_span : FnP K "_law_span" s_l_span a_l_span d_l_span
  g_l_span : mg "_law_span" = some (.ref a_l_span)
  a_l_alike : Addr
  d_l_alike : FuncData
  F_l_alike : FnP K "_law_alike" s_l_alike a_l_alike d_l_alike
  g_l_alike : mg "_law_alike" = some (.ref a_l_alike)
  a_l_grouped : Addr
  d_l_grouped : FuncData
  F_l_grouped : FnP K "_law_grouped" s_l_grouped a_l_grouped d_l_grouped
  g_l_grouped : mg "_law_grouped" = some (.ref a_l_grouped)
  a_l_cut_right : Addr
  d_l_cut_right : FuncData
  F_l_cut_right : FnP K "_law_cut_right" s_l_cut_right a_l_cut_right d_l_cut_right
  g_l_cut_right : mg "_law_cut_right" = some (.ref a_l_cut_right)
  a_law : Addr
  d_law : FuncData
  F_law : FnP K "law" s_law a_law d_law
  g_law : mg "law" = some (.ref a_law)
  n_abs : mg "abs" = none
  n_all : mg "all" = none
  n_bool : mg "bool" = none
  n_int : mg "int" = none
  n_isinstance : mg "isinstance" = none
  n_len : mg "len" = none
  n_list : mg "list" = none
  n_range : mg "range" = none
  n_set : mg "set" = none
  n_sorted : mg "sorted" = none
  n_str : mg "str" = none
  n_tuple : mg "tuple" = none
  n_zip : mg "zip" = none
  t_STAR : Tok
  k_STAR : mg "STAR" = some (.str "*" t_STAR)
/-! ### the bag -/
structure BOk (b : Bag) : Prop where
  lo : 0 ≤ b.seed
  hi : b.seed < 2147483648
  len : b.cells.length ≤ 63
abbrev N_l_bag : List Str := ["_law_script", "_law_seed", "_law_cell"]
theorem sc_l_bag : FnScope N_l_bag ["_law_script"] (defScope s_l_bag) := ⟨rfl, rfl, rfl, by decide +kernel, rfl, by decide +kernel, by decide +kernel⟩
def sp_l_bag (K : PySem.W.Frag) : Sp := fun vs H Q _ => ∃ (a : Addr) (ns : List Int), vs = [.ref a] ∧ SqL K H a (ns.map V.int) ∧ ns.length ≤ 63 ∧ (∀ (B C : Addr) (b : Bag) (F H' : Hp), Same F H' → BagAt F H' B C b → BOk b → Q (.ref B) H')
/-! ### the draw -/
def skip0 : List Int → Nat → Nat
  | [], k => k
  | x :: r, k => if x = 0 then skip0 r (k + 1) else k
def stir (s c : Int) : Int := (s ^ 3 + 48271 * s + 2039 * c + 7) % 2147483647
def m_l_draw (b : Bag) (n : Int) : Option (Int × Bag) :=
  if (0 < n ∧ n.natAbs.log2 < 9000) ∧ (0 ≤ b.seed ∧ b.seed < 2147483648 ∧ b.cells.length ≤ sizeLine) then
    match b.cells[skip0 (b.cells.drop b.at_) b.at_]? with
    | some x => some (x % n, { b with at_ := skip0 (b.cells.drop b.at_) b.at_, cells := b.cells.set (skip0 (b.cells.drop b.at_) b.at_) (x / n) })
    | none => some (stir b.seed (b.cnt + 1) / 16 % n, { b with at_ := skip0 (b.cells.drop b.at_) b.at_, seed := stir b.seed (b.cnt + 1), cnt := b.cnt + 1 })
  else none
theorem BagAt.put {F H : Hp} {B C : Addr} {b b' : Bag} (a : BagAt F H B C b) (e : b'.cells = b.cells) : BagAt F (upd H B (.lst [.ref C, .int (b'.at_ : Nat), .int b'.seed, .int b'.cnt])) B C b' :=
  ⟨upd_same, by rw [upd_ne a.ne.symm, a.hC, e], a.ne, a.fB, a.fC⟩
theorem BagAt.cell {F H : Hp} {B C : Addr} {b : Bag} (a : BagAt F H B C b) (cs : List Int) : BagAt F (upd H C (.lst (cs.map V.int))) B C { b with cells := cs } :=
  ⟨by rw [upd_ne a.ne, a.hB], upd_same, a.ne, a.fB, a.fC⟩
theorem atI_map {xs : List Int} {k : Nat} {x : Int} (h : xs[k]? = some x) : atI (xs.map V.int) (k : Nat) = some (.int x) := atI_nat (by rw [List.getElem?_map, h]; rfl)
theorem ixN_nat {n k : Nat} (h : k < n) : ixN n (k : Nat) = some k := by unfold ixN; simp; omega
abbrev N_l_draw : List Str := ["_law_bag_here", "_law_many", "_law_left"]
theorem sc_l_draw : FnScope N_l_draw ["_law_bag_here", "_law_many"] (defScope s_l_draw) := ⟨rfl, rfl, rfl, by decide +kernel, rfl, by decide +kernel, by decide +kernel⟩
def sp_l_draw (K : PySem.W.Frag) : Sp := fun vs H Q _ => ∃ (F : Hp) (B C : Addr) (b : Bag) (y_many : Int) (r : Int) (b' : Bag), vs = [.ref B, .int y_many] ∧ Same F H ∧ BagAt F H B C b ∧ m_l_draw b y_many = some (r, b') ∧ (∀ F' H', Gr (Bc B C) F H F' H' → BagAt F' H' B C b' → Q (.int r) H')
/-! ### alike -/
abbrev N_l_alike : List Str := ["_law_found", "_law_due", "_law_k"]
theorem sc_l_alike : FnScope N_l_alike ["_law_found", "_law_due"] (defScope s_l_alike) := ⟨rfl, rfl, rfl, by decide +kernel, rfl, by decide +kernel, by decide +kernel⟩

/-! ### bits_of -/
def m_bits_of (x_pattern : Str) : Str :=
  (partS x_pattern ("*" : Str)).a
abbrev N_bits_of : List Str := ["pattern"]
theorem sc_bits_of : FnScope N_bits_of ["pattern"] (defScope s_bits_of) := ⟨rfl, rfl, rfl, by decide +kernel, rfl, by decide +kernel, by decide +kernel⟩
def sp_bits_of (K : PySem.W.Frag) : Sp := fun vs H Q _ => ∃ (x_pattern : Str), vs = [.str x_pattern] ∧ GS x_pattern ∧ (∀ F' H', Gr M0 H H F' H' → GS (m_bits_of x_pattern) → Q (.str (m_bits_of x_pattern)) H')
/-! ### span_of -/
def m_span_of_l1  : List Nat → Int → (Option (Int))
  | [], x_number => some x_number
  | e23 :: xs_, x_number =>
    Option.bind (some (((2 : Int) * x_number) + (toI (eqS (sgn e23) ("1" : Str))))) fun x_number25 =>
    m_span_of_l1  xs_ x_number25
def m_span_of (x_pattern : Str) (x_width : Int) : Option (Int × Int) :=
  Option.bind (some (m_bits_of x_pattern)) fun x_bits7 =>
  Option.bind (m_span_of_l1  (x_bits7).cps.toList (0 : Int)) fun x_number11 =>
  Option.bind (shlI (1 : Int) (x_width - ((x_bits7.length : Nat) : Int))) fun t36 =>
  Option.bind (mulI x_number11 t36) fun t41 =>
  Option.bind (mulI (x_number11 + (1 : Int)) t36) fun t44 =>
  some (t41, t44)
abbrev N_span_of : List Str := ["pattern", "width", "bits", "number", "sign", "size"]
theorem sc_span_of : FnScope N_span_of ["pattern", "width"] (defScope s_span_of) := ⟨rfl, rfl, rfl, by decide +kernel, rfl, by decide +kernel, by decide +kernel⟩
def sp_span_of (K : PySem.W.Frag) : Sp := fun vs H Q _ => ∃ (F : Hp) (x_pattern : Str) (x_width : Int) (r : (Int × Int)), vs = [.str x_pattern, .int x_width] ∧ Same F H ∧ GS x_pattern ∧ m_span_of x_pattern x_width = some r ∧ (∀ v F' H', Gr M0 F H F' H' → R K F' v r → Q v H')
/-! ### parts_of -/
def m_parts_of_l1 (x_width : Int) : List Str → (List Int) → (Option ((List Int)))
  | [], x_edges => some x_edges
  | e29 :: xs_, x_edges =>
    Option.bind (m_span_of e29 x_width) fun r33 =>
    Option.bind (conL x_edges [r33.1, r33.2]) fun t50 =>
    m_parts_of_l1 x_width xs_ t50
def m_parts_of (x_patterns : (List Str)) (x_width : Int) : Option (List (Int × Int)) :=
  Option.bind (shlI (1 : Int) x_width) fun t1 =>
  Option.bind (some ([(0 : Int), t1] : List Int)) fun x_edges9 =>
  Option.bind (m_parts_of_l1 x_width x_patterns x_edges9) fun x_edges13 =>
  Option.bind (ssetO x_edges13) fun t69 =>
  some (List.zip t69 (cutL t69 (some (1 : Int)) none))
abbrev N_parts_of : List Str := ["patterns", "width", "edges", "pattern", "rising"]
theorem sc_parts_of : FnScope N_parts_of ["patterns", "width"] (defScope s_parts_of) := ⟨rfl, rfl, rfl, by decide +kernel, rfl, by decide +kernel, by decide +kernel⟩
def sp_parts_of (K : PySem.W.Frag) : Sp := fun vs H Q _ => ∃ (F : Hp) (p_x_patterns : Addr) (ws_x_patterns : List V) (x_patterns : (List Str)) (x_width : Int) (r : (List (Int × Int))), vs = [.ref p_x_patterns, .int x_width] ∧ Same F H ∧ SqL K H p_x_patterns ws_x_patterns ∧ ws_x_patterns.length ≤ sizeLine ∧ RL K F ws_x_patterns x_patterns ∧ ¬ M0 p_x_patterns ∧ m_parts_of x_patterns x_width = some r ∧ (∀ p ws F' H', Gr M0 F H F' H' → H p = none → H' p = some (.lst ws) → F' p = none → ws.length ≤ sizeLine → RL K F' ws r → Q (.ref p) H')
/-! ### l_bits -/
def m_l_bits_c1  : List Int → Bag → Option (List Str × Bag)
  | [], b => some ([], b)
  | e82 :: xs_, b =>
    bind2 (m_l_draw b (2 : Int)) fun r84 b85 =>
    Option.bind (codeAt ("01" : Str) r84) fun c94 =>
    bind2 (m_l_bits_c1  xs_ b85) fun rest97 b98 => some ((sgn c94) :: rest97, b98)
def m_l_bits (b : Bag) (y_size_here : Int) : Option (Str × Bag) :=
  bind2 (m_l_draw b (4 : Int)) fun r1 b2 =>
  if (eqI r1 (0 : Int)) then (bind2 (m_l_draw b2 (2 : Int)) fun r10 b11 =>
 Option.bind (codeAt ("01" : Str) r10) fun c19 =>
 bind2 (if (decide ((0 : Int) < y_size_here)) then (Option.bind (mulS (sgn c19) y_size_here) fun t26 => bind2 (m_l_draw b11 (2 : Int)) fun r29 b30 => Option.bind (codeAt ("01" : Str) r29) fun c39 => Option.bind (catS t26 (sgn c39)) fun t41 => some ((cutS t41 (some (1 : Int)) (some (y_size_here + (1 : Int)))), b30)) else ( some (("" : Str), b11))) fun c21 b22 =>
 some (c21, b22)) else (Option.bind (rangeO1 y_size_here) fun l53 =>
 bind2 (m_l_bits_c1  l53 b2) fun l62 b63 =>
 Option.bind (joinS ("" : Str) l62) fun t118 =>
 some (t118, b63))
abbrev N_l_bits : List Str := ["_law_bag_here", "_law_size_here", "_law_sign", "_law_k"]
theorem sc_l_bits : FnScope N_l_bits ["_law_bag_here", "_law_size_here"] (defScope s_l_bits) := ⟨rfl, rfl, rfl, by decide +kernel, rfl, by decide +kernel, by decide +kernel⟩
def sp_l_bits (K : PySem.W.Frag) : Sp := fun vs H Q _ => ∃ (F : Hp) (B C : Addr) (b : Bag) (y_size_here : Int) (r : Str) (b' : Bag), vs = [.ref B, .int y_size_here] ∧ Same F H ∧ BagAt F H B C b ∧ m_l_bits b y_size_here = some (r, b') ∧ (∀ F' H', Gr (Bc B C) F H F' H' → BagAt F' H' B C b' → GS r → Q (.str r) H')
/-! ### l_worth -/
def m_l_worth_l1  : List Nat → Int → (Option (Int))
  | [], y_found => some y_found
  | e13 :: xs_, y_found =>
    Option.bind (some ((y_found * (2 : Int)) + (toI (eqS (sgn e13) ("1" : Str))))) fun y_found15 =>
    m_l_worth_l1  xs_ y_found15
def m_l_worth (y_bits_here : Str) : Option Int :=
  Option.bind (m_l_worth_l1  (y_bits_here).cps.toList (0 : Int)) fun y_found1 =>
  some y_found1
abbrev N_l_worth : List Str := ["_law_bits_here", "_law_found", "_law_sign"]
theorem sc_l_worth : FnScope N_l_worth ["_law_bits_here"] (defScope s_l_worth) := ⟨rfl, rfl, rfl, by decide +kernel, rfl, by decide +kernel, by decide +kernel⟩
def sp_l_worth (K : PySem.W.Frag) : Sp := fun vs H Q _ => ∃ (y_bits_here : Str) (r : Int), vs = [.str y_bits_here] ∧ GS y_bits_here ∧ m_l_worth y_bits_here = some r ∧ (∀ F' H', Gr M0 H H F' H' → Q (.int r) H')
/-! ### l_size -/
def m_l_size (b : Bag)  : Option (Int × Bag) :=
  bind2 (m_l_draw b (6 : Int)) fun r1 b2 =>
  bind2 (m_l_draw b2 (30 : Int)) fun r10 b11 =>
  bind2 (m_l_draw b11 (3 : Int)) fun r19 b20 =>
  bind2 (m_l_draw b20 (4 : Int)) fun r35 b36 =>
  Option.bind (atI ([((1 : Int) + r1), ((1 : Int) + r10), (30 : Int), ((1 : Int) + r19)] : List Int) r35) fun t45 =>
  some (t45, b36)
abbrev N_l_size : List Str := ["_law_bag_here"]
theorem sc_l_size : FnScope N_l_size ["_law_bag_here"] (defScope s_l_size) := ⟨rfl, rfl, rfl, by decide +kernel, rfl, by decide +kernel, by decide +kernel⟩
def sp_l_size (K : PySem.W.Frag) : Sp := fun vs H Q _ => ∃ (F : Hp) (B C : Addr) (b : Bag) (r : Int) (b' : Bag), vs = [.ref B] ∧ Same F H ∧ BagAt F H B C b ∧ m_l_size b  = some (r, b') ∧ (∀ F' H', Gr (Bc B C) F H F' H' → BagAt F' H' B C b' → Q (.int r) H')
/-! ### l_one -/
def m_l_one (b : Bag) (y_size_here : Int) (y_some_here : (List Str)) : Option (Str × Bag) :=
  bind2 (m_l_draw b (y_size_here + (1 : Int))) fun r1 b2 =>
  bind2 (m_l_bits b2 r1) fun r10 b11 =>
  bind2 (m_l_draw b11 (5 : Int)) fun r19 b20 =>
  bind2 (if ((!eqD y_some_here ([] : (List Str))) && (decide (r19 < (3 : Int)))) then (bind2 (m_l_draw b20 (((y_some_here).length : Nat) : Int)) fun r52 b53 =>
 Option.bind (atI y_some_here r52) fun t62 =>
 Option.bind (some (Txt.stripChars t62 ("*" : Str))) fun y_near68 =>
 Option.bind (some (dgetS [(("0" : Str), ("1" : Str)), (("1" : Str), ("0" : Str))] (cutS y_near68 (some (-(1 : Int))) none) ("" : Str))) fun y_turned79 =>
 bind2 (m_l_draw b53 (((y_near68.length : Nat) : Int) + (1 : Int))) fun r83 b84 =>
 bind2 (m_l_draw b84 (2 : Int)) fun r93 b94 =>
 Option.bind (codeAt ("01" : Str) r93) fun c103 =>
 Option.bind (catS y_near68 (sgn c103)) fun t105 =>
 Option.bind (catS (cutS y_near68 none (some (-(1 : Int)))) y_turned79) fun t108 =>
 Option.bind (atI ([(cutS y_near68 none (some r83)), t105, t108] : List Str) r19) fun t120 =>
 some (t120, b94)) else (some (r10, b20))) fun y_bits_here28 b29 =>
  bind2 (if (eqI r19 (4 : Int)) then (bind2 (m_l_bits b29 (y_size_here - ((y_bits_here28.length : Nat) : Int))) fun r140 b141 =>
 Option.bind (catS y_bits_here28 r140) fun t149 =>
 some (t149, b141)) else (some (y_bits_here28, b29))) fun y_bits_here137 b138 =>
  Option.bind (some (cutS y_bits_here137 none (some y_size_here))) fun y_bits_here163 =>
  Option.bind (mulS ("*" : Str) (toI (decide (((y_bits_here163.length : Nat) : Int) < y_size_here)))) fun t167 =>
  Option.bind (catS y_bits_here163 t167) fun t170 =>
  some (t170, b138)
abbrev N_l_one : List Str := ["_law_bag_here", "_law_size_here", "_law_some_here", "_law_bits_here", "_law_pick", "_law_near", "_law_turned", "_law_cut"]
theorem sc_l_one : FnScope N_l_one ["_law_bag_here", "_law_size_here", "_law_some_here"] (defScope s_l_one) := ⟨rfl, rfl, rfl, by decide +kernel, rfl, by decide +kernel, by decide +kernel⟩
def sp_l_one (K : PySem.W.Frag) : Sp := fun vs H Q _ => ∃ (F : Hp) (B C : Addr) (b : Bag) (y_size_here : Int) (p_y_some_here : Addr) (ws_y_some_here : List V) (y_some_here : (List Str)) (r : Str) (b' : Bag), vs = [.ref B, .int y_size_here, .ref p_y_some_here] ∧ Same F H ∧ BagAt F H B C b ∧ SqL K H p_y_some_here ws_y_some_here ∧ ws_y_some_here.length ≤ sizeLine ∧ RL K F ws_y_some_here y_some_here ∧ ¬ (Bc B C) p_y_some_here ∧ m_l_one b y_size_here y_some_here = some (r, b') ∧ (∀ F' H', Gr (Bc B C) F H F' H' → BagAt F' H' B C b' → GS r → Q (.str r) H')
/-! ### l_some -/
def m_l_some_l1 (y_size_here : Int) : List Int → (List Str) → Bag → (Option ((List Str) × Bag))
  | [], y_found, b => some (y_found, b)
  | e75 :: xs_, y_found, b =>
    bind2 (m_l_one b y_size_here y_found) fun r77 b78 =>
    Option.bind (appL y_found r77) fun t87 =>
    m_l_some_l1 y_size_here xs_ t87 b78
def m_l_some (b : Bag) (y_size_here : Int) (y_most : Int) : Option ((List Str) × Bag) :=
  bind2 (m_l_draw b (6 : Int)) fun r8 b9 =>
  bind2 (m_l_draw b9 (y_most + (1 : Int))) fun r18 b19 =>
  bind2 (m_l_draw b19 (2 : Int)) fun r37 b38 =>
  Option.bind (atI ([r8, r18] : List Int) r37) fun t48 =>
  Option.bind (rangeO1 t48) fun l53 =>
  bind2 (m_l_some_l1 y_size_here l53 ([] : (List Str)) b38) fun y_found56 b57 =>
  some (y_found56, b57)
abbrev N_l_some : List Str := ["_law_bag_here", "_law_size_here", "_law_most", "_law_found", "_law_k"]
theorem sc_l_some : FnScope N_l_some ["_law_bag_here", "_law_size_here", "_law_most"] (defScope s_l_some) := ⟨rfl, rfl, rfl, by decide +kernel, rfl, by decide +kernel, by decide +kernel⟩
def sp_l_some (K : PySem.W.Frag) : Sp := fun vs H Q _ => ∃ (F : Hp) (B C : Addr) (b : Bag) (y_size_here : Int) (y_most : Int) (r : (List Str)) (b' : Bag), vs = [.ref B, .int y_size_here, .int y_most] ∧ Same F H ∧ BagAt F H B C b ∧ m_l_some b y_size_here y_most = some (r, b') ∧ (∀ p ws F' H', Gr (Bc B C) F H F' H' → BagAt F' H' B C b' → H p = none → H' p = some (.lst ws) → F' p = none → ws.length ≤ sizeLine → RL K F' ws r → Q (.ref p) H')
/-! ### l_span -/
def m_l_span (y_one_here : Str) (y_size_here : Int) : Option (Int × Int) :=
  Option.bind (some (Txt.stripChars y_one_here ("*" : Str))) fun y_bits_here1 =>
  Option.bind (some (y_size_here - ((y_bits_here1.length : Nat) : Int))) fun y_left5 =>
  Option.bind (mulS ("0" : Str) y_left5) fun t8 =>
  Option.bind (catS y_bits_here1 t8) fun t11 =>
  Option.bind (m_l_worth t11) fun r14 =>
  Option.bind (mulS ("1" : Str) y_left5) fun t21 =>
  Option.bind (catS y_bits_here1 t21) fun t24 =>
  Option.bind (m_l_worth t24) fun r27 =>
  some (r14, (r27 + (1 : Int)))
abbrev N_l_span : List Str := ["_law_one_here", "_law_size_here", "_law_bits_here", "_law_left"]
theorem sc_l_span : FnScope N_l_span ["_law_one_here", "_law_size_here"] (defScope s_l_span) := ⟨rfl, rfl, rfl, by decide +kernel, rfl, by decide +kernel, by decide +kernel⟩
def sp_l_span (K : PySem.W.Frag) : Sp := fun vs H Q _ => ∃ (F : Hp) (y_one_here : Str) (y_size_here : Int) (r : (Int × Int)), vs = [.str y_one_here, .int y_size_here] ∧ Same F H ∧ GS y_one_here ∧ m_l_span y_one_here y_size_here = some r ∧ (∀ v F' H', Gr M0 F H F' H' → R K F' v r → Q v H')
/-! ### l_grouped -/
def m_l_grouped_c1 (y_size_here : Int) : List Str → Option (List (Int × Int))
  | [] => some []
  | e33 :: xs_ =>
    Option.bind (m_l_span e33 y_size_here) fun r37 =>
    Option.bind (m_l_grouped_c1 y_size_here xs_) fun rest47 => some (r37 :: rest47)
def m_l_grouped_c3 (y_number : Int) : List (Int × Int) → List Bool
  | [] => []
  | e141 :: xs_ => ((decide (e141.1 ≤ y_number)) && (decide (y_number < e141.2))) :: m_l_grouped_c3 y_number xs_
def m_l_grouped_l2 (y_ends : (List (Int × Int))) : List Int → (Option (List Bool)) → (List (Int × Int)) → (Option ((Option (List Bool)) × (List (Int × Int))))
  | [], y_elder, y_found => some (y_elder, y_found)
  | e104 :: xs_, y_elder, y_found =>
    Option.bind (some (m_l_grouped_c3 e104 y_ends)) fun y_here170 =>
    Option.bind (if (eqD (some y_here170) y_elder) then (Option.bind (atI y_found (-(1 : Int))) fun t178 =>
 Option.bind (setL y_found (-(1 : Int)) (t178.1, (e104 + (1 : Int)))) fun t201 =>
 some (t201)) else (Option.bind (appL y_found (e104, (e104 + (1 : Int)))) fun t222 =>
 some (t222))) fun y_found174 =>
    m_l_grouped_l2 y_ends xs_ (some y_here170) y_found174
def m_l_grouped (y_some_here : (List Str)) (y_size_here : Int) : Option (List (Int × Int)) :=
  Option.bind (m_l_grouped_c1 y_size_here y_some_here) fun l5 =>
  Option.bind (some ([] : (List (Int × Int)))) fun y_found72 =>
  Option.bind (shlI (1 : Int) y_size_here) fun t76 =>
  Option.bind (rangeO1 t76) fun l79 =>
  bind2 (m_l_grouped_l2 l5 l79 (none : (Option (List Bool))) y_found72) fun y_elder82 y_found83 =>
  some y_found83
abbrev N_l_grouped : List Str := ["_law_some_here", "_law_size_here", "_law_ends", "_law_found", "_law_elder", "_law_number", "_law_here", "_law_one_here", "_law_first", "_law_behind"]
theorem sc_l_grouped : FnScope N_l_grouped ["_law_some_here", "_law_size_here"] (defScope s_l_grouped) := ⟨rfl, rfl, rfl, by decide +kernel, rfl, by decide +kernel, by decide +kernel⟩
def sp_l_grouped (K : PySem.W.Frag) : Sp := fun vs H Q _ => ∃ (F : Hp) (p_y_some_here : Addr) (ws_y_some_here : List V) (y_some_here : (List Str)) (y_size_here : Int) (r : (List (Int × Int))), vs = [.ref p_y_some_here, .int y_size_here] ∧ Same F H ∧ SqL K H p_y_some_here ws_y_some_here ∧ ws_y_some_here.length ≤ sizeLine ∧ RL K F ws_y_some_here y_some_here ∧ ¬ M0 p_y_some_here ∧ m_l_grouped y_some_here y_size_here = some r ∧ (∀ p ws F' H', Gr M0 F H F' H' → H p = none → H' p = some (.lst ws) → F' p = none → ws.length ≤ sizeLine → RL K F' ws r → Q (.ref p) H')
/-! ### l_cut_right -/
def m_l_cut_right_c1 (y_size_here : Int) : List Str → Option (List (Int × Int))
  | [] => some []
  | e33 :: xs_ =>
    Option.bind (m_l_span e33 y_size_here) fun r37 =>
    Option.bind (m_l_cut_right_c1 y_size_here xs_) fun rest47 => some (r37 :: rest47)
def m_l_cut_right_c3 (y_first : Int) (y_behind : Int) : List (Int × Int) → List Bool
  | [] => []
  | e127 :: xs_ => ((decide (e127.1 ≤ y_first)) && (decide (y_behind ≤ e127.2))) :: m_l_cut_right_c3 y_first y_behind xs_
def m_l_cut_right_c4 (y_first : Int) (y_behind : Int) : List (Int × Int) → List Bool
  | [] => []
  | e205 :: xs_ => ((decide (y_behind ≤ e205.1)) || (decide (e205.2 ≤ y_first))) :: m_l_cut_right_c4 y_first y_behind xs_
def m_l_cut_right_c5 (y_here : (List Bool)) (y_apart : (List Bool)) : List Int → Option (List Int)
  | [] => some []
  | e313 :: xs_ =>
    Option.bind (atI y_here e313) fun t315 =>
    Option.bind (atI y_apart e313) fun t320 =>
    if (eqB t315 t320) then (Option.bind (m_l_cut_right_c5 y_here y_apart xs_) fun rest326 => some (e313 :: rest326)) else m_l_cut_right_c5 y_here y_apart xs_
def m_l_cut_right_l2 (y_ends : (List (Int × Int))) : List (Int × Int) → Int → (Option (List Bool)) → (Option (Lp (Int × (Option (List Bool))) (Bool)))
  | [], y_at, y_elder => some (.go (y_at, y_elder))
  | e86 :: xs_, y_at, y_elder =>
    Option.bind (some (m_l_cut_right_c3 e86.1 e86.2 y_ends)) fun y_here166 =>
    Option.bind (some (m_l_cut_right_c4 e86.1 e86.2 y_ends)) fun y_apart247 =>
    if ((neI e86.1 y_at) || ((decide (e86.2 ≤ e86.1)) || (eqD (some y_here166) y_elder))) then (some (.ret false)) else (Option.bind (rangeO1 (((y_ends).length : Nat) : Int)) fun l280 =>
 Option.bind (m_l_cut_right_c5 y_here166 y_apart247 l280) fun l293 =>
 if (!eqD l293 ([] : (List Int))) then (some (.ret false)) else (m_l_cut_right_l2 y_ends xs_ e86.2 (some y_here166)))
def m_l_cut_right (y_told : (List (Int × Int))) (y_some_here : (List Str)) (y_size_here : Int) : Option Bool :=
  Option.bind (m_l_cut_right_c1 y_size_here y_some_here) fun l5 =>
  bindL2 (m_l_cut_right_l2 l5 y_told (0 : Int) (none : (Option (List Bool)))) (fun y_at65 y_elder66 => Option.bind (shlI (1 : Int) y_size_here) fun t387 =>
 some (eqI y_at65 t387)) (fun r_ => some r_)
abbrev N_l_cut_right : List Str := ["_law_told", "_law_some_here", "_law_size_here", "_law_ends", "_law_at", "_law_elder", "_law_first", "_law_behind", "_law_here", "_law_apart", "_law_one_here", "_law_other", "_law_k"]
theorem sc_l_cut_right : FnScope N_l_cut_right ["_law_told", "_law_some_here", "_law_size_here"] (defScope s_l_cut_right) := ⟨rfl, rfl, rfl, by decide +kernel, rfl, by decide +kernel, by decide +kernel⟩
def sp_l_cut_right (K : PySem.W.Frag) : Sp := fun vs H Q _ => ∃ (p_y_told : Addr) (ws_y_told : List V) (y_told : (List (Int × Int))) (p_y_some_here : Addr) (ws_y_some_here : List V) (y_some_here : (List Str)) (y_size_here : Int) (r : Bool), vs = [.ref p_y_told, .ref p_y_some_here, .int y_size_here] ∧ SqL K H p_y_told ws_y_told ∧ ws_y_told.length ≤ sizeLine ∧ RL K H ws_y_told y_told ∧ ¬ M0 p_y_told ∧ SqL K H p_y_some_here ws_y_some_here ∧ ws_y_some_here.length ≤ sizeLine ∧ RL K H ws_y_some_here y_some_here ∧ ¬ M0 p_y_some_here ∧ m_l_cut_right y_told y_some_here y_size_here = some r ∧ (∀ F' H', Gr M0 H H F' H' → Q (.bl r) H')
/-! ### law -/
def m_law_c2  : List (Int × Int) → List (Int × Int)
  | [] => []
  | e147 :: xs_ => (e147.1, e147.2) :: m_law_c2  xs_
def m_law_l1 (y_size_here : Int) : List Int → Bag → (Option (Lp (Bag) (Bool × Bag)))
  | [], b => some (.go b)
  | e28 :: xs_, b =>
    bind2 (m_l_some b y_size_here (64 : Int)) fun r30 b31 =>
    Option.bind (m_parts_of r30 y_size_here) fun r57 =>
    Option.bind (if (!true) then some true else (Option.bind (m_l_alike r57 (m_law_c2  r57)) fun r204 => some ((!r204)))) fun c92 =>
    if c92 then (some (.ret (false, b31))) else (Option.bind (m_l_cut_right r57 r30 y_size_here) fun r229 =>
 Option.bind (if (!r229) then some true else (Option.bind (if (decide (y_size_here < (8 : Int))) then (Option.bind (m_l_grouped r30 y_size_here) fun r251 => some ((!eqD r57 r251))) else some false) fun c246 => some ((c246 || (!eqD r30 r30))))) fun c241 =>
 if c241 then (some (.ret (false, b31))) else (Option.bind (m_parts_of r30 y_size_here) fun r326 =>
 Option.bind (m_l_alike r326 r57) fun r353 =>
 if (!r353) then (some (.ret (false, b31))) else (m_law_l1 y_size_here xs_ b31)))
def m_law (b : Bag)  : Option (Bool × Bag) :=
  bind2 (m_l_size b ) fun r1 b2 =>
  bindL1 (m_law_l1 r1 (rangeL (0 : Int) 2) b2) (fun b10 => Option.bind (m_parts_of ([] : (List Str)) (30 : Int)) fun r387 =>
 Option.bind (shlI (1 : Int) (30 : Int)) fun t406 =>
 Option.bind (if (eqD r387 ([((0 : Int), t406)] : List (Int × Int))) then (Option.bind (m_parts_of ([("1" : Str), ("1" : Str)] : List Str) (1 : Int)) fun r452 => some ((eqD r452 ([((0 : Int), (1 : Int)), ((1 : Int), (2 : Int))] : List (Int × Int))))) else some false) fun c433 =>
 some (c433, b10)) (fun r_ => some r_)
abbrev N_law : List Str := ["_law_script", "_law_bag_here", "_law_size_here", "_law_k", "_law_some_here", "_law_handed", "_law_told", "_law_due", "_law_first", "_law_behind"]
theorem sc_law : FnScope N_law ["_law_script"] (defScope s_law) := ⟨rfl, rfl, rfl, by decide +kernel, rfl, by decide +kernel, by decide +kernel⟩
def sp_law (K : PySem.W.Frag) : Sp := fun vs H Q _ => ∃ (a : Addr) (ns : List Int), vs = [.ref a] ∧ SqL K H a (ns.map V.int) ∧ ns.length ≤ 63 ∧ (∀ H', Q (.bl true) H')
def kb_parts_of_0_g {α : Type} : List α → List α → List α
  | [], [w0, w1] => [w1, w0]
  | _, _ => []
theorem kb_parts_of_0 {K : PySem.W.Frag} {f : Addr} {fd : FuncData} (F : FnP K "parts_of" s_parts_of f fd) : KBinds K fd ["patterns", "width"] ["width", "patterns"] kb_parts_of_0_g kb_parts_of_0_g := by
  obtain ⟨kV, doc, pm, an, cdv, ct, rfl⟩ := fd_plain F
  refine ⟨fun s us ws _ hl => ?_, fun {vs us zs ws} h1 h2 => ?_⟩
  · unfold kb_parts_of_0_g at hl ⊢
    split at hl
    · exact BindsTo.of_eq rfl
    · cases hl
  · rcases h1 with _ | ⟨_, _⟩ <;> rcases h2 with _ | ⟨r_w0, _ | ⟨r_w1, _ | ⟨_, _⟩⟩⟩ <;> first | exact (.cons r_w1 (.cons r_w0 .nil)) | exact .nil
end K03
namespace K03
open PySem PySem.Spec PyProof.Rows L2 TL G
theorem ok_bits_of {P : Program} {w : World} {K : PySem.W.Frag} {mg : Str → Option Value} {base : Heap} (T : Txt K mg) : FnOk P w K mg base CX0 1 T.a_bits_of T.d_bits_of ["pattern"] (sp_bits_of K) := by
  refine fd_ok T.F_bits_of sc_bits_of (fun vs H Q E h => ?_) (fun cdv A outer s H0 vs Q E hr h => ?_)
  · obtain ⟨_, rfl, _⟩ := h
    rfl
  · obtain ⟨x_pattern, rfl, gs_x_pattern, hQ⟩ := h
    refine ⟨_, (pss_one (ps_ret (pe_ix (ix_tupK (K := K)) (pe_partition (pv 0) (pe_glob (v := (V.str ("*" : Str))) rfl T.k_STAR ⟨_, rfl⟩)) pe_int (fun _ _ => rfl)))), ?_⟩
    have g0 : Gr M0 H0 H0 H0 H0 := Gr.refl (Same.refl _)
    unfold m_bits_of at hQ
    refine p_ret ?_
    refine ⟨(V.str x_pattern), rfl, ⟨_, rfl⟩, _, _, rfl, rfl, (by decide +kernel), (gs_x_pattern : GS x_pattern).len, fun p1 np2 => ?_⟩
    have sm3 := same_new (o := (.tup [.str (Txt.partition x_pattern ("*" : Str)).1, .str (Txt.partition x_pattern ("*" : Str)).2.1, .str (Txt.partition x_pattern ("*" : Str)).2.2])) (g0.noneF np2)
    have g4 := g0.frz (o := (.tup [.str (Txt.partition x_pattern ("*" : Str)).1, .str (Txt.partition x_pattern ("*" : Str)).2.1, .str (Txt.partition x_pattern ("*" : Str)).2.2])) np2
    have gp6 := GS.part (gs_x_pattern : GS x_pattern) (⟨by decide +kernel, by decide +kernel⟩ : GS ("*" : Str))
    have r5 : R K (upd H0 p1 (.tup [.str (Txt.partition x_pattern ("*" : Str)).1, .str (Txt.partition x_pattern ("*" : Str)).2.1, .str (Txt.partition x_pattern ("*" : Str)).2.2])) (.ref p1) ((partS x_pattern ("*" : Str)) : (T3 Str Str Str)) := R.mk3 fzT (.str _ gp6.1) (.str _ gp6.2.1) (.str _ gp6.2.2)
    obtain ⟨p7, v10, v11, v12, ev8, hS9, r13, r14, r15⟩ := R.p3_v r5
    obtain ⟨rfl, gs16⟩ := R.str_v r13
    obtain ⟨rfl, gs17⟩ := R.str_v r14
    obtain ⟨rfl, gs18⟩ := R.str_v r15
    refine ⟨p7, _, _, (V.str (partS x_pattern ("*" : Str)).a), ev8, rfl, (SqT_mono g4.fh hS9), rfl, (hQ _ _ g4 gs16)⟩
end K03
namespace K03
open PySem PySem.Spec PyProof.Rows L2 TL G
theorem ok_span_of {P : Program} {w : World} {K : PySem.W.Frag} {mg : Str → Option Value} {base : Heap} (T : Txt K mg) : FnOk P w K mg base CX0 2 T.a_span_of T.d_span_of ["pattern", "width"] (sp_span_of K) := by
  have G_bits_of : FnOk P w K mg base CX0 1 T.a_bits_of T.d_bits_of ["pattern"] (sp_bits_of K) := ok_bits_of T
  have b_bits_of := T.F_bits_of.bindsN (ps := ["pattern"]) fun _ _ _ _ _ _ us hl => match us, hl with | [_], _ => rfl
  refine fd_ok T.F_span_of sc_span_of (fun vs H Q E h => ?_) (fun cdv A outer s H0 vs Q E hr h => ?_)
  · obtain ⟨_, _, _, _, rfl, _⟩ := h
    rfl
  · obtain ⟨F0, x_pattern, x_width, r, rfl, hS0, gs_x_pattern, hm, hQ⟩ := h
    refine ⟨_, (pss_cons (ps_set (i := 2) sc_span_of.nd rfl (.inl rfl) (pe_call G_bits_of (hr.mono (by decide)) (by rfl) T.g_bits_of T.F_bits_of.kp b_bits_of .nil pass0 (pa_cons (pv 0) pa_nil))) (pss_cons (ps_set (i := 3) sc_span_of.nd rfl (.inl rfl) pe_int) (pss_cons (ps_for PassesOwn.never rfl (pi_str (pv 2)) (pg_name (i := 4) sc_span_of.nd rfl (Or.inl rfl)) (pss_one (ps_set (i := 3) sc_span_of.nd rfl (.inl rfl) (pe_op op_add (pe_op op_mul pe_int (pv 3)) (pe_callTy call_toI (by rfl) T.n_int (by decide +kernel) (pa_cons (pe_cmpR op_eq (pv 4) pe_str (nomark _)) pa_nil)))))) (pss_cons (ps_set (i := 5) sc_span_of.nd rfl (.inl rfl) (pe_op op_shl pe_int (pe_op op_sub (pv 1) (pe_callB call_len_str (by rfl) T.n_len (by decide +kernel) (pa_cons (pv 2) pa_nil))))) (pss_one (ps_ret (pe_tup (pa_cons (pe_op op_mulW (pv 3) (pv 5)) (pa_cons (pe_op op_mulW (pe_op op_add (pv 3) pe_int) (pv 5)) pa_nil))))))))), ?_⟩
    have g0 : Gr M0 F0 H0 F0 H0 := Gr.refl hS0
    unfold m_span_of at hm
    refine p_seq ?_
    refine p_asg ?_
    refine ⟨(V.str x_pattern), rfl, x_pattern, rfl, gs_x_pattern, fun F2 H3 g4 gs5 => ?_⟩
    have g6 := Gr.apart g0 g4
    obtain ⟨x_bits7, hb8, hm⟩ := bnd hm
    have hx9 : (m_bits_of x_pattern) = x_bits7 := sjoin hb8
    have gs10 : GS x_bits7 := hx9 ▸ (gs5 : GS (m_bits_of x_pattern))
    refine p_nm (v' := (V.str x_bits7)) (congrArg V.str hx9) ?_
    refine p_nx ?_
    refine p_seq ?_
    refine p_asg ?_
    refine p_name ?_
    refine p_nx ?_
    refine p_seq ?_
    refine p_for ?_
    refine ⟨(V.str x_bits7), rfl, x_bits7, rfl, ?_⟩
    obtain ⟨x_number11, ht12, hm⟩ := bnd hm
    refine for_str (z := x_bits7) (fun i σ' H' => ∃ (F' : Hp) (x_number : Int) (o_x_sign : Option V), σ' = [(some (V.str x_pattern)), (some (V.int x_width)), (some (V.str x_bits7)), (some (V.int x_number)), o_x_sign, none] ∧ Gr M0 F0 H0 F' H' ∧ Same F0 F' ∧ m_span_of_l1  ((x_bits7).cps.toList.drop i) x_number = some x_number11) ?_ ?_ ?_
    · exact ⟨F0, (0 : Int), none, rfl, g6, (Same.refl _), ht12⟩
    · intro i13 xv16 σ' H15 hx14 hP
      obtain ⟨F17, x_number18, o_x_sign19, rfl, g20, sm21, hm22⟩ := hP
      have he24 := str_at hx14
      rw [drop_at he24, m_span_of_l1.eq_2] at hm22
      refine p_name ?_
      refine p_asg ?_
      refine ⟨(V.int x_number18), rfl, _, _, rfl, rfl, (.inl ⟨by decide, by decide⟩), (V.str (sgn xv16)), rfl, rfl, _, rfl, _, _, rfl, rfl, ?_⟩
      obtain ⟨x_number25, hb26, hm22⟩ := bnd hm22
      have hx27 : (((2 : Int) * x_number18) + (toI (eqS (sgn xv16) ("1" : Str)))) = x_number25 := sjoin hb26
      refine p_nm (v' := (V.int x_number25)) (congrArg V.int hx27) ?_
      exact ⟨F17, x_number25, (some (V.str (sgn xv16))), rfl, g20, sm21, hm22⟩
    intro σ28 H29 hP
    obtain ⟨F30, x_number31, o_x_sign32, rfl, g33, sm34, hm35⟩ := hP
    rw [drop_end str_size, m_span_of_l1.eq_1] at hm35
    obtain rfl := sjoin hm35
    refine p_nx ?_
    refine p_seq ?_
    refine p_asg ?_
    obtain ⟨t36, hb37, hm⟩ := bnd hm
    obtain ⟨hk38, rfl⟩ := shlI_ok hb37
    refine ⟨(V.int x_width), rfl, (V.str x_bits7), rfl, _, rfl, (gs10 : GS x_bits7).len, _, _, rfl, rfl, _, _, rfl, rfl, hk38, ?_⟩
    obtain ⟨x_size39, hx40⟩ : ∃ z_, ((1 : Int) * 2 ^ ((x_width - ((x_bits7.length : Nat) : Int))).toNat) = z_ := ⟨_, rfl⟩
    try rw [hx40] at hm
    refine p_nm (v' := (V.int x_size39)) (congrArg V.int hx40) ?_
    refine p_nx ?_
    refine p_ret ?_
    obtain ⟨t41, hb42, hm⟩ := bnd hm
    obtain ⟨hk43, rfl⟩ := mulI_ok hb42
    obtain ⟨t44, hb45, hm⟩ := bnd hm
    obtain ⟨hk46, rfl⟩ := mulI_ok hb45
    refine ⟨(V.int x_number31), rfl, (V.int x_size39), rfl, _, _, rfl, rfl, hk43, (V.int x_number31), rfl, _, _, rfl, rfl, (V.int x_size39), rfl, _, _, rfl, rfl, hk46, (by show 2 ≤ sizeLine; decide), fun p47 np48 => ?_⟩
    have sm49 := same_new (o := (.tup [(V.int (x_number31 * x_size39)), (V.int ((x_number31 + (1 : Int)) * x_size39))])) (g33.noneF np48)
    have g50 := g33.frz (o := (.tup [(V.int (x_number31 * x_size39)), (V.int ((x_number31 + (1 : Int)) * x_size39))])) np48
    have r51 : R K (upd F30 p47 (.tup [(V.int (x_number31 * x_size39)), (V.int ((x_number31 + (1 : Int)) * x_size39))])) (.ref p47) (((x_number31 * x_size39), ((x_number31 + (1 : Int)) * x_size39)) : (Int × Int)) := R.mk2 fzT (Rp.int (x_number31 * x_size39)) (Rp.int ((x_number31 + (1 : Int)) * x_size39))
    obtain rfl := sjoin hm
    exact (hQ _ _ _ g50 r51)
end K03
namespace K03
open PySem PySem.Spec PyProof.Rows L2 TL G
theorem ok_parts_of {P : Program} {w : World} {K : PySem.W.Frag} {mg : Str → Option Value} {base : Heap} (T : Txt K mg) : FnOk P w K mg base CX0 3 T.a_parts_of T.d_parts_of ["patterns", "width"] (sp_parts_of K) := by
  have G_span_of : FnOk P w K mg base CX0 2 T.a_span_of T.d_span_of ["pattern", "width"] (sp_span_of K) := ok_span_of T
  have b_span_of := T.F_span_of.bindsN (ps := ["pattern", "width"]) fun _ _ _ _ _ _ us hl => match us, hl with | [_, _], _ => rfl
  refine fd_ok T.F_parts_of sc_parts_of (fun vs H Q E h => ?_) (fun cdv A outer s H0 vs Q E hr h => ?_)
  · obtain ⟨_, _, _, _, _, _, rfl, _⟩ := h
    rfl
  · obtain ⟨F0, p_x_patterns, ws_x_patterns, x_patterns, x_width, r, rfl, hS0, hS_x_patterns, hl_x_patterns, hA_x_patterns, nm_x_patterns, hm, hQ⟩ := h
    refine ⟨_, (pss_cons (ps_set (i := 2) sc_parts_of.nd rfl (.inl rfl) (pe_lst (pa_cons pe_int (pa_cons (pe_op op_shl pe_int (pv 1)) pa_nil)))) (pss_cons (ps_for PassesOwn.never rfl (pi_listK (K := K) (pv 0)) (pg_name (i := 3) sc_parts_of.nd rfl (Or.inl rfl)) (pss_one (ps_expr (pe_bmK (K := K) PySem.F.plainAttrs_list PySem.F.slot_list_extend PySem.F.type_list_extend (mt_extTK (K := K)) (pv 2) (pa_cons (pe_call G_span_of (hr.mono (by decide)) (by rfl) T.g_span_of T.F_span_of.kp b_span_of .nil pass0 (pa_cons (pv 3) (pa_cons (pv 1) pa_nil))) pa_nil))))) (pss_cons (ps_set (i := 4) sc_parts_of.nd rfl (.inl rfl) (pe_ssetK (K := K) rfl (by rfl) T.n_sorted (by rfl) T.n_set (pv 2))) (pss_one (ps_ret (pe_lzipK (K := K) rfl (by rfl) T.n_list (by rfl) T.n_zip (pa_cons (pv 4) (pa_cons (pe_slice (sl_listK (K := K)) (pv 4) (po_some pe_int) po_none) pa_nil)))))))), ?_⟩
    have g0 : Gr M0 F0 H0 F0 H0 := Gr.refl hS0
    unfold m_parts_of at hm
    refine p_seq ?_
    refine p_asg ?_
    obtain ⟨t1, hb2, hm⟩ := bnd hm
    obtain ⟨hk3, rfl⟩ := shlI_ok hb2
    refine ⟨(V.int x_width), rfl, _, _, rfl, rfl, hk3, (by show 2 ≤ sizeLine; decide), fun p4 np5 => ?_⟩
    have g6 := g0.own (o := (.lst [(V.int (0 : Int)), (V.int ((1 : Int) * 2 ^ (x_width).toNat))])) np5
    have ow7 : Ow H0 F0 (upd H0 p4 (.lst [(V.int (0 : Int)), (V.int ((1 : Int) * 2 ^ (x_width).toNat))])) p4 [(V.int (0 : Int)), (V.int ((1 : Int) * 2 ^ (x_width).toNat))] := Ow.new g0 np5
    have hA8 : RL K F0 [(V.int (0 : Int)), (V.int ((1 : Int) * 2 ^ (x_width).toNat))] ([(0 : Int), ((1 : Int) * 2 ^ (x_width).toNat)] : List Int) := (RpA.cons (Rp.int (0 : Int)) (RpA.cons (Rp.int ((1 : Int) * 2 ^ (x_width).toNat)) RpA.nil))
    obtain ⟨x_edges9, hb10, hm⟩ := bnd hm
    have hx11 : ([(0 : Int), ((1 : Int) * 2 ^ (x_width).toNat)] : List Int) = x_edges9 := sjoin hb10
    have hA12 : RL K F0 [(V.int (0 : Int)), (V.int ((1 : Int) * 2 ^ (x_width).toNat))] x_edges9 := RL.re hx11 hA8
    refine p_name ?_
    refine p_nx ?_
    refine p_seq ?_
    refine p_for ?_
    refine ⟨(V.ref p_x_patterns), rfl, p_x_patterns, rfl, ⟨_, (g6.seq nm_x_patterns hS_x_patterns)⟩, ?_⟩
    obtain ⟨x_edges13, ht14, hm⟩ := bnd hm
    refine for_list (K := K) (a := p_x_patterns) (xs := ws_x_patterns) (fun i σ' H' => ∃ (F' : Hp) (o_x_pattern : Option V) (x_edges : (List Int)) (ws_x_edges : List V), σ' = [(some (V.ref p_x_patterns)), (some (V.int x_width)), (some (V.ref p4)), o_x_pattern, none] ∧ Gr M0 F0 H0 F' H' ∧ Same F0 F' ∧ Ow H0 F' H' p4 ws_x_edges ∧ ws_x_edges.length ≤ sizeLine ∧ RL K F' ws_x_edges x_edges ∧ m_parts_of_l1 x_width (x_patterns.drop i) x_edges = some x_edges13) ?_ ?_ ?_ ?_
    · exact ⟨F0, none, x_edges9, [(V.int (0 : Int)), (V.int ((1 : Int) * 2 ^ (x_width).toNat))], rfl, g6, (Same.refl _), ow7, (by show 2 ≤ sizeLine; decide), hA12, ht14⟩
    · intro i σ' H' _ hP
      obtain ⟨F', o_x_pattern, x_edges, ws_x_edges, rfl, g_, sm_, ow_x_edges, hl_x_edges, hA_x_edges, hm_⟩ := hP
      exact (g_.seq nm_x_patterns hS_x_patterns)
    · intro i15 xv18 σ' H17 hx16 hP
      obtain ⟨F19, o_x_pattern20, x_edges21, ws_x_edges22, rfl, g23, sm24, ow_x_edges25, hl_x_edges26, hA_x_edges27, hm28⟩ := hP
      obtain ⟨e29, he30, r31⟩ := RL.get (hA_x_patterns.up sm24) hx16
      obtain ⟨rfl, gs32⟩ := R.str_v r31
      rw [drop_at he30, m_parts_of_l1.eq_2] at hm28
      refine p_name ?_
      refine p_drop ?_
      obtain ⟨r33, hb34, hm28⟩ := bnd hm28
      refine ⟨(V.ref p4), rfl, (.inl ⟨rfl, _, ow_x_edges25.sq⟩), (V.str e29), rfl, (V.int x_width), rfl, F19, e29, x_width, r33, rfl, g23.fh, gs32, hb34, fun v38 F35 H36 g37 r39 => ?_⟩
      have g40 := Gr.trans g23 g37
      have ow41 := ow_x_edges25.gr0 g37
      obtain ⟨p42, v45, v46, ev43, hS44, r47, r48⟩ := R.p2_v r39
      obtain rfl := R.int_v r47
      obtain rfl := R.int_v r48
      have hA49 : RL K F35 [(V.int r33.1), (V.int r33.2)] ([r33.1, r33.2] : List Int) := (RpA.cons (Rp.int r33.1) (RpA.cons (Rp.int r33.2) RpA.nil))
      obtain ⟨t50, hb51, hm28⟩ := bnd hm28
      obtain ⟨hk52, rfl⟩ := conL_ok hb51
      refine ⟨p4, p42, ws_x_edges22, [(V.int r33.1), (V.int r33.2)], rfl, (by rw [ev43]), ow41.h, (SqT_mono g40.fh hS44), (by rw [RL.len (hA_x_edges27.up g37.ff), RL.len hA49]; exact hk52), ?_⟩
      have hA53 := RL.app (hA_x_edges27.up g37.ff) hA49
      have hl54 : (ws_x_edges22 ++ [(V.int r33.1), (V.int r33.2)]).length ≤ sizeLine := by rw [List.length_append, RL.len (hA_x_edges27.up g37.ff), RL.len hA49]; exact hk52
      have g55 := g40.put (o := (.lst (ws_x_edges22 ++ [(V.int r33.1), (V.int r33.2)]))) ow41
      have ow56 := ow41.put (us := (ws_x_edges22 ++ [(V.int r33.1), (V.int r33.2)]))
      exact ⟨F35, (some (V.str e29)), (x_edges21 ++ ([r33.1, r33.2] : List Int)), (ws_x_edges22 ++ [(V.int r33.1), (V.int r33.2)]), rfl, g55, (Same.trans sm24 g37.ff), ow56, hl54, hA53, hm28⟩
    intro σ57 H58 hP
    obtain ⟨F59, o_x_pattern60, x_edges61, ws_x_edges62, rfl, g63, sm64, ow_x_edges65, hl_x_edges66, hA_x_edges67, hm68⟩ := hP
    rw [drop_end (RL.len (hA_x_patterns.up sm64)), m_parts_of_l1.eq_1] at hm68
    obtain rfl := sjoin hm68
    refine p_nx ?_
    refine p_seq ?_
    refine p_asg ?_
    obtain ⟨t69, hb70, hm⟩ := bnd hm
    obtain ⟨hk71, hss_⟩ := ssetO_ok hb70
    subst hss_
    refine ⟨(V.ref p4), rfl, p4, x_edges61, rfl, (by rw [← RL.ints hA_x_edges67]; exact ow_x_edges65.sq), hk71, fun ns72 p76 so73 mm74 ln75 np77 => ?_⟩
    obtain rfl := ssort_uniq so73 mm74
    have hl78 : ((ssort x_edges61).map V.int).length ≤ sizeLine := by rw [List.length_map, sizeLine_eq]; omega
    have hA79 : RL K F59 ((ssort x_edges61).map V.int) (ssort x_edges61) := RL.ofInts _
    have ne80 := ow_x_edges65.ne np77
    have g81 := g63.own (o := (.lst ((ssort x_edges61).map V.int))) np77
    have ow82 := ow_x_edges65.own (o := (.lst ((ssort x_edges61).map V.int))) np77
    have ow83 : Ow H0 F59 (upd H58 p76 (.lst ((ssort x_edges61).map V.int))) p76 ((ssort x_edges61).map V.int) := Ow.new g63 np77
    obtain ⟨x_rising84, hx85⟩ : ∃ z_, (ssort x_edges61) = z_ := ⟨_, rfl⟩
    try rw [hx85] at hm
    have hA86 : RL K F59 ((ssort x_edges61).map V.int) x_rising84 := RL.re hx85 hA79
    refine p_name ?_
    refine p_nx ?_
    refine p_ret ?_
    refine ⟨(V.ref p76), rfl, (V.ref p76), rfl, _, rfl, p76, ((ssort x_edges61).map V.int), rfl, ow83.sq, fun p87 np88 => ?_⟩
    have hA89 := RL.cut (some (1 : Int)) none hA86
    have ne90 := ow82.ne np88
    have ne91 := ow83.ne np88
    have g92 := g81.own (o := (.lst (cutV ((ssort x_edges61).map V.int) (some (1 : Int)) none))) np88
    have ow93 := ow82.own (o := (.lst (cutV ((ssort x_edges61).map V.int) (some (1 : Int)) none))) np88
    have ow94 := ow83.own (o := (.lst (cutV ((ssort x_edges61).map V.int) (some (1 : Int)) none))) np88
    have ow95 : Ow H0 F59 (upd (upd H58 p76 (.lst ((ssort x_edges61).map V.int))) p87 (.lst (cutV ((ssort x_edges61).map V.int) (some (1 : Int)) none))) p87 (cutV ((ssort x_edges61).map V.int) (some (1 : Int)) none) := Ow.new g81 np88
    refine ⟨p76, p87, ((ssort x_edges61).map V.int), (cutV ((ssort x_edges61).map V.int) (some (1 : Int)) none), rfl, ow94.sq, ow95.sq, fun l96 p97 nw98 f99 f100 np101 => ?_⟩
    have g102 : Gr M0 F59 (upd (upd H58 p76 (.lst ((ssort x_edges61).map V.int))) p87 (.lst (cutV ((ssort x_edges61).map V.int) (some (1 : Int)) none))) (tupsU F59 l96) (tupsU (upd (upd H58 p76 (.lst ((ssort x_edges61).map V.int))) p87 (.lst (cutV ((ssort x_edges61).map V.int) (some (1 : Int)) none))) l96) := tupsU_gr (Gr.refl g92.fh) nw98
    have hA103 : RL K (tupsU F59 l96) (l96.map fun q => V.ref q.1) (List.zip x_rising84 (cutL x_rising84 (some (1 : Int)) none)) := lz_RL nw98 g102.ff f99 f100 hA86 hA89
    have hl104 := lz_len f99 hl78
    have g105 := Gr.trans g92 g102
    have ow106 := ow93.gr0 g102
    have ow107 := ow94.gr0 g102
    have ow108 := ow95.gr0 g102
    have ne109 := ow106.ne np101
    have ne110 := ow107.ne np101
    have ne111 := ow108.ne np101
    have g112 := g105.own (o := (.lst (l96.map fun q => V.ref q.1))) np101
    have ow113 := ow106.own (o := (.lst (l96.map fun q => V.ref q.1))) np101
    have ow114 := ow107.own (o := (.lst (l96.map fun q => V.ref q.1))) np101
    have ow115 := ow108.own (o := (.lst (l96.map fun q => V.ref q.1))) np101
    have ow116 : Ow H0 (tupsU F59 l96) (upd (tupsU (upd (upd H58 p76 (.lst ((ssort x_edges61).map V.int))) p87 (.lst (cutV ((ssort x_edges61).map V.int) (some (1 : Int)) none))) l96) p97 (.lst (l96.map fun q => V.ref q.1))) p97 (l96.map fun q => V.ref q.1) := Ow.new g105 np101
    obtain rfl := sjoin hm
    exact (hQ _ _ _ _ g112 ow116.n0 ow116.h ow116.nF hl104 hA103)
end K03
namespace K03
open PySem PySem.Spec PyProof.Rows L2 TL G
theorem ok_l_bag {P : Program} {w : World} {K : PySem.W.Frag} {mg : Str → Option Value} {base : Heap} (T : Txt K mg) : FnOk P w K mg base CX0 1 T.a_l_bag T.d_l_bag ["_law_script"] (sp_l_bag K) := by
  refine fd_ok T.F_l_bag sc_l_bag (fun vs H Q E h => ?_) (fun cdv A outer s H0 vs Q E hr h => ?_)
  · obtain ⟨_, _, rfl, _⟩ := h
    rfl
  · obtain ⟨a, ns, rfl, hS, hl, hQ⟩ := h
    refine ⟨_, (pss_cons (ps_set (i := 1) sc_l_bag.nd rfl (.inl rfl) pe_int)
      (pss_cons (ps_for PassesOwn.never rfl (pi_list (pe_slice sl_list (pv 0) po_none (po_some pe_int))) (pg_name (i := 2) sc_l_bag.nd rfl (Or.inl rfl))
          (pss_one (ps_set (i := 1) sc_l_bag.nd rfl (.inl rfl) (pe_op op_mod (pe_op op_add (pe_op op_add (pe_op op_mul (pv 1) pe_int) (pe_op op_mod (pv 2) pe_int)) pe_int) pe_int))))
      (pss_one (ps_ret (pe_lst (pa_cons (pe_lc (own := [("_law_cell", 2)]) rfl sc_l_bag.nd (pi_list (pe_slice sl_list (pv 0) po_none (po_some pe_int)))
          (blkOk_by (own := [("_law_cell", 2)]) (N := N_l_bag) (sc := defScope s_l_bag) (by decide +kernel)) (fun _ _ _ _ _ => pg_name (i := 2) sc_l_bag.nd rfl (Or.inl rfl)) (fun _ _ _ _ _ => pts_nil)
          (fun _ _ _ _ _ => pe_op op_mod (pe_callB call_abs (by rfl) T.n_abs (by decide +kernel) (pa_cons (pv 2) pa_nil)) (pe_op op_powW (pe_op op_pow pe_int pe_int) pe_int)))
        (pa_cons pe_int (pa_cons (pv 1) (pa_cons pe_int pa_nil))))))))), ?_⟩
    have g0 : Gr M0 (fun _ => none) H0 (fun _ => none) H0 := Gr.refl (fun _ _ h => nomatch h)
    have hcut : ∀ (lo hi : Option Int), cutV (ns.map V.int) lo hi = (cutL ns lo hi).map V.int := fun lo hi => by
      unfold cutV cutL
      rw [List.length_map, List.map_take, List.map_drop]
    have hcl : ∀ (lo hi : Option Int), (cutL ns lo hi).length ≤ 63 := fun lo hi => by
      unfold cutL
      rw [List.length_take, List.length_drop]
      omega
    refine p_seq ?_
    refine p_asg ?_
    refine p_name ?_
    refine p_nx ?_
    refine p_seq ?_
    refine p_for ?_
    refine ⟨.ref a, rfl, 60, rfl, a, ns.map V.int, rfl, hS, fun p np => ?_⟩
    rw [hcut]
    generalize hcs : cutL ns none (some 60) = cs
    have hc1 : cs.length ≤ 63 := by rw [← hcs]; exact hcl _ _
    have hc2 : (cs.map V.int).length = cs.length := List.length_map ..
    have g1 := g0.own (o := .lst (cs.map V.int)) np
    have ow1 : Ow H0 (fun _ => none) _ p (cs.map V.int) := Ow.new g0 np
    generalize hH1 : upd H0 p (.lst (cs.map V.int)) = H1 at g1 ow1 ⊢
    refine ⟨p, rfl, ⟨_, ow1.sq⟩, ?_⟩
    refine for_list (xs := cs.map V.int) (fun i σ' H' => ∃ (z : Int) (c : Option V), σ' = [some (.ref a), some (.int z), c] ∧ 0 ≤ z ∧ z < 2147483648 ∧ H' = H1) ⟨29, none, rfl, by decide, by decide, rfl⟩ (fun i σ' H' _ hP => ?_) (fun i x σ' H' hx hP => ?_) (fun σ' H' hP => ?_)
    · obtain ⟨z, c, _, _, _, rfl⟩ := hP
      exact ow1.sq
    · obtain ⟨z, c, rfl, h1, h2, rfl⟩ := hP
      obtain ⟨x, rfl⟩ : ∃ x', x = V.int x' := by
        rw [List.getElem?_map] at hx
        obtain ⟨y, _, e⟩ := Option.map_eq_some_iff.mp hx
        exact ⟨y, e.symm⟩
      refine p_asg ?_
      refine ⟨.int z, rfl, _, _, rfl, rfl, (.inr ⟨by decide, by decide⟩), .int x, rfl, _, _, rfl, rfl, (show (0 : Int) < 2147483629 by decide), _, _, rfl, rfl, _, _, rfl, rfl, _, _, rfl, rfl, (show (0 : Int) < 2147483647 by decide), ?_⟩
      refine ⟨_, _, rfl, Int.emod_nonneg _ (by decide), ?_, rfl⟩
      have := Int.emod_lt_of_pos (z * 69621 + x % 2147483629 + 1) (show (0 : Int) < 2147483647 by decide)
      omega
    · obtain ⟨z, c, rfl, h1, h2, rfl⟩ := hP
      refine p_nx ?_
      refine p_ret ?_
      have hS1 : SqL K H' a (ns.map V.int) := g1.seq id hS
      refine ⟨.ref a, rfl, 60, rfl, a, ns.map V.int, rfl, hS1, fun p2 np2 => ?_⟩
      rw [hcut, hcs]
      have g2 := g1.own (o := .lst (cs.map V.int)) np2
      have ow2 : Ow H0 (fun _ => none) _ p2 (cs.map V.int) := Ow.new g1 np2
      generalize hH2 : upd H' p2 (.lst (cs.map V.int)) = H2 at g2 ow2 ⊢
      refine ⟨p2, rfl, ⟨_, ow2.sq⟩, fun D nD => ?_⟩
      refine lc_list (xs := cs.map V.int) (fun i H' => ∃ ds : List Int, ds.length = i ∧ H' = upd H2 D (.lst (ds.map V.int))) ⟨[], rfl, rfl⟩ (fun i H' _ hP => ?_) (fun i x H' hx hP => ?_) (fun H' hP => ?_)
      · obtain ⟨ds, _, rfl⟩ := hP
        exact (ow2.own nD).sq
      · obtain ⟨ds, hds, rfl⟩ := hP
        have hi : i < cs.length := by rw [← hc2]; exact (List.getElem?_eq_some_iff.mp hx).1
        obtain ⟨x, rfl⟩ : ∃ x', x = V.int x' := by
          rw [List.getElem?_map] at hx
          obtain ⟨y, _, e⟩ := Option.map_eq_some_iff.mp hx
          exact ⟨y, e.symm⟩
        refine ⟨rfl, p_yes ?_⟩
        refine ⟨.int x, rfl, x, rfl, _, _, rfl, rfl, ⟨by decide, by decide, by decide⟩, _, _, rfl, rfl, ⟨by decide, by decide +kernel⟩, _, _, rfl, rfl, (show (0 : Int) < ((10 : Int) ^ (60 : Int).toNat) ^ (10 : Int).toNat by decide +kernel), ?_⟩
        refine ⟨_, upd_same, ?_, ds ++ [(if x < 0 then -x else x) % ((10 : Int) ^ (60 : Int).toNat) ^ (10 : Int).toNat], ?_, ?_⟩
        · rw [List.length_map, sizeLine_eq]; omega
        · rw [List.length_append, hds]; rfl
        · rw [upd_upd, List.map_append]; rfl
      · obtain ⟨ds, hds, rfl⟩ := hP
        rw [hc2] at hds
        refine ⟨.int z, rfl, (by show 4 ≤ sizeLine; decide), fun B nB => ?_⟩
        have hne : D ≠ B := fun e => by rw [← e, upd_same] at nB; cases nB
        exact hQ B D ⟨ds, 0, z, 0⟩ (fun _ => none) _ (fun _ _ h => nomatch h) ⟨upd_same, by rw [upd_ne hne, upd_same], hne.symm, rfl, rfl⟩ ⟨h1, h2, by show ds.length ≤ 63; omega⟩

end K03
namespace K03
open PySem PySem.Spec PyProof.Rows L2 TL G
theorem ok_l_draw {P : Program} {w : World} {K : PySem.W.Frag} {mg : Str → Option Value} {base : Heap} (T : Txt K mg) : FnOk P w K mg base CX0 1 T.a_l_draw T.d_l_draw ["_law_bag_here", "_law_many"] (sp_l_draw K) := by
  refine fd_ok T.F_l_draw sc_l_draw (fun vs H Q E h => ?_) (fun cdv A outer s H0 vs Q E hr h => ?_)
  · obtain ⟨_, _, _, _, _, _, _, rfl, _⟩ := h
    rfl
  · obtain ⟨F0, B, C, b, n, r, b', rfl, hS0, hB, hm, hQ⟩ := h
    refine ⟨_, (pss_cons (ps_while PassesOwn.never (PW.pt (pw_and (pt_cmpR op_lt (pe_ix ix_list (pv 0) pe_int (fun _ _ => rfl)) (pe_callB call_lenL (by rfl) T.n_len (by decide +kernel) (pa_cons (pe_ix ix_list (pv 0) pe_int (fun _ _ => rfl)) pa_nil)) (nomark _))
        (pw_and1 (pt_cmpR op_eq (pe_ix ix_list (pe_ix ix_list (pv 0) pe_int (fun _ _ => rfl)) (pe_ix ix_list (pv 0) pe_int (fun _ _ => rfl)) (fun _ _ => rfl)) pe_int (nomark _)))))
        (pss_one (ps_asg (pe_op op_add (pe_ix ix_list (pv 0) pe_int (fun _ _ => rfl)) pe_int) (pg_sub (pv 0) pe_int set_list))))
      (pss_cons (ps_if (pt_cmpR op_lt (pe_ix ix_list (pv 0) pe_int (fun _ _ => rfl)) (pe_callB call_lenL (by rfl) T.n_len (by decide +kernel) (pa_cons (pe_ix ix_list (pv 0) pe_int (fun _ _ => rfl)) pa_nil)) (nomark _))
          (pss_cons (ps_set (i := 2) sc_l_draw.nd rfl (.inl rfl) (pe_ix ix_list (pe_ix ix_list (pv 0) pe_int (fun _ _ => rfl)) (pe_ix ix_list (pv 0) pe_int (fun _ _ => rfl)) (fun _ _ => rfl)))
            (pss_cons (ps_asg (pe_op op_fdivW (pv 2) (pv 1)) (pg_sub (pe_ix ix_list (pv 0) pe_int (fun _ _ => rfl)) (pe_ix ix_list (pv 0) pe_int (fun _ _ => rfl)) set_list))
              (pss_one (ps_ret (pe_op op_mod (pv 2) (pv 1)))))) pss_nil)
      (pss_cons (ps_asg (pe_op op_add (pe_ix ix_list (pv 0) pe_int (fun _ _ => rfl)) pe_int) (pg_sub (pv 0) pe_int set_list))
      (pss_cons (ps_asg (pe_op op_mod (pe_op op_add (pe_op op_add (pe_op op_add (pe_op op_pow (pe_ix ix_list (pv 0) pe_int (fun _ _ => rfl)) pe_int) (pe_op op_mul pe_int (pe_ix ix_list (pv 0) pe_int (fun _ _ => rfl)))) (pe_op op_mul pe_int (pe_ix ix_list (pv 0) pe_int (fun _ _ => rfl)))) pe_int) pe_int) (pg_sub (pv 0) pe_int set_list))
      (pss_one (ps_ret (pe_op op_mod (pe_op op_fdiv (pe_ix ix_list (pv 0) pe_int (fun _ _ => rfl)) pe_int) (pv 1)))))))), ?_⟩
    have g0 : Gr (Bc B C) F0 H0 F0 H0 := Gr.refl hS0
    unfold m_l_draw at hm
    have hc : (0 < n ∧ n.natAbs.log2 < 9000) ∧ (0 ≤ b.seed ∧ b.seed < 2147483648 ∧ b.cells.length ≤ sizeLine) := by
      by_cases hc : (0 < n ∧ n.natAbs.log2 < 9000) ∧ (0 ≤ b.seed ∧ b.seed < 2147483648 ∧ b.cells.length ≤ sizeLine)
      · exact hc
      · rw [if_neg hc] at hm; cases hm
    rw [if_pos hc] at hm
    obtain ⟨⟨hn, hn2⟩, hs0, hs1, hsz⟩ := hc
    obtain ⟨cs, a0, sd, ct⟩ := b
    simp only at hm hs0 hs1 hsz
    generalize hK : skip0 (cs.drop a0) a0 = k at hm
    have hpow : CPow sd 3 := ⟨by decide, by decide, by omega⟩
    have lB : ∀ {H : Hp} {a : Nat} {z c : Int}, BagAt F0 H B C ⟨cs, a, z, c⟩ → SqL K H B [V.ref C, .int (a : Nat), .int z, .int c] := fun h => .inl (.inl h.hB)
    have lC : ∀ {H : Hp} {b1 : Bag}, BagAt F0 H B C b1 → SqL K H C (b1.cells.map V.int) := fun h => .inl (.inl h.hC)
    have hz : (cs.map V.int).length = cs.length := List.length_map ..
    refine p_seq ?_
    refine ⟨fun i σ' H' => ∃ a : Nat, σ' = [some (.ref B), some (.int n), none] ∧ Gr (Bc B C) F0 H0 F0 H' ∧ BagAt F0 H' B C ⟨cs, a, sd, ct⟩ ∧ skip0 (cs.drop a) a = k ∧ cs.length - a ≤ i, ⟨cs.length, a0, rfl, g0, hB, hK, Nat.sub_le _ _⟩, ?_⟩
    intro i σ1 H1 hP
    obtain ⟨a, rfl, g, hB, hK, hi⟩ := hP
    refine ⟨_, rfl, _, _, 1, .int (a : Nat), rfl, rfl, lB hB, rfl, _, rfl, _, _, 0, .ref C, rfl, rfl, lB hB, rfl, C, _, _, rfl, .inl (lC hB), hz, _, _, rfl, rfl, _, rfl, ?_⟩
    by_cases hl : a < cs.length
    · obtain ⟨x, hx⟩ : ∃ x, cs[a]? = some x := ⟨_, List.getElem?_eq_getElem hl⟩
      rw [drop_at hx] at hK
      refine ifTr (decide_eq_true (Int.ofNat_lt.mpr hl)) ?_
      refine ⟨_, rfl, _, _, 0, .ref C, rfl, rfl, lB hB, rfl, _, rfl, _, _, 1, .int (a : Nat), rfl, rfl, lB hB, rfl, _, _, (a : Nat), .int x, rfl, rfl, lC hB, atI_map hx, rfl, _, rfl, ?_⟩
      by_cases h0 : x = 0
      · subst h0
        refine ifTr (decide_eq_true rfl) ?_
        refine ⟨fun σ' H' => ∃ a : Nat, σ' = [some (.ref B), some (.int n), none] ∧ Gr (Bc B C) F0 H0 F0 H' ∧ BagAt F0 H' B C ⟨cs, a, sd, ct⟩ ∧ skip0 (cs.drop a) a = k ∧ cs.length - a ≤ i - 1, fun _ _ ⟨z1, z2, z3, z4, z5, z6⟩ => ⟨i - 1, by omega, z1, z2, z3, z4, z5, z6⟩, ?_⟩
        refine p_asg ?_
        refine ⟨_, rfl, _, _, 1, .int (a : Nat), rfl, rfl, lB hB, rfl, _, _, rfl, rfl, _, rfl, B, _, 1, 1, rfl, rfl, hB.hB, rfl, ?_⟩
        exact ⟨a + 1, rfl, g.mut hB.fB (.inr (.inl rfl)), BagAt.put (b' := ⟨cs, a + 1, sd, ct⟩) hB rfl, by rw [skip0, if_pos rfl] at hK; exact hK, by omega⟩
      · refine ifFr (decide_eq_false fun e => h0 (V.int.inj e)) ?_
        rw [skip0, if_neg h0] at hK
        subst hK
        rw [hx] at hm
        obtain ⟨rfl, rfl⟩ := pjoin hm
        refine p_nx ?_
        refine p_seq ?_
        refine p_if ?_
        refine ⟨_, rfl, _, _, 1, .int (a : Nat), rfl, rfl, lB hB, rfl, _, rfl, _, _, 0, .ref C, rfl, rfl, lB hB, rfl, C, _, _, rfl, .inl (lC hB), hz, _, _, rfl, rfl, _, rfl, ?_⟩
        refine ifTr (decide_eq_true (Int.ofNat_lt.mpr hl)) ?_
        refine p_seq ?_
        refine p_asg ?_
        refine ⟨_, rfl, _, _, 0, .ref C, rfl, rfl, lB hB, rfl, _, rfl, _, _, 1, .int (a : Nat), rfl, rfl, lB hB, rfl, _, _, (a : Nat), .int x, rfl, rfl, lC hB, atI_map hx, ?_⟩
        refine p_name ?_
        refine p_nx ?_
        refine p_seq ?_
        refine p_asg ?_
        refine ⟨.int x, rfl, .int n, rfl, x, n, rfl, rfl, ⟨hn, hn2⟩, _, rfl, _, _, 0, .ref C, rfl, rfl, lB hB, rfl, _, rfl, _, _, 1, .int (a : Nat), rfl, rfl, lB hB, rfl, C, _, (a : Nat), a, rfl, rfl, hB.hC, ixN_nat (by rw [hz]; exact hl), ?_⟩
        refine p_nx ?_
        refine p_ret ?_
        refine ⟨.int x, rfl, .int n, rfl, x, n, rfl, rfl, hn, ?_⟩
        have e : (cs.map V.int).set a (V.int (x / n)) = (cs.set a (x / n)).map V.int := List.map_set.symm
        rw [e]
        exact hQ _ _ (g.mut hB.fC (.inr (.inr rfl))) (BagAt.cell hB _)
    · refine ifFr (decide_eq_false fun e => hl (Int.ofNat_lt.mp e)) ?_
      have hd : cs.drop a = [] := List.drop_eq_nil_of_le (by omega)
      rw [hd, skip0] at hK
      subst hK
      rw [List.getElem?_eq_none (by omega)] at hm
      obtain ⟨rfl, rfl⟩ := pjoin hm
      refine p_nx ?_
      refine p_seq ?_
      refine p_if ?_
      refine ⟨_, rfl, _, _, 1, .int (a : Nat), rfl, rfl, lB hB, rfl, _, rfl, _, _, 0, .ref C, rfl, rfl, lB hB, rfl, C, _, _, rfl, .inl (lC hB), hz, _, _, rfl, rfl, _, rfl, ?_⟩
      refine ifFr (decide_eq_false fun e => hl (Int.ofNat_lt.mp e)) ?_
      refine p_next ?_
      refine p_nx ?_
      refine p_seq ?_
      refine p_asg ?_
      refine ⟨_, rfl, _, _, 3, .int ct, rfl, rfl, lB hB, rfl, _, _, rfl, rfl, _, rfl, B, _, 3, 3, rfl, rfl, hB.hB, rfl, ?_⟩
      have hB2 := BagAt.put (b' := ⟨cs, a, sd, ct + 1⟩) hB rfl
      have g2 := g.mut (o := .lst [.ref C, .int (a : Nat), .int sd, .int (ct + 1)]) hB.fB (.inr (.inl rfl))
      refine p_nx ?_
      refine p_seq ?_
      refine p_asg ?_
      refine ⟨_, rfl, _, _, 2, .int sd, rfl, rfl, lB hB2, rfl, _, _, rfl, rfl, hpow, _, rfl, _, _, 2, .int sd, rfl, rfl, lB hB2, rfl, _, _, rfl, rfl, (.inl ⟨by decide, by decide⟩), _, _, rfl, rfl, _, rfl, _, _, 3, .int (ct + 1), rfl, rfl, lB hB2, rfl, _, _, rfl, rfl, (.inl ⟨by decide, by decide⟩), _, _, rfl, rfl, _, _, rfl, rfl, _, _, rfl, rfl, (show (0 : Int) < 2147483647 by decide), _, rfl, B, _, 2, 2, rfl, rfl, hB2.hB, rfl, ?_⟩
      have hB3 := BagAt.put (b' := ⟨cs, a, stir sd (ct + 1), ct + 1⟩) hB2 rfl
      have g3 := g2.mut (o := .lst [.ref C, .int (a : Nat), .int (stir sd (ct + 1)), .int (ct + 1)]) hB2.fB (.inr (.inl rfl))
      refine p_nx ?_
      refine p_ret ?_
      refine ⟨_, rfl, _, _, 2, .int (stir sd (ct + 1)), rfl, rfl, lB hB3, rfl, _, _, rfl, rfl, ⟨by decide, by decide⟩, .int n, rfl, _, _, rfl, rfl, hn, ?_⟩
      exact hQ _ _ g3 hB3

end K03
namespace K03
open PySem PySem.Spec PyProof.Rows L2 TL G
theorem ok_l_bits {P : Program} {w : World} {K : PySem.W.Frag} {mg : Str → Option Value} {base : Heap} (T : Txt K mg) : FnOk P w K mg base CX0 2 T.a_l_bits T.d_l_bits ["_law_bag_here", "_law_size_here"] (sp_l_bits K) := by
  have G_l_draw : FnOk P w K mg base CX0 1 T.a_l_draw T.d_l_draw ["_law_bag_here", "_law_many"] (sp_l_draw K) := ok_l_draw T
  have b_l_draw := T.F_l_draw.bindsN (ps := ["_law_bag_here", "_law_many"]) fun _ _ _ _ _ _ us hl => match us, hl with | [_, _], _ => rfl
  refine fd_ok T.F_l_bits sc_l_bits (fun vs H Q E h => ?_) (fun cdv A outer s H0 vs Q E hr h => ?_)
  · obtain ⟨_, _, _, _, _, _, _, rfl, _⟩ := h
    rfl
  · obtain ⟨F0, B, C, b, y_size_here, r, b', rfl, hS0, hB, hm, hQ⟩ := h
    refine ⟨_, (pss_cons (ps_if (pt_cmpR op_eq (pe_call G_l_draw (hr.mono (by decide)) (by rfl) T.g_l_draw T.F_l_draw.kp b_l_draw .nil pass0 (pa_cons (pv 0) (pa_cons pe_int pa_nil))) pe_int (nomark _)) (pss_cons (ps_set (i := 2) sc_l_bits.nd rfl (.inl rfl) (pe_ix ix_str pe_str (pe_call G_l_draw (hr.mono (by decide)) (by rfl) T.g_l_draw T.F_l_draw.kp b_l_draw .nil pass0 (pa_cons (pv 0) (pa_cons pe_int pa_nil))) (fun _ _ => rfl))) (pss_one (ps_ret (pe_ifExp (pt_cmpR op_gt (pv 1) pe_int (nomark _)) (pe_slice sl_str (pe_op op_add_str (pe_op op_mulS (pv 2) (pv 1)) (pe_ix ix_str pe_str (pe_call G_l_draw (hr.mono (by decide)) (by rfl) T.g_l_draw T.F_l_draw.kp b_l_draw .nil pass0 (pa_cons (pv 0) (pa_cons pe_int pa_nil))) (fun _ _ => rfl))) (po_some pe_int) (po_some (pe_op op_add (pv 1) pe_int))) pe_str)))) pss_nil) (pss_one (ps_ret (pe_joinK (K := K) pe_str (pe_lc (own := [("_law_k", 3)]) rfl sc_l_bits.nd (pi_range1 (by rfl) T.n_range (pa_cons (pv 1) pa_nil)) (blkOk_by (own := [("_law_k", 3)]) (N := N_l_bits) (sc := defScope s_l_bits) (by decide +kernel)) (fun _ _ _ _ _ => (pg_name (i := 3) sc_l_bits.nd rfl (Or.inl rfl) (.inr rfl))) (fun _ _ _ _ _ => pts_nil) (fun _ _ _ _ _ => (pe_ix ix_str pe_str (pe_call G_l_draw (hr.mono (by decide)) (by rfl) T.g_l_draw T.F_l_draw.kp b_l_draw .nil pass0 (pa_cons (pv 0) (pa_cons pe_int pa_nil))) (fun _ _ => rfl)))))))), ?_⟩
    have g0 : Gr (Bc B C) F0 H0 F0 H0 := Gr.refl hS0
    unfold m_l_bits at hm
    refine p_seq ?_
    refine p_if ?_
    obtain ⟨r1, b2, hb3, hm⟩ := bnd2 hm
    refine ⟨(V.ref B), rfl, F0, B, C, b, (4 : Int), r1, b2, rfl, g0.fh, hB, hb3, fun F4 H5 g6 hB7 => ?_⟩
    have g9 := Gr.trans g0 g6
    refine ⟨rfl, _, rfl, (iteB (fun hc => ?_) (fun hc => ?_))⟩
    · have hm := ifT hc hm
      refine p_seq ?_
      refine p_asg ?_
      obtain ⟨r10, b11, hb12, hm⟩ := bnd2 hm
      refine ⟨(V.ref B), rfl, F4, B, C, b2, (2 : Int), r10, b11, rfl, g9.fh, hB7, hb12, fun F13 H14 g15 hB16 => ?_⟩
      have g18 := Gr.trans g9 g15
      obtain ⟨c19, hb20, hm⟩ := bnd hm
      refine ⟨_, _, c19, rfl, rfl, (⟨by decide +kernel, by decide +kernel⟩ : GS ("01" : Str)).len, hb20, ?_⟩
      refine p_name ?_
      refine p_nx ?_
      refine p_ret ?_
      refine ⟨(V.int y_size_here), rfl, _, _, rfl, rfl, _, rfl, ?_⟩
      obtain ⟨c21, b22, hc23, hm⟩ := bnd2 hm
      refine ifJ (M := (Bc B C)) (F := F13) (P := fun v' F' H' => v' = V.str (c21 : Str) ∧ GS (c21 : Str) ∧ BagAt F' H' B C b22) (fun ha => ?_) (fun ha => ?_) ?_
      · intro Q24 q25
        have hc23 := ifT ha hc23
        obtain ⟨t26, hb27, hc23⟩ := bnd hc23
        obtain ⟨hk28, rfl⟩ := mulS_ok hb27
        obtain ⟨r29, b30, hb31, hc23⟩ := bnd2 hc23
        refine ⟨(V.str (sgn c19)), rfl, (V.int y_size_here), rfl, _, _, rfl, rfl, hk28, (V.ref B), rfl, F13, B, C, b11, (2 : Int), r29, b30, rfl, g18.fh, hB16, hb31, fun F32 H33 g34 hB35 => ?_⟩
        have g37 := Gr.trans g18 g34
        have g38 := Gr.trans (Gr.refl (M := (Bc B C)) g18.fh) g34
        obtain ⟨c39, hb40, hc23⟩ := bnd hc23
        obtain ⟨t41, hb42, hc23⟩ := bnd hc23
        obtain ⟨hk43, rfl⟩ := catS_ok hb42
        obtain ⟨rfl, rfl⟩ := pjoin hc23
        refine ⟨_, _, c39, rfl, rfl, (⟨by decide +kernel, by decide +kernel⟩ : GS ("01" : Str)).len, hb40, _, _, rfl, rfl, hk43, _, rfl, (V.int y_size_here), rfl, _, _, rfl, rfl, _, rfl, _, rfl, ((GS.cat (GS.mul (GS.sg ⟨by decide +kernel, by decide +kernel⟩ (codeAt_mem hb20)) hb27) (GS.sg ⟨by decide +kernel, by decide +kernel⟩ (codeAt_mem hb40)) hb42) : GS ((Txt.mul (sgn c19) y_size_here) ++ (sgn c39))).len, (q25 _ _ _ g38 ⟨rfl, (GS.cut (GS.cat (GS.mul (GS.sg ⟨by decide +kernel, by decide +kernel⟩ (codeAt_mem hb20)) hb27) (GS.sg ⟨by decide +kernel, by decide +kernel⟩ (codeAt_mem hb40)) hb42) (some (1 : Int)) (some (y_size_here + (1 : Int)))), hB35⟩)⟩
      · intro Q44 q45
        have hc23 := ifF ha hc23
        obtain ⟨rfl, rfl⟩ := pjoin hc23
        exact (q45 _ _ _ (Gr.refl (M := (Bc B C)) g18.fh) ⟨rfl, ⟨by decide +kernel, by decide +kernel⟩, hB16⟩)
      intro v49 F46 H47 g48 hp50
      obtain ⟨hp50, hp50g, hB51⟩ := hp50
      have g52 := Gr.trans g18 g48
      obtain rfl := hp50
      obtain ⟨rfl, rfl⟩ := pjoin hm
      exact (hQ _ _ g52 hB51 hp50g)
    · have hm := ifF hc hm
      refine p_next ?_
      refine p_nx ?_
      refine p_ret ?_
      obtain ⟨l53, hb55, hm⟩ := bnd hm
      obtain ⟨hk54, rfl⟩ := rangeO1_ok hb55
      refine ⟨⟨_, rfl⟩, (V.int y_size_here), rfl, _, rfl, hk54.1.1, hk54.1.2, fun D56 nD57 => ?_⟩
      have nb58 := hB7.nb nD57
      have g59 := g9.own (o := (.lst [])) nD57
      have hB60 := hB7.own (o := (.lst [])) nD57
      have ow61 : Ow H0 F4 (upd H5 D56 (.lst [])) D56 [] := Ow.new g9 nD57
      obtain ⟨l62, b63, hb64, hm⟩ := bnd2 hm
      refine lc_range (lo := (0 : Int)) (n := (y_size_here).toNat) (fun i H' => ∃ (F' : Hp) (acc : List V) (ds : List Str) (rest : List Str) (b : Bag), Gr (Bc B C) F0 H0 F' H' ∧ Same F4 F' ∧ Ow H0 F' H' D56 acc ∧ RL K F' acc ds ∧ acc.length ≤ i ∧ BagAt F' H' B C b ∧ m_l_bits_c1  ((rangeL (0 : Int) (y_size_here).toNat).drop i) b = some (rest, b63) ∧ ds ++ rest = l62) ?_ ?_ ?_
      · exact ⟨F4, [], [], l62, b2, g59, Same.refl _, ow61, RpA.nil, Nat.le_refl _, hB60, hb64, rfl⟩
      · intro i66 H68 hx67 hP
        obtain ⟨F69, acc70, ds71, rest72, b73, g074, sm75, owD76, hA77, hi78, hB79, hm80, hr81⟩ := hP
        have he83 := rangeL_at (lo := (0 : Int)) hx67
        rw [drop_at he83, m_l_bits_c1.eq_2] at hm80
        refine ⟨rfl, (p_yes ?_)⟩
        obtain ⟨r84, b85, hb86, hm80⟩ := bnd2 hm80
        refine ⟨(V.ref B), rfl, F69, B, C, b73, (2 : Int), r84, b85, rfl, g074.fh, hB79, hb86, fun F87 H88 g89 hB90 => ?_⟩
        have g92 := Gr.trans g074 g89
        have ow93 := owD76.gr g89 nb58
        obtain ⟨c94, hb95, hm80⟩ := bnd hm80
        have hA96 : RL K F87 (acc70 ++ [(V.str (sgn c94))]) (ds71 ++ [((sgn c94) : Str)]) := RL.snoc (hA77.up g89.ff) (Rp.str (sgn c94) (GS.sg ⟨by decide +kernel, by decide +kernel⟩ (codeAt_mem hb95)))
        obtain ⟨rest97, b98, h99, h100⟩ := bnd2 hm80
        obtain ⟨rfl, rfl⟩ := pjoin h100
        refine ⟨_, _, c94, rfl, rfl, (⟨by decide +kernel, by decide +kernel⟩ : GS ("01" : Str)).len, hb95, acc70, ow93.h, (lt_line hi78 hx67 hk54.2), ?_⟩
        have g101 := g92.put (o := (.lst (acc70 ++ [(V.str (sgn c94))]))) ow93
        have hB102 := hB90.other (o := (.lst (acc70 ++ [(V.str (sgn c94))]))) nb58
        have ow103 := ow93.put (us := (acc70 ++ [(V.str (sgn c94))]))
        exact ⟨F87, (acc70 ++ [(V.str (sgn c94))]), (ds71 ++ [(sgn c94)]), rest97, b85, g101, (Same.trans sm75 g89.ff), ow103, hA96, (by rw [List.length_append]; exact Nat.succ_le_succ hi78), hB102, h99, (snoc_rest hr81)⟩
      intro H104 hP
      obtain ⟨F105, acc106, ds107, _rest, b108, g0109, sm110, owD111, hA112, hi113, hB114, hm115, hr116⟩ := hP
      rw [drop_end (rangeL_len _ _).symm] at hm115
      rw [m_l_bits_c1.eq_1] at hm115
      obtain ⟨rfl, rfl⟩ := pjoin hm115
      rw [List.append_nil] at hr116
      obtain rfl := hr116
      have hl117 : acc106.length ≤ sizeLine := Nat.le_trans hi113 hk54.2
      obtain ⟨t118, hb119, hm⟩ := bnd hm
      obtain ⟨hk120, rfl⟩ := joinS_ok hb119
      obtain ⟨rfl, rfl⟩ := pjoin hm
      refine ⟨_, D56, ds107, rfl, rfl, (.inl (by rw [← (RL.strs hA112).1]; exact owD111.sq)), hk120, (hQ _ _ g0109 hB114 (GS.join ⟨by decide +kernel, by decide +kernel⟩ (RL.strs hA112).2 hb119))⟩
end K03
namespace K03
open PySem PySem.Spec PyProof.Rows L2 TL G
theorem ok_l_worth {P : Program} {w : World} {K : PySem.W.Frag} {mg : Str → Option Value} {base : Heap} (T : Txt K mg) : FnOk P w K mg base CX0 1 T.a_l_worth T.d_l_worth ["_law_bits_here"] (sp_l_worth K) := by
  refine fd_ok T.F_l_worth sc_l_worth (fun vs H Q E h => ?_) (fun cdv A outer s H0 vs Q E hr h => ?_)
  · obtain ⟨_, _, rfl, _⟩ := h
    rfl
  · obtain ⟨y_bits_here, r, rfl, gs_y_bits_here, hm, hQ⟩ := h
    refine ⟨_, (pss_cons (ps_set (i := 1) sc_l_worth.nd rfl (.inl rfl) pe_int) (pss_cons (ps_for PassesOwn.never rfl (pi_str (pv 0)) (pg_name (i := 2) sc_l_worth.nd rfl (Or.inl rfl)) (pss_one (ps_set (i := 1) sc_l_worth.nd rfl (.inl rfl) (pe_op op_add (pe_op op_mul (pv 1) pe_int) (pe_callTy call_toI (by rfl) T.n_int (by decide +kernel) (pa_cons (pe_cmpR op_eq (pv 2) pe_str (nomark _)) pa_nil)))))) (pss_one (ps_ret (pv 1))))), ?_⟩
    have g0 : Gr M0 H0 H0 H0 H0 := Gr.refl (Same.refl _)
    unfold m_l_worth at hm
    refine p_seq ?_
    refine p_asg ?_
    refine p_name ?_
    refine p_nx ?_
    refine p_seq ?_
    refine p_for ?_
    refine ⟨(V.str y_bits_here), rfl, y_bits_here, rfl, ?_⟩
    obtain ⟨y_found1, ht2, hm⟩ := bnd hm
    refine for_str (z := y_bits_here) (fun i σ' H' => ∃ (F' : Hp) (y_found : Int) (o_y_sign : Option V), σ' = [(some (V.str y_bits_here)), (some (V.int y_found)), o_y_sign] ∧ Gr M0 H0 H0 F' H' ∧ Same H0 F' ∧ m_l_worth_l1  ((y_bits_here).cps.toList.drop i) y_found = some y_found1) ?_ ?_ ?_
    · exact ⟨H0, (0 : Int), none, rfl, g0, (Same.refl _), ht2⟩
    · intro i3 xv6 σ' H5 hx4 hP
      obtain ⟨F7, y_found8, o_y_sign9, rfl, g10, sm11, hm12⟩ := hP
      have he14 := str_at hx4
      rw [drop_at he14, m_l_worth_l1.eq_2] at hm12
      refine p_name ?_
      refine p_asg ?_
      refine ⟨(V.int y_found8), rfl, _, _, rfl, rfl, (.inr ⟨by decide, by decide⟩), (V.str (sgn xv6)), rfl, rfl, _, rfl, _, _, rfl, rfl, ?_⟩
      obtain ⟨y_found15, hb16, hm12⟩ := bnd hm12
      have hx17 : ((y_found8 * (2 : Int)) + (toI (eqS (sgn xv6) ("1" : Str)))) = y_found15 := sjoin hb16
      refine p_nm (v' := (V.int y_found15)) (congrArg V.int hx17) ?_
      exact ⟨F7, y_found15, (some (V.str (sgn xv6))), rfl, g10, sm11, hm12⟩
    intro σ18 H19 hP
    obtain ⟨F20, y_found21, o_y_sign22, rfl, g23, sm24, hm25⟩ := hP
    rw [drop_end str_size, m_l_worth_l1.eq_1] at hm25
    obtain rfl := sjoin hm25
    refine p_nx ?_
    refine p_ret ?_
    obtain rfl := sjoin hm
    refine ⟨(V.int y_found21), rfl, (hQ _ _ g23)⟩
end K03
namespace K03
open PySem PySem.Spec PyProof.Rows L2 TL G
theorem ok_l_size {P : Program} {w : World} {K : PySem.W.Frag} {mg : Str → Option Value} {base : Heap} (T : Txt K mg) : FnOk P w K mg base CX0 2 T.a_l_size T.d_l_size ["_law_bag_here"] (sp_l_size K) := by
  have G_l_draw : FnOk P w K mg base CX0 1 T.a_l_draw T.d_l_draw ["_law_bag_here", "_law_many"] (sp_l_draw K) := ok_l_draw T
  have b_l_draw := T.F_l_draw.bindsN (ps := ["_law_bag_here", "_law_many"]) fun _ _ _ _ _ _ us hl => match us, hl with | [_, _], _ => rfl
  refine fd_ok T.F_l_size sc_l_size (fun vs H Q E h => ?_) (fun cdv A outer s H0 vs Q E hr h => ?_)
  · obtain ⟨_, _, _, _, _, _, rfl, _⟩ := h
    rfl
  · obtain ⟨F0, B, C, b, r, b', rfl, hS0, hB, hm, hQ⟩ := h
    refine ⟨_, (pss_one (ps_ret (pe_ix (ix_listK (K := K)) (pe_lst (pa_cons (pe_op op_add pe_int (pe_call G_l_draw (hr.mono (by decide)) (by rfl) T.g_l_draw T.F_l_draw.kp b_l_draw .nil pass0 (pa_cons (pv 0) (pa_cons pe_int pa_nil)))) (pa_cons (pe_op op_add pe_int (pe_call G_l_draw (hr.mono (by decide)) (by rfl) T.g_l_draw T.F_l_draw.kp b_l_draw .nil pass0 (pa_cons (pv 0) (pa_cons pe_int pa_nil)))) (pa_cons pe_int (pa_cons (pe_op op_add pe_int (pe_call G_l_draw (hr.mono (by decide)) (by rfl) T.g_l_draw T.F_l_draw.kp b_l_draw .nil pass0 (pa_cons (pv 0) (pa_cons pe_int pa_nil)))) pa_nil))))) (pe_call G_l_draw (hr.mono (by decide)) (by rfl) T.g_l_draw T.F_l_draw.kp b_l_draw .nil pass0 (pa_cons (pv 0) (pa_cons pe_int pa_nil))) (fun _ _ => rfl)))), ?_⟩
    have g0 : Gr (Bc B C) F0 H0 F0 H0 := Gr.refl hS0
    unfold m_l_size at hm
    refine p_ret ?_
    obtain ⟨r1, b2, hb3, hm⟩ := bnd2 hm
    refine ⟨(V.ref B), rfl, F0, B, C, b, (6 : Int), r1, b2, rfl, g0.fh, hB, hb3, fun F4 H5 g6 hB7 => ?_⟩
    have g9 := Gr.trans g0 g6
    obtain ⟨r10, b11, hb12, hm⟩ := bnd2 hm
    refine ⟨_, _, rfl, rfl, (V.ref B), rfl, F4, B, C, b2, (30 : Int), r10, b11, rfl, g9.fh, hB7, hb12, fun F13 H14 g15 hB16 => ?_⟩
    have g18 := Gr.trans g9 g15
    obtain ⟨r19, b20, hb21, hm⟩ := bnd2 hm
    refine ⟨_, _, rfl, rfl, (V.ref B), rfl, F13, B, C, b11, (3 : Int), r19, b20, rfl, g18.fh, hB16, hb21, fun F22 H23 g24 hB25 => ?_⟩
    have g27 := Gr.trans g18 g24
    refine ⟨_, _, rfl, rfl, (by show 4 ≤ sizeLine; decide), fun p28 np29 => ?_⟩
    have nb30 := hB25.nb np29
    have g31 := g27.own (o := (.lst [(V.int ((1 : Int) + r1)), (V.int ((1 : Int) + r10)), (V.int (30 : Int)), (V.int ((1 : Int) + r19))])) np29
    have hB32 := hB25.own (o := (.lst [(V.int ((1 : Int) + r1)), (V.int ((1 : Int) + r10)), (V.int (30 : Int)), (V.int ((1 : Int) + r19))])) np29
    have ow33 : Ow H0 F22 (upd H23 p28 (.lst [(V.int ((1 : Int) + r1)), (V.int ((1 : Int) + r10)), (V.int (30 : Int)), (V.int ((1 : Int) + r19))])) p28 [(V.int ((1 : Int) + r1)), (V.int ((1 : Int) + r10)), (V.int (30 : Int)), (V.int ((1 : Int) + r19))] := Ow.new g27 np29
    have hA34 : RL K F22 [(V.int ((1 : Int) + r1)), (V.int ((1 : Int) + r10)), (V.int (30 : Int)), (V.int ((1 : Int) + r19))] ([((1 : Int) + r1), ((1 : Int) + r10), (30 : Int), ((1 : Int) + r19)] : List Int) := (RpA.cons (Rp.int ((1 : Int) + r1)) (RpA.cons (Rp.int ((1 : Int) + r10)) (RpA.cons (Rp.int (30 : Int)) (RpA.cons (Rp.int ((1 : Int) + r19)) RpA.nil))))
    obtain ⟨r35, b36, hb37, hm⟩ := bnd2 hm
    refine ⟨(V.ref B), rfl, F22, B, C, b20, (4 : Int), r35, b36, rfl, g31.fh, hB32, hb37, fun F38 H39 g40 hB41 => ?_⟩
    have g43 := Gr.trans g31 g40
    have ow44 := ow33.gr g40 nb30
    obtain ⟨t45, hb46, hm⟩ := bnd hm
    obtain ⟨v47, ha48, r49⟩ := RL.at (hA34.up g40.ff) hb46
    obtain rfl := R.int_v r49
    obtain ⟨rfl, rfl⟩ := pjoin hm
    refine ⟨p28, [(V.int ((1 : Int) + r1)), (V.int ((1 : Int) + r10)), (V.int (30 : Int)), (V.int ((1 : Int) + r19))], _, (V.int t45), rfl, rfl, ow44.sq, ha48, (hQ _ _ g43 hB41)⟩
end K03
namespace K03
open PySem PySem.Spec PyProof.Rows L2 TL G
theorem ok_l_one {P : Program} {w : World} {K : PySem.W.Frag} {mg : Str → Option Value} {base : Heap} (T : Txt K mg) : FnOk P w K mg base CX0 3 T.a_l_one T.d_l_one ["_law_bag_here", "_law_size_here", "_law_some_here"] (sp_l_one K) := by
  have G_l_bits : FnOk P w K mg base CX0 2 T.a_l_bits T.d_l_bits ["_law_bag_here", "_law_size_here"] (sp_l_bits K) := ok_l_bits T
  have b_l_bits := T.F_l_bits.bindsN (ps := ["_law_bag_here", "_law_size_here"]) fun _ _ _ _ _ _ us hl => match us, hl with | [_, _], _ => rfl
  have G_l_draw : FnOk P w K mg base CX0 1 T.a_l_draw T.d_l_draw ["_law_bag_here", "_law_many"] (sp_l_draw K) := ok_l_draw T
  have b_l_draw := T.F_l_draw.bindsN (ps := ["_law_bag_here", "_law_many"]) fun _ _ _ _ _ _ us hl => match us, hl with | [_, _], _ => rfl
  refine fd_ok T.F_l_one sc_l_one (fun vs H Q E h => ?_) (fun cdv A outer s H0 vs Q E hr h => ?_)
  · obtain ⟨_, _, _, _, _, _, _, _, _, _, rfl, _⟩ := h
    rfl
  · obtain ⟨F0, B, C, b, y_size_here, p_y_some_here, ws_y_some_here, y_some_here, r, b', rfl, hS0, hB, hS_y_some_here, hl_y_some_here, hA_y_some_here, nm_y_some_here, hm, hQ⟩ := h
    refine ⟨_, (pss_cons (ps_set (i := 3) sc_l_one.nd rfl (.inl rfl) (pe_call G_l_bits (hr.mono (by decide)) (by rfl) T.g_l_bits T.F_l_bits.kp b_l_bits .nil pass0 (pa_cons (pv 0) (pa_cons (pe_call G_l_draw (hr.mono (by decide)) (by rfl) T.g_l_draw T.F_l_draw.kp b_l_draw .nil pass0 (pa_cons (pv 0) (pa_cons (pe_op op_add (pv 1) pe_int) pa_nil))) pa_nil)))) (pss_cons (ps_set (i := 4) sc_l_one.nd rfl (.inl rfl) (pe_call G_l_draw (hr.mono (by decide)) (by rfl) T.g_l_draw T.F_l_draw.kp b_l_draw .nil pass0 (pa_cons (pv 0) (pa_cons pe_int pa_nil)))) (pss_cut (ps_if (PW.pt (pw_and (pt_cmpR (op_neDK (K := K) hr.units) (pv 2) (pe_lst pa_nil) (nomark _)) (pw_and1 (pt_cmpR op_lt (pv 4) pe_int (nomark _))))) (pss_cons (ps_set (i := 5) sc_l_one.nd rfl (.inl rfl) (pe_bmK (K := K) PySem.F.plainAttrs_str PySem.F.slot_str_strip PySem.F.type_str_strip mt_stripChars (pe_ix (ix_listK (K := K)) (pv 2) (pe_call G_l_draw (hr.mono (by decide)) (by rfl) T.g_l_draw T.F_l_draw.kp b_l_draw .nil pass0 (pa_cons (pv 0) (pa_cons (pe_callB (call_lenLK (K := K)) (by rfl) T.n_len (by decide +kernel) (pa_cons (pv 2) pa_nil)) pa_nil))) (fun _ _ => rfl)) (pa_cons pe_str pa_nil))) (pss_cons (ps_set (i := 6) sc_l_one.nd rfl (.inl rfl) (pe_dget2 (hu_of hr) (pe_disp (pps_cons pe_str pe_str (pps_cons pe_str pe_str pps_nil)) (by rfl) (by rfl) (fun z => by cases z) (by decide)) (pe_slice sl_str (pv 5) (po_some (pe_un un_neg pe_int)) po_none) pe_str ⟨by rfl, by rfl, by rfl, by rfl⟩)) (pss_cons (ps_set (i := 7) sc_l_one.nd rfl (.inl rfl) (pe_call G_l_draw (hr.mono (by decide)) (by rfl) T.g_l_draw T.F_l_draw.kp b_l_draw .nil pass0 (pa_cons (pv 0) (pa_cons (pe_op op_add (pe_callB call_len_str (by rfl) T.n_len (by decide +kernel) (pa_cons (pv 5) pa_nil)) pe_int) pa_nil)))) (pss_one (ps_set (i := 3) sc_l_one.nd rfl (.inl rfl) (pe_ix (ix_listK (K := K)) (pe_lst (pa_cons (pe_slice sl_str (pv 5) po_none (po_some (pv 7))) (pa_cons (pe_op op_add_str (pv 5) (pe_ix ix_str pe_str (pe_call G_l_draw (hr.mono (by decide)) (by rfl) T.g_l_draw T.F_l_draw.kp b_l_draw .nil pass0 (pa_cons (pv 0) (pa_cons pe_int pa_nil))) (fun _ _ => rfl))) (pa_cons (pe_op op_add_str (pe_slice sl_str (pv 5) po_none (po_some (pe_un un_neg pe_int))) (pv 6)) pa_nil)))) (pv 4) (fun _ _ => rfl))))))) pss_nil) (pss_cut (ps_if (pt_cmpR op_eq (pv 4) pe_int (nomark _)) (pss_one (ps_set (i := 3) sc_l_one.nd rfl (.inl rfl) (pe_op op_add_str (pv 3) (pe_call G_l_bits (hr.mono (by decide)) (by rfl) T.g_l_bits T.F_l_bits.kp b_l_bits .nil pass0 (pa_cons (pv 0) (pa_cons (pe_op op_sub (pv 1) (pe_callB call_len_str (by rfl) T.n_len (by decide +kernel) (pa_cons (pv 3) pa_nil))) pa_nil)))))) pss_nil) (pss_cons (ps_set (i := 3) sc_l_one.nd rfl (.inl rfl) (pe_slice sl_str (pv 3) po_none (po_some (pv 1)))) (pss_one (ps_ret (pe_op op_add_str (pv 3) (pe_op op_mulS pe_str (pe_callTy call_toI (by rfl) T.n_int (by decide +kernel) (pa_cons (pe_cmpR op_lt (pe_callB call_len_str (by rfl) T.n_len (by decide +kernel) (pa_cons (pv 3) pa_nil)) (pv 1) (nomark _)) pa_nil))))))))))), ?_⟩
    have g0 : Gr (Bc B C) F0 H0 F0 H0 := Gr.refl hS0
    unfold m_l_one at hm
    refine p_seq ?_
    refine p_asg ?_
    obtain ⟨r1, b2, hb3, hm⟩ := bnd2 hm
    refine ⟨(V.ref B), rfl, (V.ref B), rfl, (V.int y_size_here), rfl, _, _, rfl, rfl, F0, B, C, b, (y_size_here + (1 : Int)), r1, b2, rfl, g0.fh, hB, hb3, fun F4 H5 g6 hB7 => ?_⟩
    have g9 := Gr.trans g0 g6
    obtain ⟨r10, b11, hb12, hm⟩ := bnd2 hm
    refine ⟨F4, B, C, b2, r1, r10, b11, rfl, g9.fh, hB7, hb12, fun F13 H14 g15 hB16 gs17 => ?_⟩
    have g18 := Gr.trans g9 g15
    refine p_name ?_
    refine p_nx ?_
    refine p_seq ?_
    refine p_asg ?_
    obtain ⟨r19, b20, hb21, hm⟩ := bnd2 hm
    refine ⟨(V.ref B), rfl, F13, B, C, b11, (5 : Int), r19, b20, rfl, g18.fh, hB16, hb21, fun F22 H23 g24 hB25 => ?_⟩
    have g27 := Gr.trans g18 g24
    refine p_name ?_
    refine p_nx ?_
    obtain ⟨y_bits_here28, b29, hj30, hm⟩ := bnd2 hm
    refine ⟨fun σ' H' => ∃ (F' : Hp) (o_y_near : Option V) (o_y_turned : Option V) (o_y_cut : Option V), σ' = [(some (V.ref B)), (some (V.int y_size_here)), (some (V.ref p_y_some_here)), (some (V.str y_bits_here28)), (some (V.int r19)), o_y_near, o_y_turned, o_y_cut] ∧ Gr (Bc B C) F0 H0 F' H' ∧ Same F22 F' ∧ GS y_bits_here28 ∧ BagAt F' H' B C b29, ?_, ?_⟩
    · refine p_if ?_
      refine ⟨(V.ref p_y_some_here), rfl, (by show 0 ≤ sizeLine; decide), fun p31 np32 => ?_⟩
      have nb33 := hB25.nb np32
      have g34 := g27.own (o := (.lst [])) np32
      have hB35 := hB25.own (o := (.lst [])) np32
      have ow36 : Ow H0 F22 (upd H23 p31 (.lst [])) p31 [] := Ow.new g27 np32
      have rH38 : R K (upd H23 p31 (.lst [])) (V.ref p_y_some_here) y_some_here := (R.mkl (g34.seq nm_y_some_here hS_y_some_here) hl_y_some_here (RpA.up (hA_y_some_here.up (Same.trans g6.ff (Same.trans g15.ff g24.ff))) g34.fh))
      have rH39 : R K (upd H23 p31 (.lst [])) (V.ref p31) ([] : (List Str)) := (R.mkl ow36.sq (by show 0 ≤ sizeLine; decide) (RpA.up RpA.nil g34.fh))
      refine ⟨_, _, (Rp.dp _ _ rH38), (Rp.dp _ _ rH39), (R.shaped rH38), (R.shaped rH39), _, rfl, ?_⟩
      refine andJT (M := M0) (F := F22) (c := ((!eqD y_some_here ([] : (List Str))) && (decide (r19 < (3 : Int))))) (P := fun _ _ => True) (fun ha => ?_) (fun ha => ⟨(anF ha), trivial⟩) g34.fh ?_
      · intro Q43 q44
        refine ⟨(V.int r19), rfl, _, _, rfl, rfl, _, rfl, (qTb ha (q44 _ _ (Gr.refl (M := M0) g34.fh) trivial))⟩
      intro F45 H46 g47 hB48
      have g49 := Gr.trans g34 (Gr.of0 g47)
      have ow50 := ow36.gr0 g47
      have hB51 := hB35.gr0 g47
      refine (iteB (fun hc => ?_) (fun hc => ?_))
      · have hj30 := ifT hc hj30
        refine p_seq ?_
        refine p_asg ?_
        obtain ⟨r52, b53, hb54, hj30⟩ := bnd2 hj30
        refine ⟨(V.ref p_y_some_here), rfl, (V.ref B), rfl, (V.ref p_y_some_here), rfl, p_y_some_here, ws_y_some_here, _, rfl, (.inl (g49.seq nm_y_some_here hS_y_some_here)), (RL.len (hA_y_some_here.up (Same.trans g6.ff (Same.trans g15.ff (Same.trans g24.ff g47.ff))))), F45, B, C, b20, (((y_some_here).length : Nat) : Int), r52, b53, rfl, g49.fh, hB51, hb54, fun F55 H56 g57 hB58 => ?_⟩
        have g60 := Gr.trans g49 g57
        have ow61 := ow50.gr g57 nb33
        obtain ⟨t62, hb63, hj30⟩ := bnd hj30
        obtain ⟨v64, ha65, r66⟩ := RL.at (hA_y_some_here.up (Same.trans g6.ff (Same.trans g15.ff (Same.trans g24.ff (Same.trans g47.ff g57.ff))))) hb63
        obtain ⟨rfl, gs67⟩ := R.str_v r66
        refine ⟨p_y_some_here, ws_y_some_here, _, (V.str t62), rfl, rfl, (g60.seq nm_y_some_here hS_y_some_here), ha65, rfl, _, _, rfl, rfl, (gs67 : GS t62).len, ?_⟩
        obtain ⟨y_near68, hb69, hj30⟩ := bnd hj30
        have hx70 : (Txt.stripChars t62 ("*" : Str)) = y_near68 := sjoin hb69
        have gs71 : GS y_near68 := hx70 ▸ ((GS.strip (gs67 : GS t62) ("*" : Str)) : GS (Txt.stripChars t62 ("*" : Str)))
        refine p_nm (v' := (V.str y_near68)) (congrArg V.str hx70) ?_
        refine p_nx ?_
        refine p_seq ?_
        refine p_asg ?_
        refine rd_dgets (k := (cutS y_near68 (some (-(1 : Int))) none)) (d := ("" : Str)) _ [(("0" : Str), ("1" : Str)), (("1" : Str), ("0" : Str))] rfl (by decide) (by decide +kernel) (fun H1 Q q => ⟨(V.str y_near68), rfl, _, rfl, _, rfl, _, rfl, (gs71 : GS y_near68).len, q⟩) (fun H1 Q q => q) (fun p72 np73 => ?_)
        have ne74 := ow61.ne np73
        have nb75 := hB58.nb np73
        have g76 := g60.own (o := (.dK (kvS [(("0" : Str), ("1" : Str)), (("1" : Str), ("0" : Str))]))) np73
        have ow77 := ow61.own (o := (.dK (kvS [(("0" : Str), ("1" : Str)), (("1" : Str), ("0" : Str))]))) np73
        have hB78 := hB58.own (o := (.dK (kvS [(("0" : Str), ("1" : Str)), (("1" : Str), ("0" : Str))]))) np73
        obtain ⟨y_turned79, hb80, hj30⟩ := bnd hj30
        have hx81 : (dgetS [(("0" : Str), ("1" : Str)), (("1" : Str), ("0" : Str))] (cutS y_near68 (some (-(1 : Int))) none) ("" : Str)) = y_turned79 := sjoin hb80
        have gs82 : GS y_turned79 := hx81 ▸ ((GS.dg (fun kv h => by simp only [List.mem_cons, List.not_mem_nil, or_false] at h; rcases h with rfl | rfl <;> exact ⟨by decide +kernel, by decide +kernel⟩) ⟨by decide +kernel, by decide +kernel⟩) : GS (dgetS [(("0" : Str), ("1" : Str)), (("1" : Str), ("0" : Str))] (cutS y_near68 (some (-(1 : Int))) none) ("" : Str)))
        refine p_nm (v' := (V.str y_turned79)) (congrArg V.str hx81) ?_
        refine p_nx ?_
        refine p_seq ?_
        refine p_asg ?_
        obtain ⟨r83, b84, hb85, hj30⟩ := bnd2 hj30
        refine ⟨(V.ref B), rfl, (V.str y_near68), rfl, _, rfl, (gs71 : GS y_near68).len, _, _, rfl, rfl, F55, B, C, b53, (((y_near68.length : Nat) : Int) + (1 : Int)), r83, b84, rfl, g76.fh, hB78, hb85, fun F86 H87 g88 hB89 => ?_⟩
        have g91 := Gr.trans g76 g88
        have ow92 := ow77.gr g88 nb33
        refine p_name ?_
        refine p_nx ?_
        refine p_asg ?_
        obtain ⟨r93, b94, hb95, hj30⟩ := bnd2 hj30
        refine ⟨(V.str y_near68), rfl, (V.int r83), rfl, _, rfl, _, rfl, (gs71 : GS y_near68).len, (V.str y_near68), rfl, (V.ref B), rfl, F86, B, C, b84, (2 : Int), r93, b94, rfl, g91.fh, hB89, hb95, fun F96 H97 g98 hB99 => ?_⟩
        have g101 := Gr.trans g91 g98
        have ow102 := ow92.gr g98 nb33
        obtain ⟨c103, hb104, hj30⟩ := bnd hj30
        obtain ⟨t105, hb106, hj30⟩ := bnd hj30
        obtain ⟨hk107, rfl⟩ := catS_ok hb106
        obtain ⟨t108, hb109, hj30⟩ := bnd hj30
        obtain ⟨hk110, rfl⟩ := catS_ok hb109
        refine ⟨_, _, c103, rfl, rfl, (⟨by decide +kernel, by decide +kernel⟩ : GS ("01" : Str)).len, hb104, _, _, rfl, rfl, hk107, (V.str y_near68), rfl, _, rfl, _, rfl, _, rfl, (gs71 : GS y_near68).len, (V.str y_turned79), rfl, _, _, rfl, rfl, hk110, (by show 3 ≤ sizeLine; decide), fun p111 np112 => ?_⟩
        have ne113 := ow102.ne np112
        have nb114 := hB99.nb np112
        have g115 := g101.own (o := (.lst [(V.str (cutS y_near68 none (some r83))), (V.str (y_near68 ++ (sgn c103))), (V.str ((cutS y_near68 none (some (-(1 : Int)))) ++ y_turned79))])) np112
        have ow116 := ow102.own (o := (.lst [(V.str (cutS y_near68 none (some r83))), (V.str (y_near68 ++ (sgn c103))), (V.str ((cutS y_near68 none (some (-(1 : Int)))) ++ y_turned79))])) np112
        have hB117 := hB99.own (o := (.lst [(V.str (cutS y_near68 none (some r83))), (V.str (y_near68 ++ (sgn c103))), (V.str ((cutS y_near68 none (some (-(1 : Int)))) ++ y_turned79))])) np112
        have ow118 : Ow H0 F96 (upd H97 p111 (.lst [(V.str (cutS y_near68 none (some r83))), (V.str (y_near68 ++ (sgn c103))), (V.str ((cutS y_near68 none (some (-(1 : Int)))) ++ y_turned79))])) p111 [(V.str (cutS y_near68 none (some r83))), (V.str (y_near68 ++ (sgn c103))), (V.str ((cutS y_near68 none (some (-(1 : Int)))) ++ y_turned79))] := Ow.new g101 np112
        have hA119 : RL K F96 [(V.str (cutS y_near68 none (some r83))), (V.str (y_near68 ++ (sgn c103))), (V.str ((cutS y_near68 none (some (-(1 : Int)))) ++ y_turned79))] ([(cutS y_near68 none (some r83)), (y_near68 ++ (sgn c103)), ((cutS y_near68 none (some (-(1 : Int)))) ++ y_turned79)] : List Str) := (RpA.cons (Rp.str (cutS y_near68 none (some r83)) (GS.cut gs71 none (some r83))) (RpA.cons (Rp.str (y_near68 ++ (sgn c103)) (GS.cat gs71 (GS.sg ⟨by decide +kernel, by decide +kernel⟩ (codeAt_mem hb104)) hb106)) (RpA.cons (Rp.str ((cutS y_near68 none (some (-(1 : Int)))) ++ y_turned79) (GS.cat (GS.cut gs71 none (some (-(1 : Int)))) gs82 hb109)) RpA.nil)))
        obtain ⟨t120, hb121, hj30⟩ := bnd hj30
        obtain ⟨v122, ha123, r124⟩ := RL.at hA119 hb121
        obtain ⟨rfl, gs125⟩ := R.str_v r124
        refine ⟨(V.int r19), rfl, p111, [(V.str (cutS y_near68 none (some r83))), (V.str (y_near68 ++ (sgn c103))), (V.str ((cutS y_near68 none (some (-(1 : Int)))) ++ y_turned79))], _, (V.str t120), rfl, rfl, ow118.sq, ha123, ?_⟩
        refine p_name ?_
        obtain ⟨rfl, rfl⟩ := pjoin hj30
        exact ⟨F96, (some (V.str y_near68)), (some (V.str y_turned79)), (some (V.int r83)), rfl, g115, (Same.trans g47.ff (Same.trans g57.ff (Same.trans g88.ff g98.ff))), gs125, hB117⟩
      · have hj30 := ifF hc hj30
        refine p_next ?_
        obtain ⟨rfl, rfl⟩ := pjoin hj30
        exact ⟨F45, none, none, none, rfl, g49, g47.ff, gs17, hB51⟩
    intro σ126 H127 hMid
    obtain ⟨F128, o_y_near134, o_y_turned135, o_y_cut136, rfl, g129, sm130, gs_y_bits_here28131, hB132⟩ := hMid
    obtain ⟨y_bits_here137, b138, hj139, hm⟩ := bnd2 hm
    refine ⟨fun σ' H' => ∃ (F' : Hp), σ' = [(some (V.ref B)), (some (V.int y_size_here)), (some (V.ref p_y_some_here)), (some (V.str y_bits_here137)), (some (V.int r19)), o_y_near134, o_y_turned135, o_y_cut136] ∧ Gr (Bc B C) F0 H0 F' H' ∧ Same F128 F' ∧ GS y_bits_here137 ∧ BagAt F' H' B C b138, ?_, ?_⟩
    · refine p_if ?_
      refine ⟨(V.int r19), rfl, rfl, _, rfl, (iteB (fun hc => ?_) (fun hc => ?_))⟩
      · have hj139 := ifT hc hj139
        refine p_asg ?_
        obtain ⟨r140, b141, hb142, hj139⟩ := bnd2 hj139
        refine ⟨(V.str y_bits_here28), rfl, (V.ref B), rfl, (V.int y_size_here), rfl, (V.str y_bits_here28), rfl, _, rfl, (gs_y_bits_here28131 : GS y_bits_here28).len, _, _, rfl, rfl, F128, B, C, b29, (y_size_here - ((y_bits_here28.length : Nat) : Int)), r140, b141, rfl, g129.fh, hB132, hb142, fun F143 H144 g145 hB146 gs147 => ?_⟩
        have g148 := Gr.trans g129 g145
        obtain ⟨t149, hb150, hj139⟩ := bnd hj139
        obtain ⟨hk151, rfl⟩ := catS_ok hb150
        refine ⟨_, _, rfl, rfl, hk151, ?_⟩
        obtain ⟨y_bits_here152, hx153⟩ : ∃ z_, (y_bits_here28 ++ r140) = z_ := ⟨_, rfl⟩
        try rw [hx153] at hj139
        have gs154 : GS y_bits_here152 := hx153 ▸ ((GS.cat gs_y_bits_here28131 gs147 hb150) : GS (y_bits_here28 ++ r140))
        refine p_nm (v' := (V.str y_bits_here152)) (congrArg V.str hx153) ?_
        obtain ⟨rfl, rfl⟩ := pjoin hj139
        exact ⟨F143, rfl, g148, g145.ff, gs154, hB146⟩
      · have hj139 := ifF hc hj139
        refine p_next ?_
        obtain ⟨rfl, rfl⟩ := pjoin hj139
        exact ⟨F128, rfl, g129, (Same.refl _), gs_y_bits_here28131, hB132⟩
    intro σ155 H156 hMid
    obtain ⟨F157, rfl, g158, sm159, gs_y_bits_here137160, hB161⟩ := hMid
    refine p_seq ?_
    refine p_asg ?_
    refine ⟨(V.str y_bits_here137), rfl, (V.int y_size_here), rfl, _, rfl, _, rfl, (gs_y_bits_here137160 : GS y_bits_here137).len, ?_⟩
    obtain ⟨y_bits_here163, hb164, hm⟩ := bnd hm
    have hx165 : (cutS y_bits_here137 none (some y_size_here)) = y_bits_here163 := sjoin hb164
    have gs166 : GS y_bits_here163 := hx165 ▸ ((GS.cut gs_y_bits_here137160 none (some y_size_here)) : GS (cutS y_bits_here137 none (some y_size_here)))
    refine p_nm (v' := (V.str y_bits_here163)) (congrArg V.str hx165) ?_
    refine p_nx ?_
    refine p_ret ?_
    obtain ⟨t167, hb168, hm⟩ := bnd hm
    obtain ⟨hk169, rfl⟩ := mulS_ok hb168
    obtain ⟨t170, hb171, hm⟩ := bnd hm
    obtain ⟨hk172, rfl⟩ := catS_ok hb171
    obtain ⟨rfl, rfl⟩ := pjoin hm
    refine ⟨(V.str y_bits_here163), rfl, (V.str y_bits_here163), rfl, _, rfl, (gs166 : GS y_bits_here163).len, (V.int y_size_here), rfl, _, _, rfl, rfl, _, rfl, _, _, rfl, rfl, hk169, _, _, rfl, rfl, hk172, (hQ _ _ g158 hB161 (GS.cat gs166 (GS.mul ⟨by decide +kernel, by decide +kernel⟩ hb168) hb171))⟩
end K03
namespace K03
open PySem PySem.Spec PyProof.Rows L2 TL G
theorem ok_l_some {P : Program} {w : World} {K : PySem.W.Frag} {mg : Str → Option Value} {base : Heap} (T : Txt K mg) : FnOk P w K mg base CX0 4 T.a_l_some T.d_l_some ["_law_bag_here", "_law_size_here", "_law_most"] (sp_l_some K) := by
  have G_l_draw : FnOk P w K mg base CX0 1 T.a_l_draw T.d_l_draw ["_law_bag_here", "_law_many"] (sp_l_draw K) := ok_l_draw T
  have b_l_draw := T.F_l_draw.bindsN (ps := ["_law_bag_here", "_law_many"]) fun _ _ _ _ _ _ us hl => match us, hl with | [_, _], _ => rfl
  have G_l_one : FnOk P w K mg base CX0 3 T.a_l_one T.d_l_one ["_law_bag_here", "_law_size_here", "_law_some_here"] (sp_l_one K) := ok_l_one T
  have b_l_one := T.F_l_one.bindsN (ps := ["_law_bag_here", "_law_size_here", "_law_some_here"]) fun _ _ _ _ _ _ us hl => match us, hl with | [_, _, _], _ => rfl
  refine fd_ok T.F_l_some sc_l_some (fun vs H Q E h => ?_) (fun cdv A outer s H0 vs Q E hr h => ?_)
  · obtain ⟨_, _, _, _, _, _, _, _, rfl, _⟩ := h
    rfl
  · obtain ⟨F0, B, C, b, y_size_here, y_most, r, b', rfl, hS0, hB, hm, hQ⟩ := h
    refine ⟨_, (pss_cons (ps_set (i := 3) sc_l_some.nd rfl (.inl rfl) (pe_lst pa_nil)) (pss_cons (ps_for PassesOwn.never rfl (pi_range1 (by rfl) T.n_range (pa_cons (pe_ix (ix_listK (K := K)) (pe_lst (pa_cons (pe_call G_l_draw (hr.mono (by decide)) (by rfl) T.g_l_draw T.F_l_draw.kp b_l_draw .nil pass0 (pa_cons (pv 0) (pa_cons pe_int pa_nil))) (pa_cons (pe_call G_l_draw (hr.mono (by decide)) (by rfl) T.g_l_draw T.F_l_draw.kp b_l_draw .nil pass0 (pa_cons (pv 0) (pa_cons (pe_op op_add (pv 2) pe_int) pa_nil))) pa_nil))) (pe_call G_l_draw (hr.mono (by decide)) (by rfl) T.g_l_draw T.F_l_draw.kp b_l_draw .nil pass0 (pa_cons (pv 0) (pa_cons pe_int pa_nil))) (fun _ _ => rfl)) pa_nil)) (pg_name (i := 4) sc_l_some.nd rfl (Or.inl rfl)) (pss_one (ps_expr (pe_bmK (K := K) PySem.F.plainAttrs_list PySem.F.slot_list_append PySem.F.type_list_append mt_append (pv 3) (pa_cons (pe_call G_l_one (hr.mono (by decide)) (by rfl) T.g_l_one T.F_l_one.kp b_l_one .nil pass0 (pa_cons (pv 0) (pa_cons (pv 1) (pa_cons (pv 3) pa_nil)))) pa_nil))))) (pss_one (ps_ret (pv 3))))), ?_⟩
    have g0 : Gr (Bc B C) F0 H0 F0 H0 := Gr.refl hS0
    unfold m_l_some at hm
    refine p_seq ?_
    refine p_asg ?_
    refine ⟨(by show 0 ≤ sizeLine; decide), fun p1 np2 => ?_⟩
    have nb3 := hB.nb np2
    have g4 := g0.own (o := (.lst [])) np2
    have hB5 := hB.own (o := (.lst [])) np2
    have ow6 : Ow H0 F0 (upd H0 p1 (.lst [])) p1 [] := Ow.new g0 np2
    refine p_name ?_
    refine p_nx ?_
    refine p_seq ?_
    refine p_for ?_
    obtain ⟨r8, b9, hb10, hm⟩ := bnd2 hm
    refine ⟨(V.ref B), rfl, F0, B, C, b, (6 : Int), r8, b9, rfl, g4.fh, hB5, hb10, fun F11 H12 g13 hB14 => ?_⟩
    have g16 := Gr.trans g4 g13
    have ow17 := ow6.gr g13 nb3
    obtain ⟨r18, b19, hb20, hm⟩ := bnd2 hm
    refine ⟨(V.ref B), rfl, (V.int y_most), rfl, _, _, rfl, rfl, F11, B, C, b9, (y_most + (1 : Int)), r18, b19, rfl, g16.fh, hB14, hb20, fun F21 H22 g23 hB24 => ?_⟩
    have g26 := Gr.trans g16 g23
    have ow27 := ow17.gr g23 nb3
    refine ⟨(by show 2 ≤ sizeLine; decide), fun p28 np29 => ?_⟩
    have ne30 := ow27.ne np29
    have nb31 := hB24.nb np29
    have g32 := g26.own (o := (.lst [(V.int r8), (V.int r18)])) np29
    have ow33 := ow27.own (o := (.lst [(V.int r8), (V.int r18)])) np29
    have hB34 := hB24.own (o := (.lst [(V.int r8), (V.int r18)])) np29
    have ow35 : Ow H0 F21 (upd H22 p28 (.lst [(V.int r8), (V.int r18)])) p28 [(V.int r8), (V.int r18)] := Ow.new g26 np29
    have hA36 : RL K F21 [(V.int r8), (V.int r18)] ([r8, r18] : List Int) := (RpA.cons (Rp.int r8) (RpA.cons (Rp.int r18) RpA.nil))
    obtain ⟨r37, b38, hb39, hm⟩ := bnd2 hm
    refine ⟨(V.ref B), rfl, F21, B, C, b19, (2 : Int), r37, b38, rfl, g32.fh, hB34, hb39, fun F40 H41 g42 hB43 => ?_⟩
    have g45 := Gr.trans g32 g42
    have ow46 := ow33.gr g42 nb3
    have ow47 := ow35.gr g42 nb31
    obtain ⟨t48, hb49, hm⟩ := bnd hm
    obtain ⟨v50, ha51, r52⟩ := RL.at (hA36.up g42.ff) hb49
    obtain rfl := R.int_v r52
    obtain ⟨l53, hb55, hm⟩ := bnd hm
    obtain ⟨hk54, rfl⟩ := rangeO1_ok hb55
    refine ⟨p28, [(V.int r8), (V.int r18)], _, (V.int t48), rfl, rfl, ow47.sq, ha51, _, rfl, hk54.1.1, hk54.1.2, ?_⟩
    obtain ⟨y_found56, b57, ht58, hm⟩ := bnd2 hm
    refine for_range (lo := (0 : Int)) (n := (t48).toNat) (fun i σ' H' => ∃ (F' : Hp) (o_y_k : Option V) (y_found : (List Str)) (ws_y_found : List V) (b : Bag), σ' = [(some (V.ref B)), (some (V.int y_size_here)), (some (V.int y_most)), (some (V.ref p1)), o_y_k] ∧ Gr (Bc B C) F0 H0 F' H' ∧ Same F40 F' ∧ Ow H0 F' H' p1 ws_y_found ∧ ws_y_found.length ≤ sizeLine ∧ RL K F' ws_y_found y_found ∧ BagAt F' H' B C b ∧ m_l_some_l1 y_size_here ((rangeL (0 : Int) (t48).toNat).drop i) y_found b = some (y_found56, b57)) ?_ ?_ ?_
    · exact ⟨F40, none, ([] : (List Str)), [], b38, rfl, g45, (Same.refl _), ow46, (by show 0 ≤ sizeLine; decide), (RpA.nil.up (Same.trans g13.ff (Same.trans g23.ff g42.ff))), hB43, ht58⟩
    · intro i59 σ' H61 hx60 hP
      obtain ⟨F63, o_y_k64, y_found65, ws_y_found66, b67, rfl, g68, sm69, ow_y_found70, hl_y_found71, hA_y_found72, hB73, hm74⟩ := hP
      have he76 := rangeL_at (lo := (0 : Int)) hx60
      rw [drop_at he76, m_l_some_l1.eq_2] at hm74
      refine p_name ?_
      refine p_drop ?_
      obtain ⟨r77, b78, hb79, hm74⟩ := bnd2 hm74
      refine ⟨(V.ref p1), rfl, (.inl ⟨rfl, _, ow_y_found70.sq⟩), (V.ref B), rfl, (V.int y_size_here), rfl, (V.ref p1), rfl, F63, B, C, b67, y_size_here, p1, ws_y_found66, y_found65, r77, b78, rfl, g68.fh, hB73, ow_y_found70.sq, hl_y_found71, hA_y_found72, nb3, hb79, fun F80 H81 g82 hB83 gs84 => ?_⟩
      have g85 := Gr.trans g68 g82
      have ow86 := ow_y_found70.gr g82 nb3
      obtain ⟨t87, hb88, hm74⟩ := bnd hm74
      obtain ⟨hk89, rfl⟩ := appL_ok hb88
      refine ⟨p1, ws_y_found66, (V.str r77), rfl, rfl, ow86.h, (by rw [RL.len (hA_y_found72.up g82.ff)]; exact hk89), ?_⟩
      have hA90 : RL K F80 (ws_y_found66 ++ [(V.str r77)]) (y_found65 ++ [(r77 : Str)]) := RL.snoc (hA_y_found72.up g82.ff) (Rp.str r77 gs84)
      have hl91 : (ws_y_found66 ++ [(V.str r77)]).length ≤ sizeLine := by rw [List.length_append, RL.len (hA_y_found72.up g82.ff)]; exact hk89
      have g92 := g85.put (o := (.lst (ws_y_found66 ++ [(V.str r77)]))) ow86
      have hB93 := hB83.other (o := (.lst (ws_y_found66 ++ [(V.str r77)]))) nb3
      have ow94 := ow86.put (us := (ws_y_found66 ++ [(V.str r77)]))
      exact ⟨F80, (some (V.int ((0 : Int) + ((i59 : Nat) : Int)))), (y_found65 ++ [r77]), (ws_y_found66 ++ [(V.str r77)]), b78, rfl, g92, (Same.trans sm69 g82.ff), ow94, hl91, hA90, hB93, hm74⟩
    intro σ95 H96 hP
    obtain ⟨F97, o_y_k98, y_found99, ws_y_found100, b101, rfl, g102, sm103, ow_y_found104, hl_y_found105, hA_y_found106, hB107, hm108⟩ := hP
    rw [drop_end (rangeL_len _ _).symm, m_l_some_l1.eq_1] at hm108
    obtain ⟨rfl, rfl⟩ := pjoin hm108
    refine p_nx ?_
    refine p_ret ?_
    obtain ⟨rfl, rfl⟩ := pjoin hm
    refine ⟨(V.ref p1), rfl, (hQ _ _ _ _ g102 hB107 ow_y_found104.n0 ow_y_found104.h ow_y_found104.nF hl_y_found105 hA_y_found106)⟩
end K03
namespace K03
open PySem PySem.Spec PyProof.Rows L2 TL G
theorem ok_l_span {P : Program} {w : World} {K : PySem.W.Frag} {mg : Str → Option Value} {base : Heap} (T : Txt K mg) : FnOk P w K mg base CX0 2 T.a_l_span T.d_l_span ["_law_one_here", "_law_size_here"] (sp_l_span K) := by
  have G_l_worth : FnOk P w K mg base CX0 1 T.a_l_worth T.d_l_worth ["_law_bits_here"] (sp_l_worth K) := ok_l_worth T
  have b_l_worth := T.F_l_worth.bindsN (ps := ["_law_bits_here"]) fun _ _ _ _ _ _ us hl => match us, hl with | [_], _ => rfl
  refine fd_ok T.F_l_span sc_l_span (fun vs H Q E h => ?_) (fun cdv A outer s H0 vs Q E hr h => ?_)
  · obtain ⟨_, _, _, _, rfl, _⟩ := h
    rfl
  · obtain ⟨F0, y_one_here, y_size_here, r, rfl, hS0, gs_y_one_here, hm, hQ⟩ := h
    refine ⟨_, (pss_cons (ps_set (i := 2) sc_l_span.nd rfl (.inl rfl) (pe_bmK (K := K) PySem.F.plainAttrs_str PySem.F.slot_str_strip PySem.F.type_str_strip mt_stripChars (pv 0) (pa_cons pe_str pa_nil))) (pss_cons (ps_set (i := 3) sc_l_span.nd rfl (.inl rfl) (pe_op op_sub (pv 1) (pe_callB call_len_str (by rfl) T.n_len (by decide +kernel) (pa_cons (pv 2) pa_nil)))) (pss_one (ps_ret (pe_tup (pa_cons (pe_call G_l_worth (hr.mono (by decide)) (by rfl) T.g_l_worth T.F_l_worth.kp b_l_worth .nil pass0 (pa_cons (pe_op op_add_str (pv 2) (pe_op op_mulS pe_str (pv 3))) pa_nil)) (pa_cons (pe_op op_add (pe_call G_l_worth (hr.mono (by decide)) (by rfl) T.g_l_worth T.F_l_worth.kp b_l_worth .nil pass0 (pa_cons (pe_op op_add_str (pv 2) (pe_op op_mulS pe_str (pv 3))) pa_nil)) pe_int) pa_nil))))))), ?_⟩
    have g0 : Gr M0 F0 H0 F0 H0 := Gr.refl hS0
    unfold m_l_span at hm
    refine p_seq ?_
    refine p_asg ?_
    refine ⟨(V.str y_one_here), rfl, rfl, _, _, rfl, rfl, (gs_y_one_here : GS y_one_here).len, ?_⟩
    obtain ⟨y_bits_here1, hb2, hm⟩ := bnd hm
    have hx3 : (Txt.stripChars y_one_here ("*" : Str)) = y_bits_here1 := sjoin hb2
    have gs4 : GS y_bits_here1 := hx3 ▸ ((GS.strip (gs_y_one_here : GS y_one_here) ("*" : Str)) : GS (Txt.stripChars y_one_here ("*" : Str)))
    refine p_nm (v' := (V.str y_bits_here1)) (congrArg V.str hx3) ?_
    refine p_nx ?_
    refine p_seq ?_
    refine p_asg ?_
    refine ⟨(V.int y_size_here), rfl, (V.str y_bits_here1), rfl, _, rfl, (gs4 : GS y_bits_here1).len, _, _, rfl, rfl, ?_⟩
    obtain ⟨y_left5, hb6, hm⟩ := bnd hm
    have hx7 : (y_size_here - ((y_bits_here1.length : Nat) : Int)) = y_left5 := sjoin hb6
    refine p_nm (v' := (V.int y_left5)) (congrArg V.int hx7) ?_
    refine p_nx ?_
    refine p_ret ?_
    obtain ⟨t8, hb9, hm⟩ := bnd hm
    obtain ⟨hk10, rfl⟩ := mulS_ok hb9
    obtain ⟨t11, hb12, hm⟩ := bnd hm
    obtain ⟨hk13, rfl⟩ := catS_ok hb12
    obtain ⟨r14, hb15, hm⟩ := bnd hm
    refine ⟨(V.str y_bits_here1), rfl, (V.int y_left5), rfl, _, _, rfl, rfl, hk10, _, _, rfl, rfl, hk13, (y_bits_here1 ++ (Txt.mul ("0" : Str) y_left5)), r14, rfl, (GS.cat gs4 (GS.mul ⟨by decide +kernel, by decide +kernel⟩ hb9) hb12), hb15, fun F16 H17 g18 => ?_⟩
    have g20 := Gr.apart g0 g18
    obtain ⟨t21, hb22, hm⟩ := bnd hm
    obtain ⟨hk23, rfl⟩ := mulS_ok hb22
    obtain ⟨t24, hb25, hm⟩ := bnd hm
    obtain ⟨hk26, rfl⟩ := catS_ok hb25
    obtain ⟨r27, hb28, hm⟩ := bnd hm
    refine ⟨(V.str y_bits_here1), rfl, (V.int y_left5), rfl, _, _, rfl, rfl, hk23, _, _, rfl, rfl, hk26, (y_bits_here1 ++ (Txt.mul ("1" : Str) y_left5)), r27, rfl, (GS.cat gs4 (GS.mul ⟨by decide +kernel, by decide +kernel⟩ hb22) hb25), hb28, fun F29 H30 g31 => ?_⟩
    have g33 := Gr.apart g20 g31
    refine ⟨_, _, rfl, rfl, (by show 2 ≤ sizeLine; decide), fun p34 np35 => ?_⟩
    have sm36 := same_new (o := (.tup [(V.int r14), (V.int (r27 + (1 : Int)))])) (g33.noneF np35)
    have g37 := g33.frz (o := (.tup [(V.int r14), (V.int (r27 + (1 : Int)))])) np35
    have r38 : R K (upd F0 p34 (.tup [(V.int r14), (V.int (r27 + (1 : Int)))])) (.ref p34) ((r14, (r27 + (1 : Int))) : (Int × Int)) := R.mk2 fzT (Rp.int r14) (Rp.int (r27 + (1 : Int)))
    obtain rfl := sjoin hm
    exact (hQ _ _ _ g37 r38)
end K03
namespace K03
open PySem PySem.Spec PyProof.Rows L2 TL G
theorem ok_al1 {P : Program} {w : World} {K : PySem.W.Frag} {mg : Str → Option Value} {base : Heap} (T : Txt K mg) (n : Nat) (ih : FnOk P w K mg base CX0 n T.a_l_alike T.d_l_alike ["_law_found", "_law_due"] (spA n K)) : FnOk P w K mg base CX0 (n + 1) T.a_l_alike T.d_l_alike ["_law_found", "_law_due"] (sp_alike n K) := by
  have b_l_alike := T.F_l_alike.bindsN (ps := ["_law_found", "_law_due"]) fun _ _ _ _ _ _ us hl => match us, hl with | [_, _], _ => rfl
  refine fd_ok T.F_l_alike sc_l_alike (fun vs H Q E h => ?_) (fun cdv A outer s H0 vs Q E hr h => ?_)
  · obtain ⟨_, _, _, rfl, _⟩ := h
    rfl
  · obtain ⟨v1, v2, d, rfl, r1, r2, hd, hQ⟩ := h
    refine ⟨_, (pss_cons (ps_if (pt_val (pe_callB call_isiT (by rfl) T.n_isinstance (by decide +kernel) (pa_cons (pv 1) (pa_cons (pe_tup (pa_cons (pe_bltn (v := .ty "list") (by rfl) T.n_list (by decide +kernel) rfl) (pa_cons (pe_bltn (v := .ty "tuple") (by rfl) T.n_tuple (by decide +kernel) rfl) pa_nil))) pa_nil))))
        (pss_cons (ps_if (PW.pt (pw_or (pt_not (pt_val (pe_callB call_isiT (by rfl) T.n_isinstance (by decide +kernel) (pa_cons (pv 0) (pa_cons (pe_tup (pa_cons (pe_bltn (v := .ty "list") (by rfl) T.n_list (by decide +kernel) rfl) (pa_cons (pe_bltn (v := .ty "tuple") (by rfl) T.n_tuple (by decide +kernel) rfl) pa_nil))) pa_nil)))))
            (pw_or1 (pt_cmpR op_ne (pe_callB call_isi (by rfl) T.n_isinstance (by decide +kernel) (pa_cons (pv 0) (pa_cons (pe_bltn (v := .ty "list") (by rfl) T.n_list (by decide +kernel) rfl) pa_nil))) (pe_callB call_isi (by rfl) T.n_isinstance (by decide +kernel) (pa_cons (pv 1) (pa_cons (pe_bltn (v := .ty "list") (by rfl) T.n_list (by decide +kernel) rfl) pa_nil))) (nomark _))))) (pss_one (ps_ret pe_bl)) pss_nil)
          (pss_one (ps_ret (pe_and (pe_cmpR op_eq (pe_callB call_lenL (by rfl) T.n_len (by decide +kernel) (pa_cons (pv 0) pa_nil)) (pe_callB call_lenL (by rfl) T.n_len (by decide +kernel) (pa_cons (pv 1) pa_nil)) (nomark _))
            (pe_one (pe_callB (cr_all rfl) (by rfl) T.n_all (by decide +kernel) (pa_cons (pe_lc (own := [("_law_k", 2)]) rfl sc_l_alike.nd (pi_range1 (by rfl) T.n_range (pa_cons (pe_callB call_lenL (by rfl) T.n_len (by decide +kernel) (pa_cons (pv 1) pa_nil)) pa_nil))
              (blkOk_by (own := [("_law_k", 2)]) (N := N_l_alike) (sc := defScope s_l_alike) (by decide +kernel)) (fun _ _ _ _ _ => pg_name (i := 2) sc_l_alike.nd rfl (Or.inl rfl)) (fun _ _ _ _ _ => pts_nil)
              (fun _ _ _ _ _ => pe_call ih hr (by rfl) T.g_l_alike T.F_l_alike.kp b_l_alike .nil pass0 (pa_cons (pe_ix (r := rIx K) ix_seq (pv 0) (pv 2) (fun _ _ => rfl)) (pa_cons (pe_ix (r := rIx K) ix_seq (pv 1) (pv 2) (fun _ _ => rfl)) pa_nil)))) pa_nil))))))) pss_nil)
      (pss_cons (ps_if (PW.pt (pw_or (pt_val (pe_callB call_isi (by rfl) T.n_isinstance (by decide +kernel) (pa_cons (pv 1) (pa_cons (pe_bltn (v := .ty "bool") (by rfl) T.n_bool (by decide +kernel) rfl) pa_nil)))) (pw_or1 (pt_val (pe_callB call_isi (by rfl) T.n_isinstance (by decide +kernel) (pa_cons (pv 0) (pa_cons (pe_bltn (v := .ty "bool") (by rfl) T.n_bool (by decide +kernel) rfl) pa_nil)))))))
          (pss_one (ps_ret (pe_and (pe_callB call_isi (by rfl) T.n_isinstance (by decide +kernel) (pa_cons (pv 1) (pa_cons (pe_bltn (v := .ty "bool") (by rfl) T.n_bool (by decide +kernel) rfl) pa_nil))) (pe_and (pe_callB call_isi (by rfl) T.n_isinstance (by decide +kernel) (pa_cons (pv 0) (pa_cons (pe_bltn (v := .ty "bool") (by rfl) T.n_bool (by decide +kernel) rfl) pa_nil))) (pe_one (pe_cmpR op_eq (pv 0) (pv 1) (nomark _))))))) pss_nil)
        (pss_one (ps_ret (pe_and (pe_cmpR op_eq (pe_callB call_isi (by rfl) T.n_isinstance (by decide +kernel) (pa_cons (pv 0) (pa_cons (pe_bltn (v := .ty "str") (by rfl) T.n_str (by decide +kernel) rfl) pa_nil))) (pe_callB call_isi (by rfl) T.n_isinstance (by decide +kernel) (pa_cons (pv 1) (pa_cons (pe_bltn (v := .ty "str") (by rfl) T.n_str (by decide +kernel) rfl) pa_nil))) (nomark _)) (pe_one (pe_cmpR op_eq (pv 0) (pv 1) (nomark _)))))))), ?_⟩
    have g0 : Gr M0 H0 H0 H0 H0 := Gr.refl (Same.refl _)
    refine p_seq ?_
    refine p_if ?_
    refine ⟨v2, rfl, (by show 2 ≤ sizeLine; decide), fun p1 np1 => ?_⟩
    refine ⟨v2, p1, [.ty "list", .ty "tuple"], _, [.type "list", .type "tuple"], _, rfl, upd_same, .cons (.ty _) (.cons (.ty _) .nil), (r2.up (same_new np1)).ty, kit_lt r2.knd, _, rfl, ?_⟩
    have g1 := g0.frz (o := .tup [.ty "list", .ty "tuple"]) np1
    have q1 := r1.up (same_new (o := .tup [.ty "list", .ty "tuple"]) np1)
    have q2 := r2.up (same_new (o := .tup [.ty "list", .ty "tuple"]) np1)
    generalize upd H0 p1 (.tup [.ty "list", .ty "tuple"]) = H1 at g1 q1 q2 ⊢
    refine iteB (fun hc => ?_) (fun hc => ?_)
    · refine p_seq ?_
      refine p_if ?_
      refine ⟨v1, rfl, (by show 2 ≤ sizeLine; decide), fun p2 np2 => ?_⟩
      refine ⟨v1, p2, [.ty "list", .ty "tuple"], _, [.type "list", .type "tuple"], _, rfl, upd_same, .cons (.ty _) (.cons (.ty _) .nil), (q1.up (same_new np2)).ty, kit_lt q1.knd, _, rfl, ?_⟩
      have g2 := g1.frz (o := .tup [.ty "list", .ty "tuple"]) np2
      have t1 := q1.up (same_new (o := .tup [.ty "list", .ty "tuple"]) np2)
      have t2 := q2.up (same_new (o := .tup [.ty "list", .ty "tuple"]) np2)
      generalize upd H1 p2 (.tup [.ty "list", .ty "tuple"]) = H2 at g2 t1 t2 ⊢
      refine ifFr (by rw [hc]; rfl) ?_
      refine ⟨v1, rfl, v1, .ty "list", _, .type "list", _, rfl, .ty _, t1.ty, kit_one t1.knd "list" (.inl rfl), v2, rfl, v2, .ty "list", _, .type "list", _, rfl, .ty _, t2.ty, kit_one t2.knd "list" (.inl rfl), rfl, _, rfl, ?_⟩
      refine ifFr (by simp) ?_
      refine p_next ?_
      refine p_nx ?_
      refine p_ret ?_
      obtain ⟨a1, ws1, a2, ws2, ds, m, rfl, rfl, s1, s2, l1, l2, e1, e2, hn, hdp⟩ := al_sq t1 t2 hc hd
      subst hn
      refine ⟨_, rfl, a1, ws1, _, rfl, s1, rfl, _, rfl, a2, ws2, _, rfl, s2, rfl, rfl, _, rfl, ?_⟩
      refine ifTr (decide_eq_true (by rw [e1.length, e2.length])) ?_
      have hl2 : (ws2.length : Int) < 2 ^ 62 := by
        have := l2
        rw [sizeLine_eq] at this
        omega
      refine ⟨_, rfl, a2, ws2, _, rfl, s2, rfl, _, rfl, (by omega), hl2, fun D nD => ?_⟩
      refine lc_range (lo := 0) (n := ((ws2.length : Nat) : Int).toNat) (fun i H' => Gr M0 H0 H0 H2 H' ∧ Ow H0 H2 H' D (List.replicate i (.bl true))) ⟨g2.own nD, Ow.new g2 nD⟩ (fun i H' hi hP => ?_) (fun H' hP => ?_)
      · obtain ⟨g, ow⟩ := hP
        refine ⟨rfl, p_yes ?_⟩
        have hi2 : i < ws2.length := by simpa using hi
        obtain ⟨u2, hu2⟩ : ∃ u, ws2[i]? = some u := ⟨_, List.getElem?_eq_getElem hi2⟩
        obtain ⟨di, hdi, ru2⟩ := e2.get hu2
        obtain ⟨u1, hu1, ru1⟩ := e1.back hdi
        refine ⟨_, rfl, _, rfl, ix_go (sq_up s1 g.fh) hu1 ⟨_, rfl, _, rfl, ix_go (sq_up s2 g.fh) hu2 ?_⟩⟩
        refine ⟨u1, u2, di, rfl, ru1.up g.fh, ru2.up g.fh, hdp di (List.mem_of_getElem? hdi), fun F1 H3 g3 => ?_⟩
        have g4 := Gr.apart g g3
        have ow4 := ow.apart g3
        refine ⟨_, ow4.h, ?_, ?_⟩
        · rw [List.length_replicate]; omega
        · have e : List.replicate i (V.bl true) ++ [V.bl true] = List.replicate (i + 1) (V.bl true) := List.replicate_succ'.symm
          rw [e]
          exact ⟨g4.put ow4, ow4.put⟩
      · obtain ⟨g, ow⟩ := hP
        refine ⟨D, List.replicate (((ws2.length : Nat) : Int).toNat) true, rfl, ?_, ?_⟩
        · rw [List.map_replicate]; exact ow.sq
        · rw [show (List.replicate (((ws2.length : Nat) : Int).toNat) true).all id = true by simp]
          exact hQ _ _ g
    · refine p_next ?_
      refine p_nx ?_
      have hv : v1 = v2 ∧ scal v1 v2 = true := al_sc q1 q2 hc
      refine p_seq ?_
      refine p_if ?_
      refine ⟨v2, rfl, v2, .ty _, _, .type _, _, rfl, .ty _, q2.ty, kit_one q2.knd _ (.inr (.inl rfl)), _, rfl, ?_⟩
      by_cases hb : (tyD d == "bool") = true
      · refine ifTr hb ?_
        refine ifTr rfl ?_
        refine p_ret ?_
        refine ⟨v2, rfl, v2, .ty _, _, .type _, _, rfl, .ty _, q2.ty, kit_one q2.knd _ (.inr (.inl rfl)), _, rfl, ifTr hb ?_⟩
        refine ⟨v1, rfl, v1, .ty _, _, .type _, _, rfl, .ty _, q1.ty, kit_one q1.knd _ (.inr (.inl rfl)), _, rfl, ifTr hb ?_⟩
        refine ⟨v1, rfl, v2, rfl, hv.2, ?_⟩
        rw [decide_eq_true hv.1]
        exact hQ _ _ g1
      · have hb : (tyD d == "bool") = false := Bool.eq_false_iff.mpr hb
        refine ifFr hb ?_
        refine ⟨v1, rfl, v1, .ty _, _, .type _, _, rfl, .ty _, q1.ty, kit_one q1.knd _ (.inr (.inl rfl)), _, rfl, ifFr hb ?_⟩
        refine p_next ?_
        refine p_nx ?_
        refine p_ret ?_
        refine ⟨v1, rfl, v1, .ty _, _, .type _, _, rfl, .ty _, q1.ty, kit_one q1.knd _ (.inr (.inr rfl)), v2, rfl, v2, .ty _, _, .type _, _, rfl, .ty _, q2.ty, kit_one q2.knd _ (.inr (.inr rfl)), rfl, ?_⟩
        refine ⟨_, rfl, ifTr (decide_eq_true rfl) ?_⟩
        refine ⟨v1, rfl, v2, rfl, hv.2, ?_⟩
        rw [decide_eq_true hv.1]
        exact hQ _ _ g1
theorem ok_l_alike {P : Program} {w : World} {K : PySem.W.Frag} {mg : Str → Option Value} {base : Heap} (T : Txt K mg) : ∀ n : Nat, FnOk P w K mg base CX0 n T.a_l_alike T.d_l_alike ["_law_found", "_law_due"] (spA n K)
  | 0 => ⟨fun _ _ _ _ h => h.elim, fun _ _ _ _ _ _ _ _ _ _ _ _ _ h => h.elim⟩
  | n + 1 => ok_al1 T n (ok_l_alike T n)

end K03
namespace K03
open PySem PySem.Spec PyProof.Rows L2 TL G
theorem ok_l_grouped {P : Program} {w : World} {K : PySem.W.Frag} {mg : Str → Option Value} {base : Heap} (T : Txt K mg) : FnOk P w K mg base CX0 3 T.a_l_grouped T.d_l_grouped ["_law_some_here", "_law_size_here"] (sp_l_grouped K) := by
  have G_l_span : FnOk P w K mg base CX0 2 T.a_l_span T.d_l_span ["_law_one_here", "_law_size_here"] (sp_l_span K) := ok_l_span T
  have b_l_span := T.F_l_span.bindsN (ps := ["_law_one_here", "_law_size_here"]) fun _ _ _ _ _ _ us hl => match us, hl with | [_, _], _ => rfl
  refine fd_ok T.F_l_grouped sc_l_grouped (fun vs H Q E h => ?_) (fun cdv A outer s H0 vs Q E hr h => ?_)
  · obtain ⟨_, _, _, _, _, _, rfl, _⟩ := h
    rfl
  · obtain ⟨F0, p_y_some_here, ws_y_some_here, y_some_here, y_size_here, r, rfl, hS0, hS_y_some_here, hl_y_some_here, hA_y_some_here, nm_y_some_here, hm, hQ⟩ := h
    refine ⟨_, (pss_cons (ps_setLc (i := 2) (own := [("_law_one_here", 7)]) rfl sc_l_grouped.nd rfl rfl (sw_true rfl rfl rfl (by decide +kernel)) (pi_listK (K := K) (pv 0)) (blkOk_by (own := [("_law_one_here", 7)]) (N := N_l_grouped) (sc := defScope s_l_grouped) (by decide +kernel)) (fun _ _ _ _ _ => (pg_name (i := 7) sc_l_grouped.nd rfl (Or.inl rfl) (.inr rfl))) (fun _ _ _ _ _ => pts_nil) (fun _ _ _ _ _ => (pe_call G_l_span (hr.mono (by decide)) (by rfl) T.g_l_span T.F_l_span.kp b_l_span .nil pass0 (pa_cons (pv 7) (pa_cons (pv 1) pa_nil))))) (pss_cons (ps_set (i := 3) sc_l_grouped.nd rfl (.inl rfl) (pe_lst pa_nil)) (pss_cons (ps_set (i := 4) sc_l_grouped.nd rfl (.inl rfl) pe_non) (pss_cons (ps_for PassesOwn.never rfl (pi_range1 (by rfl) T.n_range (pa_cons (pe_op op_shl pe_int (pv 1)) pa_nil)) (pg_name (i := 5) sc_l_grouped.nd rfl (Or.inr rfl)) (pss_cons (ps_setLc (i := 6) (own := [("_law_first", 8), ("_law_behind", 9)]) rfl sc_l_grouped.nd rfl rfl (sw_true rfl rfl rfl (by decide +kernel)) (pi_listK (K := K) (pv 2)) (blkOk_by (own := [("_law_first", 8), ("_law_behind", 9)]) (N := N_l_grouped) (sc := defScope s_l_grouped) (by decide +kernel)) (fun _ _ _ _ _ => (pg_tupK (K := K) 2 rfl (pgs_cons (pg_name (i := 8) sc_l_grouped.nd rfl (Or.inl rfl) (.inr rfl)) (pgs_cons (pg_name (i := 9) sc_l_grouped.nd rfl (Or.inl rfl) (.inr rfl)) pgs_nil)))) (fun _ _ _ _ _ => pts_nil) (fun _ _ _ _ _ => (pe_val (pe_chain op_le op_lt (pv 8) (pv 5) (pv 9))))) (pss_cut (ps_if (pt_cmpR (op_eqDK (K := K) hr.units) (pv 6) (pv 4) (nomark _)) (pss_one (ps_asg (pe_tup (pa_cons (pe_ix (ix_tupK (K := K)) (pe_ix (ix_listK (K := K)) (pv 3) (pe_un un_neg pe_int) (fun _ _ => rfl)) pe_int (fun _ _ => rfl)) (pa_cons (pe_op op_add (pv 5) pe_int) pa_nil))) (pg_sub (pv 3) (pe_un un_neg pe_int) set_list))) (pss_one (ps_expr (pe_bmK (K := K) PySem.F.plainAttrs_list PySem.F.slot_list_append PySem.F.type_list_append mt_append (pv 3) (pa_cons (pe_tup (pa_cons (pv 5) (pa_cons (pe_op op_add (pv 5) pe_int) pa_nil))) pa_nil))))) (pss_one (ps_set (i := 4) sc_l_grouped.nd rfl (.inl rfl) (pv 6)))))) (pss_one (ps_ret (pv 3))))))), ?_⟩
    have g0 : Gr M0 F0 H0 F0 H0 := Gr.refl hS0
    unfold m_l_grouped at hm
    refine p_seq ?_
    refine p_asg ?_
    refine ⟨(V.ref p_y_some_here), rfl, p_y_some_here, rfl, ⟨_, (g0.seq nm_y_some_here hS_y_some_here)⟩, fun D1 nD2 => ?_⟩
    have g3 := g0.own (o := (.lst [])) nD2
    have ow4 : Ow H0 F0 (upd H0 D1 (.lst [])) D1 [] := Ow.new g0 nD2
    obtain ⟨l5, hb6, hm⟩ := bnd hm
    refine lc_list (K := K) (a := p_y_some_here) (xs := ws_y_some_here) (fun i H' => ∃ (F' : Hp) (acc : List V) (ds : List (Int × Int)) (rest : List (Int × Int)), Gr M0 F0 H0 F' H' ∧ Same F0 F' ∧ Ow H0 F' H' D1 acc ∧ RL K F' acc ds ∧ acc.length ≤ i ∧ m_l_grouped_c1 y_size_here (y_some_here.drop i) = some rest ∧ ds ++ rest = l5) ?_ ?_ ?_ ?_
    · exact ⟨F0, [], [], l5, g3, Same.refl _, ow4, RpA.nil, Nat.le_refl _, hb6, rfl⟩
    · intro i H' _ hP
      obtain ⟨F7, acc8, ds9, rest10, g011, sm12, owD13, hA14, hi15, hm16, hr17⟩ := hP
      exact (g011.seq nm_y_some_here hS_y_some_here)
    · intro i19 xv18 H21 hx20 hP
      obtain ⟨F22, acc23, ds24, rest25, g026, sm27, owD28, hA29, hi30, hm31, hr32⟩ := hP
      obtain ⟨e33, he34, r35⟩ := RL.get (hA_y_some_here.up sm27) hx20
      obtain ⟨rfl, gs36⟩ := R.str_v r35
      rw [drop_at he34, m_l_grouped_c1.eq_2] at hm31
      refine ⟨rfl, (p_yes ?_)⟩
      obtain ⟨r37, hb38, hm31⟩ := bnd hm31
      refine ⟨(V.str e33), rfl, (V.int y_size_here), rfl, F22, e33, y_size_here, r37, rfl, g026.fh, gs36, hb38, fun v42 F39 H40 g41 r43 => ?_⟩
      have g44 := Gr.trans g026 g41
      have ow45 := owD28.gr0 g41
      have hA46 : RL K F39 (acc23 ++ [v42]) (ds24 ++ [(r37 : (Int × Int))]) := RL.snoc (hA29.up g41.ff) r43
      obtain ⟨rest47, h48, h49⟩ := bnd hm31
      obtain rfl := sjoin h49
      refine ⟨acc23, ow45.h, (lt_line hi30 (List.getElem?_eq_some_iff.mp hx20).1 hl_y_some_here), ?_⟩
      have g50 := g44.put (o := (.lst (acc23 ++ [v42]))) ow45
      have ow51 := ow45.put (us := (acc23 ++ [v42]))
      exact ⟨F39, (acc23 ++ [v42]), (ds24 ++ [r37]), rest47, g50, (Same.trans sm27 g41.ff), ow51, hA46, (by rw [List.length_append]; exact Nat.succ_le_succ hi30), h48, (snoc_rest hr32)⟩
    intro H52 hP
    obtain ⟨F53, acc54, ds55, _rest, g057, sm58, owD59, hA60, hi61, hm62, hr63⟩ := hP
    rw [drop_end (RL.len hA_y_some_here)] at hm62
    rw [m_l_grouped_c1.eq_1] at hm62
    obtain rfl := sjoin hm62
    rw [List.append_nil] at hr63
    obtain rfl := hr63
    have hl64 : acc54.length ≤ sizeLine := Nat.le_trans hi61 hl_y_some_here
    refine p_name ?_
    refine p_nx ?_
    refine p_seq ?_
    refine p_asg ?_
    refine ⟨(by show 0 ≤ sizeLine; decide), fun p65 np66 => ?_⟩
    have ne67 := owD59.ne np66
    have g68 := g057.own (o := (.lst [])) np66
    have ow69 := owD59.own (o := (.lst [])) np66
    have ow70 : Ow H0 F53 (upd H52 p65 (.lst [])) p65 [] := Ow.new g057 np66
    obtain ⟨y_found72, hb73, hm⟩ := bnd hm
    have hx74 : ([] : (List (Int × Int))) = y_found72 := sjoin hb73
    have hA75 : RL K F53 [] y_found72 := RL.re hx74 RpA.nil
    refine p_name ?_
    refine p_nx ?_
    refine p_seq ?_
    refine p_asg ?_
    refine p_name ?_
    refine p_nx ?_
    refine p_seq ?_
    refine p_for ?_
    obtain ⟨t76, hb77, hm⟩ := bnd hm
    obtain ⟨hk78, rfl⟩ := shlI_ok hb77
    obtain ⟨l79, hb81, hm⟩ := bnd hm
    obtain ⟨hk80, rfl⟩ := rangeO1_ok hb81
    refine ⟨(V.int y_size_here), rfl, _, _, rfl, rfl, hk78, _, rfl, hk80.1.1, hk80.1.2, ?_⟩
    obtain ⟨y_elder82, y_found83, ht84, hm⟩ := bnd2 hm
    refine for_range (lo := (0 : Int)) (n := (((1 : Int) * 2 ^ (y_size_here).toNat)).toNat) (fun i σ' H' => ∃ (F' : Hp) (y_elder : (Option (List Bool))) (v_y_elder : V) (o_y_number : Option V) (o_y_here : Option V) (y_found : (List (Int × Int))) (ws_y_found : List V), σ' = [(some (V.ref p_y_some_here)), (some (V.int y_size_here)), (some (V.ref D1)), (some (V.ref p65)), (some v_y_elder), o_y_number, o_y_here, none, none, none] ∧ Gr M0 F0 H0 F' H' ∧ Same F53 F' ∧ R K F' v_y_elder y_elder ∧ Ow H0 F' H' p65 ws_y_found ∧ ws_y_found.length ≤ sizeLine ∧ RL K F' ws_y_found y_found ∧ Ow H0 F' H' D1 acc54 ∧ m_l_grouped_l2 ds55 ((rangeL (0 : Int) (((1 : Int) * 2 ^ (y_size_here).toNat)).toNat).drop i) y_elder y_found = some (y_elder82, y_found83)) ?_ ?_ ?_
    · exact ⟨F53, (none : (Option (List Bool))), V.non, none, none, y_found72, [], rfl, g68, (Same.refl _), Rp.non, ow70, (by show 0 ≤ sizeLine; decide), hA75, ow69, ht84⟩
    · intro i85 σ' H87 hx86 hP
      obtain ⟨F89, y_elder90, v_y_elder91, o_y_number92, o_y_here93, y_found94, ws_y_found95, rfl, g96, sm97, r_y_elder98, ow_y_found99, hl_y_found100, hA_y_found101, owk0102, hm103⟩ := hP
      have he105 := rangeL_at (lo := (0 : Int)) hx86
      rw [drop_at he105, m_l_grouped_l2.eq_2] at hm103
      refine p_name ?_
      refine p_seq ?_
      refine p_asg ?_
      refine ⟨(V.ref D1), rfl, D1, rfl, ⟨_, owk0102.sq⟩, fun D106 nD107 => ?_⟩
      have ne108 := owk0102.ne nD107
      have ne109 := ow_y_found99.ne nD107
      have g110 := g96.own (o := (.lst [])) nD107
      have ow111 := owk0102.own (o := (.lst [])) nD107
      have ow112 := ow_y_found99.own (o := (.lst [])) nD107
      have ow113 : Ow H0 F89 (upd H87 D106 (.lst [])) D106 [] := Ow.new g96 nD107
      refine lc_list (K := K) (a := D1) (xs := acc54) (fun i H' => ∃ (F' : Hp) (acc : List V) (ds : List Bool), Gr M0 F0 H0 F' H' ∧ Same F89 F' ∧ Ow H0 F' H' D106 acc ∧ RL K F' acc ds ∧ acc.length ≤ i ∧ Ow H0 F' H' D1 acc54 ∧ Ow H0 F' H' p65 ws_y_found95 ∧ ds ++ m_l_grouped_c3 ((0 : Int) + ((i85 : Nat) : Int)) (ds55.drop i) = (m_l_grouped_c3 ((0 : Int) + ((i85 : Nat) : Int)) ds55)) ?_ ?_ ?_ ?_
      · exact ⟨F89, [], [], g110, Same.refl _, ow113, RpA.nil, Nat.le_refl _, ow111, ow112, rfl⟩
      · intro i H' _ hP
        obtain ⟨F115, acc116, ds117, g0118, sm119, owD120, hA121, hi122, ow0123, ow1124, hr125⟩ := hP
        exact ow0123.sq
      · intro i127 xv126 H129 hx128 hP
        obtain ⟨F130, acc131, ds132, g0133, sm134, owD135, hA136, hi137, ow0138, ow1139, hr140⟩ := hP
        obtain ⟨e141, he142, r143⟩ := RL.get (hA60.up (Same.trans sm97 sm134)) hx128
        rw [drop_at he142, m_l_grouped_c3.eq_2] at hr140
        obtain ⟨p144, v147, v148, ev145, hS146, r149, r150⟩ := R.p2_v r143
        obtain rfl := R.int_v r149
        obtain rfl := R.int_v r150
        refine ⟨p144, [(V.int e141.1), (V.int e141.2)], ev145, (SqT_mono g0133.fh hS146), rfl, (V.int e141.1), [(V.int e141.2)], rfl, (V.int e141.2), [], rfl, rfl, rfl, (p_yes ?_)⟩
        have hA151 : RL K F130 (acc131 ++ [(V.bl ((decide (e141.1 ≤ ((0 : Int) + ((i85 : Nat) : Int)))) && (decide (((0 : Int) + ((i85 : Nat) : Int)) < e141.2))))]) (ds132 ++ [(((decide (e141.1 ≤ ((0 : Int) + ((i85 : Nat) : Int)))) && (decide (((0 : Int) + ((i85 : Nat) : Int)) < e141.2))) : Bool)]) := RL.snoc hA136 (Rp.bl ((decide (e141.1 ≤ ((0 : Int) + ((i85 : Nat) : Int)))) && (decide (((0 : Int) + ((i85 : Nat) : Int)) < e141.2))))
        refine ⟨(V.bl ((decide (e141.1 ≤ ((0 : Int) + ((i85 : Nat) : Int)))) && (decide (((0 : Int) + ((i85 : Nat) : Int)) < e141.2)))), (fun Q q => ⟨(V.int e141.1), rfl, (V.int ((0 : Int) + ((i85 : Nat) : Int))), rfl, _, _, rfl, rfl, _, rfl, iteB (fun hc => ⟨(V.int e141.2), rfl, _, _, rfl, rfl, qTv hc q⟩) (fun hc => qFv hc q)⟩), acc131, owD135.h, (lt_line hi137 (List.getElem?_eq_some_iff.mp hx128).1 hl64), ?_⟩
        have g152 := g0133.put (o := (.lst (acc131 ++ [(V.bl ((decide (e141.1 ≤ ((0 : Int) + ((i85 : Nat) : Int)))) && (decide (((0 : Int) + ((i85 : Nat) : Int)) < e141.2))))]))) owD135
        have ow153 := ow0138.other (o := (.lst (acc131 ++ [(V.bl ((decide (e141.1 ≤ ((0 : Int) + ((i85 : Nat) : Int)))) && (decide (((0 : Int) + ((i85 : Nat) : Int)) < e141.2))))]))) ne108
        have ow154 := ow1139.other (o := (.lst (acc131 ++ [(V.bl ((decide (e141.1 ≤ ((0 : Int) + ((i85 : Nat) : Int)))) && (decide (((0 : Int) + ((i85 : Nat) : Int)) < e141.2))))]))) ne109
        have ow155 := owD135.put (us := (acc131 ++ [(V.bl ((decide (e141.1 ≤ ((0 : Int) + ((i85 : Nat) : Int)))) && (decide (((0 : Int) + ((i85 : Nat) : Int)) < e141.2))))]))
        exact ⟨F130, (acc131 ++ [(V.bl ((decide (e141.1 ≤ ((0 : Int) + ((i85 : Nat) : Int)))) && (decide (((0 : Int) + ((i85 : Nat) : Int)) < e141.2))))]), (ds132 ++ [((decide (e141.1 ≤ ((0 : Int) + ((i85 : Nat) : Int)))) && (decide (((0 : Int) + ((i85 : Nat) : Int)) < e141.2)))]), g152, sm134, ow155, hA151, (by rw [List.length_append]; exact Nat.succ_le_succ hi137), ow153, ow154, (snoc_rest hr140)⟩
      intro H156 hP
      obtain ⟨F157, acc158, ds159, g0161, sm162, owD163, hA164, hi165, ow0166, ow1167, hr168⟩ := hP
      rw [drop_end (RL.len (hA60.up sm97))] at hr168
      rw [m_l_grouped_c3.eq_1, List.append_nil] at hr168
      obtain rfl := hr168
      have hl169 : acc158.length ≤ sizeLine := Nat.le_trans hi165 hl64
      obtain ⟨y_here170, hb171, hm103⟩ := bnd hm103
      have hx172 : (m_l_grouped_c3 ((0 : Int) + ((i85 : Nat) : Int)) ds55) = y_here170 := sjoin hb171
      have hA173 : RL K F157 acc158 y_here170 := RL.re hx172 hA164
      refine p_name ?_
      refine p_nx ?_
      obtain ⟨y_found174, hj175, hm103⟩ := bnd hm103
      refine ⟨fun σ' H' => ∃ (F' : Hp) (ws_y_found174 : List V), σ' = [(some (V.ref p_y_some_here)), (some (V.int y_size_here)), (some (V.ref D1)), (some (V.ref p65)), (some v_y_elder91), (some (V.int ((0 : Int) + ((i85 : Nat) : Int)))), (some (V.ref D106)), none, none, none] ∧ Gr M0 F0 H0 F' H' ∧ Same F157 F' ∧ Ow H0 F' H' p65 ws_y_found174 ∧ ws_y_found174.length ≤ sizeLine ∧ RL K F' ws_y_found174 y_found174 ∧ Ow H0 F' H' D1 acc54 ∧ Ow H0 F' H' D106 acc158, ?_, ?_⟩
      · refine p_if ?_
        have rH176 : R K H156 (V.ref D106) y_here170 := (R.mkl owD163.sq hl169 (RpA.up hA173 g0161.fh))
        have rH177 : R K H156 v_y_elder91 y_elder90 := (Rp.up (r_y_elder98.up sm162) g0161.fh)
        refine ⟨(V.ref D106), rfl, v_y_elder91, rfl, _, _, (Rp.dp _ _ rH176), (Rp.dp _ _ rH177), (R.shaped rH176), (R.shaped rH177), _, rfl, (iteB (fun hc => ?_) (fun hc => ?_))⟩
        · have hj175 := ifT hc hj175
          refine p_asg ?_
          obtain ⟨t178, hb179, hj175⟩ := bnd hj175
          obtain ⟨v180, ha181, r182⟩ := RL.at (hA_y_found101.up sm162) hb179
          obtain ⟨p183, v186, v187, ev184, hS185, r188, r189⟩ := R.p2_v r182
          obtain rfl := R.int_v r188
          obtain rfl := R.int_v r189
          refine ⟨(V.ref p65), rfl, _, rfl, p65, ws_y_found95, _, v180, rfl, rfl, ow1167.sq, ha181, p183, _, _, (V.int t178.1), ev184, rfl, (SqT_mono g0161.fh hS185), rfl, (V.int ((0 : Int) + ((i85 : Nat) : Int))), rfl, _, _, rfl, rfl, (by show 2 ≤ sizeLine; decide), fun p190 np191 => ?_⟩
          have ne192 := ow0166.ne np191
          have ne193 := ow1167.ne np191
          have ne194 := owD163.ne np191
          have sm195 := same_new (o := (.tup [(V.int t178.1), (V.int (((0 : Int) + ((i85 : Nat) : Int)) + (1 : Int)))])) (g0161.noneF np191)
          have g196 := g0161.frz (o := (.tup [(V.int t178.1), (V.int (((0 : Int) + ((i85 : Nat) : Int)) + (1 : Int)))])) np191
          have ow197 := ow0166.frz (o := (.tup [(V.int t178.1), (V.int (((0 : Int) + ((i85 : Nat) : Int)) + (1 : Int)))])) np191
          have ow198 := ow1167.frz (o := (.tup [(V.int t178.1), (V.int (((0 : Int) + ((i85 : Nat) : Int)) + (1 : Int)))])) np191
          have ow199 := owD163.frz (o := (.tup [(V.int t178.1), (V.int (((0 : Int) + ((i85 : Nat) : Int)) + (1 : Int)))])) np191
          have r200 : R K (upd F157 p190 (.tup [(V.int t178.1), (V.int (((0 : Int) + ((i85 : Nat) : Int)) + (1 : Int)))])) (.ref p190) ((t178.1, (((0 : Int) + ((i85 : Nat) : Int)) + (1 : Int))) : (Int × Int)) := R.mk2 fzT (Rp.int t178.1) (Rp.int (((0 : Int) + ((i85 : Nat) : Int)) + (1 : Int)))
          obtain ⟨t201, hb202, hj175⟩ := bnd hj175
          obtain ⟨j203, hj204, rfl⟩ := setL_ok hb202
          refine ⟨(V.ref p65), rfl, _, rfl, p65, _, _, j203, rfl, rfl, ow198.h, (by rw [RL.len (hA_y_found101.up (Same.trans sm162 sm195))]; exact hj204), ?_⟩
          have hA206 := RL.set j203 r200 (hA_y_found101.up (Same.trans sm162 sm195))
          have g207 := g196.put (o := (.lst (ws_y_found95.set j203 (V.ref p190)))) ow198
          have ow208 := ow197.other (o := (.lst (ws_y_found95.set j203 (V.ref p190)))) ne67
          have ow209 := ow199.other (o := (.lst (ws_y_found95.set j203 (V.ref p190)))) (Ne.symm ne109)
          have ow210 := ow198.put (us := (ws_y_found95.set j203 (V.ref p190)))
          obtain rfl := sjoin hj175
          exact ⟨(upd F157 p190 (.tup [(V.int t178.1), (V.int (((0 : Int) + ((i85 : Nat) : Int)) + (1 : Int)))])), (ws_y_found95.set j203 (V.ref p190)), rfl, g207, sm195, ow210, (by rw [List.length_set]; exact hl_y_found100), hA206, ow208, ow209⟩
        · have hj175 := ifF hc hj175
          refine p_drop ?_
          refine ⟨(V.ref p65), rfl, (.inl ⟨rfl, _, ow1167.sq⟩), (V.int ((0 : Int) + ((i85 : Nat) : Int))), rfl, (V.int ((0 : Int) + ((i85 : Nat) : Int))), rfl, _, _, rfl, rfl, (by show 2 ≤ sizeLine; decide), fun p211 np212 => ?_⟩
          have ne213 := ow0166.ne np212
          have ne214 := ow1167.ne np212
          have ne215 := owD163.ne np212
          have sm216 := same_new (o := (.tup [(V.int ((0 : Int) + ((i85 : Nat) : Int))), (V.int (((0 : Int) + ((i85 : Nat) : Int)) + (1 : Int)))])) (g0161.noneF np212)
          have g217 := g0161.frz (o := (.tup [(V.int ((0 : Int) + ((i85 : Nat) : Int))), (V.int (((0 : Int) + ((i85 : Nat) : Int)) + (1 : Int)))])) np212
          have ow218 := ow0166.frz (o := (.tup [(V.int ((0 : Int) + ((i85 : Nat) : Int))), (V.int (((0 : Int) + ((i85 : Nat) : Int)) + (1 : Int)))])) np212
          have ow219 := ow1167.frz (o := (.tup [(V.int ((0 : Int) + ((i85 : Nat) : Int))), (V.int (((0 : Int) + ((i85 : Nat) : Int)) + (1 : Int)))])) np212
          have ow220 := owD163.frz (o := (.tup [(V.int ((0 : Int) + ((i85 : Nat) : Int))), (V.int (((0 : Int) + ((i85 : Nat) : Int)) + (1 : Int)))])) np212
          have r221 : R K (upd F157 p211 (.tup [(V.int ((0 : Int) + ((i85 : Nat) : Int))), (V.int (((0 : Int) + ((i85 : Nat) : Int)) + (1 : Int)))])) (.ref p211) ((((0 : Int) + ((i85 : Nat) : Int)), (((0 : Int) + ((i85 : Nat) : Int)) + (1 : Int))) : (Int × Int)) := R.mk2 fzT (Rp.int ((0 : Int) + ((i85 : Nat) : Int))) (Rp.int (((0 : Int) + ((i85 : Nat) : Int)) + (1 : Int)))
          obtain ⟨t222, hb223, hj175⟩ := bnd hj175
          obtain ⟨hk224, rfl⟩ := appL_ok hb223
          refine ⟨p65, ws_y_found95, (V.ref p211), rfl, rfl, ow219.h, (by rw [RL.len (hA_y_found101.up (Same.trans sm162 sm216))]; exact hk224), ?_⟩
          have hA225 : RL K (upd F157 p211 (.tup [(V.int ((0 : Int) + ((i85 : Nat) : Int))), (V.int (((0 : Int) + ((i85 : Nat) : Int)) + (1 : Int)))])) (ws_y_found95 ++ [(V.ref p211)]) (y_found94 ++ [((((0 : Int) + ((i85 : Nat) : Int)), (((0 : Int) + ((i85 : Nat) : Int)) + (1 : Int))) : (Int × Int))]) := RL.snoc (hA_y_found101.up (Same.trans sm162 sm216)) r221
          have hl226 : (ws_y_found95 ++ [(V.ref p211)]).length ≤ sizeLine := by rw [List.length_append, RL.len (hA_y_found101.up (Same.trans sm162 sm216))]; exact hk224
          have g227 := g217.put (o := (.lst (ws_y_found95 ++ [(V.ref p211)]))) ow219
          have ow228 := ow218.other (o := (.lst (ws_y_found95 ++ [(V.ref p211)]))) ne67
          have ow229 := ow220.other (o := (.lst (ws_y_found95 ++ [(V.ref p211)]))) (Ne.symm ne109)
          have ow230 := ow219.put (us := (ws_y_found95 ++ [(V.ref p211)]))
          obtain rfl := sjoin hj175
          exact ⟨(upd F157 p211 (.tup [(V.int ((0 : Int) + ((i85 : Nat) : Int))), (V.int (((0 : Int) + ((i85 : Nat) : Int)) + (1 : Int)))])), (ws_y_found95 ++ [(V.ref p211)]), rfl, g227, sm216, ow230, hl226, hA225, ow228, ow229⟩
      intro σ231 H232 hMid
      obtain ⟨F233, ws_y_found174242, rfl, g234, sm235, ow_y_found174236, hl_y_found174237, hA_y_found174238, owk0239, owk1240⟩ := hMid
      refine p_asg ?_
      refine ⟨(V.ref D106), rfl, ?_⟩
      have sm243 := owk1240.sf
      have g244 := g234.fz owk1240
      have ow245 : Ow H0 (upd F233 D106 (.lst acc158)) H232 D1 acc54 := owk0239.fz ne108
      have ow246 : Ow H0 (upd F233 D106 (.lst acc158)) H232 p65 ws_y_found174242 := ow_y_found174236.fz ne109
      have r247 : R K (upd F233 D106 (.lst acc158)) (.ref D106) y_here170 := R.mkl fzS hl169 (RpA.up (hA173.up sm235) sm243)
      refine p_name ?_
      exact ⟨(upd F233 D106 (.lst acc158)), (some y_here170), (V.ref D106), (some (V.int ((0 : Int) + ((i85 : Nat) : Int)))), (some (V.ref D106)), y_found174, ws_y_found174242, rfl, g244, (Same.trans sm97 (Same.trans sm162 (Same.trans sm235 sm243))), r247, ow246, hl_y_found174237, (hA_y_found174238.up sm243), ow245, hm103⟩
    intro σ248 H249 hP
    obtain ⟨F250, y_elder251, v_y_elder252, o_y_number253, o_y_here254, y_found255, ws_y_found256, rfl, g257, sm258, r_y_elder259, ow_y_found260, hl_y_found261, hA_y_found262, owk0263, hm264⟩ := hP
    rw [drop_end (rangeL_len _ _).symm, m_l_grouped_l2.eq_1] at hm264
    obtain ⟨rfl, rfl⟩ := pjoin hm264
    refine p_nx ?_
    refine p_ret ?_
    obtain rfl := sjoin hm
    refine ⟨(V.ref p65), rfl, (hQ _ _ _ _ g257 ow_y_found260.n0 ow_y_found260.h ow_y_found260.nF hl_y_found261 hA_y_found262)⟩
end K03
namespace K03
open PySem PySem.Spec PyProof.Rows L2 TL G
theorem ok_l_cut_right {P : Program} {w : World} {K : PySem.W.Frag} {mg : Str → Option Value} {base : Heap} (T : Txt K mg) : FnOk P w K mg base CX0 3 T.a_l_cut_right T.d_l_cut_right ["_law_told", "_law_some_here", "_law_size_here"] (sp_l_cut_right K) := by
  have G_l_span : FnOk P w K mg base CX0 2 T.a_l_span T.d_l_span ["_law_one_here", "_law_size_here"] (sp_l_span K) := ok_l_span T
  have b_l_span := T.F_l_span.bindsN (ps := ["_law_one_here", "_law_size_here"]) fun _ _ _ _ _ _ us hl => match us, hl with | [_, _], _ => rfl
  refine fd_ok T.F_l_cut_right sc_l_cut_right (fun vs H Q E h => ?_) (fun cdv A outer s H0 vs Q E hr h => ?_)
  · obtain ⟨_, _, _, _, _, _, _, _, rfl, _⟩ := h
    rfl
  · obtain ⟨p_y_told, ws_y_told, y_told, p_y_some_here, ws_y_some_here, y_some_here, y_size_here, r, rfl, hS_y_told, hl_y_told, hA_y_told, nm_y_told, hS_y_some_here, hl_y_some_here, hA_y_some_here, nm_y_some_here, hm, hQ⟩ := h
    refine ⟨_, (pss_cons (ps_setLc (i := 3) (own := [("_law_one_here", 10)]) rfl sc_l_cut_right.nd rfl rfl (sw_true rfl rfl rfl (by decide +kernel)) (pi_listK (K := K) (pv 1)) (blkOk_by (own := [("_law_one_here", 10)]) (N := N_l_cut_right) (sc := defScope s_l_cut_right) (by decide +kernel)) (fun _ _ _ _ _ => (pg_name (i := 10) sc_l_cut_right.nd rfl (Or.inl rfl) (.inr rfl))) (fun _ _ _ _ _ => pts_nil) (fun _ _ _ _ _ => (pe_call G_l_span (hr.mono (by decide)) (by rfl) T.g_l_span T.F_l_span.kp b_l_span .nil pass0 (pa_cons (pv 10) (pa_cons (pv 2) pa_nil))))) (pss_cons (ps_set (i := 4) sc_l_cut_right.nd rfl (.inl rfl) pe_int) (pss_cons (ps_set (i := 5) sc_l_cut_right.nd rfl (.inl rfl) pe_non) (pss_cons (ps_for PassesOwn.never rfl (pi_listK (K := K) (pv 0)) (pg_tupK (K := K) 2 rfl (pgs_cons (pg_name (i := 6) sc_l_cut_right.nd rfl (Or.inr rfl)) (pgs_cons (pg_name (i := 7) sc_l_cut_right.nd rfl (Or.inr rfl)) pgs_nil))) (pss_cons (ps_set (i := 8) sc_l_cut_right.nd rfl (.inr rfl) (pe_lc (own := [("_law_one_here", 10), ("_law_other", 11)]) rfl sc_l_cut_right.nd (pi_listK (K := K) (pv 3)) (blkOk_by (own := [("_law_one_here", 10), ("_law_other", 11)]) (N := N_l_cut_right) (sc := defScope s_l_cut_right) (by decide +kernel)) (fun _ _ _ _ _ => (pg_tupK (K := K) 2 rfl (pgs_cons (pg_name (i := 10) sc_l_cut_right.nd rfl (Or.inl rfl) (.inr rfl)) (pgs_cons (pg_name (i := 11) sc_l_cut_right.nd rfl (Or.inl rfl) (.inr rfl)) pgs_nil)))) (fun _ _ _ _ _ => pts_nil) (fun _ _ _ _ _ => (pe_and (pe_cmpR op_le (pv 10) (pv 6) (nomark _)) (pe_one (pe_cmpR op_le (pv 7) (pv 11) (nomark _))))))) (pss_cons (ps_set (i := 9) sc_l_cut_right.nd rfl (.inr rfl) (pe_lc (own := [("_law_one_here", 10), ("_law_other", 11)]) rfl sc_l_cut_right.nd (pi_listK (K := K) (pv 3)) (blkOk_by (own := [("_law_one_here", 10), ("_law_other", 11)]) (N := N_l_cut_right) (sc := defScope s_l_cut_right) (by decide +kernel)) (fun _ _ _ _ _ => (pg_tupK (K := K) 2 rfl (pgs_cons (pg_name (i := 10) sc_l_cut_right.nd rfl (Or.inl rfl) (.inr rfl)) (pgs_cons (pg_name (i := 11) sc_l_cut_right.nd rfl (Or.inl rfl) (.inr rfl)) pgs_nil)))) (fun _ _ _ _ _ => pts_nil) (fun _ _ _ _ _ => (pe_or (pe_cmpR op_le (pv 7) (pv 10) (nomark _)) (pe_one (pe_cmpR op_le (pv 11) (pv 6) (nomark _))))))) (pss_cons (ps_if (PW.pt (pw_or (pt_cmpR op_ne (pv 6) (pv 4) (nomark _)) (pw_or (pt_cmpR op_le (pv 7) (pv 6) (nomark _)) (pw_or1 (pt_cmpR (op_eqDK (K := K) hr.units) (pv 8) (pv 5) (nomark _)))))) (pss_one (ps_ret pe_bl)) pss_nil) (pss_cons (ps_if (pt_cmpR (op_neDK (K := K) hr.units) (pe_lc (own := [("_law_k", 12)]) rfl sc_l_cut_right.nd (pi_range1 (by rfl) T.n_range (pa_cons (pe_callB (call_lenLK (K := K)) (by rfl) T.n_len (by decide +kernel) (pa_cons (pv 3) pa_nil)) pa_nil)) (blkOk_by (own := [("_law_k", 12)]) (N := N_l_cut_right) (sc := defScope s_l_cut_right) (by decide +kernel)) (fun _ _ _ _ _ => (pg_name (i := 12) sc_l_cut_right.nd rfl (Or.inl rfl) (.inr rfl))) (fun _ _ _ _ _ => (pts_one (pt_cmpR op_eq (pe_ix (ix_listK (K := K)) (pv 8) (pv 12) (fun _ _ => rfl)) (pe_ix (ix_listK (K := K)) (pv 9) (pv 12) (fun _ _ => rfl)) (nomark _)))) (fun _ _ _ _ _ => (pv 12))) (pe_lst pa_nil) (nomark _)) (pss_one (ps_ret pe_bl)) pss_nil) (pss_cons (ps_set (i := 4) sc_l_cut_right.nd rfl (.inl rfl) (pv 7)) (pss_one (ps_set (i := 5) sc_l_cut_right.nd rfl (.inl rfl) (pv 8))))))))) (pss_one (ps_ret (pe_cmpR op_eq (pv 4) (pe_op op_shl pe_int (pv 2)) (nomark _)))))))), ?_⟩
    have g0 : Gr M0 H0 H0 H0 H0 := Gr.refl (Same.refl _)
    unfold m_l_cut_right at hm
    refine p_seq ?_
    refine p_asg ?_
    refine ⟨(V.ref p_y_some_here), rfl, p_y_some_here, rfl, ⟨_, (g0.seq nm_y_some_here hS_y_some_here)⟩, fun D1 nD2 => ?_⟩
    have g3 := g0.own (o := (.lst [])) nD2
    have ow4 : Ow H0 H0 (upd H0 D1 (.lst [])) D1 [] := Ow.new g0 nD2
    obtain ⟨l5, hb6, hm⟩ := bnd hm
    refine lc_list (K := K) (a := p_y_some_here) (xs := ws_y_some_here) (fun i H' => ∃ (F' : Hp) (acc : List V) (ds : List (Int × Int)) (rest : List (Int × Int)), Gr M0 H0 H0 F' H' ∧ Same H0 F' ∧ Ow H0 F' H' D1 acc ∧ RL K F' acc ds ∧ acc.length ≤ i ∧ m_l_cut_right_c1 y_size_here (y_some_here.drop i) = some rest ∧ ds ++ rest = l5) ?_ ?_ ?_ ?_
    · exact ⟨H0, [], [], l5, g3, Same.refl _, ow4, RpA.nil, Nat.le_refl _, hb6, rfl⟩
    · intro i H' _ hP
      obtain ⟨F7, acc8, ds9, rest10, g011, sm12, owD13, hA14, hi15, hm16, hr17⟩ := hP
      exact (g011.seq nm_y_some_here hS_y_some_here)
    · intro i19 xv18 H21 hx20 hP
      obtain ⟨F22, acc23, ds24, rest25, g026, sm27, owD28, hA29, hi30, hm31, hr32⟩ := hP
      obtain ⟨e33, he34, r35⟩ := RL.get (hA_y_some_here.up sm27) hx20
      obtain ⟨rfl, gs36⟩ := R.str_v r35
      rw [drop_at he34, m_l_cut_right_c1.eq_2] at hm31
      refine ⟨rfl, (p_yes ?_)⟩
      obtain ⟨r37, hb38, hm31⟩ := bnd hm31
      refine ⟨(V.str e33), rfl, (V.int y_size_here), rfl, F22, e33, y_size_here, r37, rfl, g026.fh, gs36, hb38, fun v42 F39 H40 g41 r43 => ?_⟩
      have g44 := Gr.trans g026 g41
      have ow45 := owD28.gr0 g41
      have hA46 : RL K F39 (acc23 ++ [v42]) (ds24 ++ [(r37 : (Int × Int))]) := RL.snoc (hA29.up g41.ff) r43
      obtain ⟨rest47, h48, h49⟩ := bnd hm31
      obtain rfl := sjoin h49
      refine ⟨acc23, ow45.h, (lt_line hi30 (List.getElem?_eq_some_iff.mp hx20).1 hl_y_some_here), ?_⟩
      have g50 := g44.put (o := (.lst (acc23 ++ [v42]))) ow45
      have ow51 := ow45.put (us := (acc23 ++ [v42]))
      exact ⟨F39, (acc23 ++ [v42]), (ds24 ++ [r37]), rest47, g50, (Same.trans sm27 g41.ff), ow51, hA46, (by rw [List.length_append]; exact Nat.succ_le_succ hi30), h48, (snoc_rest hr32)⟩
    intro H52 hP
    obtain ⟨F53, acc54, ds55, _rest, g057, sm58, owD59, hA60, hi61, hm62, hr63⟩ := hP
    rw [drop_end (RL.len hA_y_some_here)] at hm62
    rw [m_l_cut_right_c1.eq_1] at hm62
    obtain rfl := sjoin hm62
    rw [List.append_nil] at hr63
    obtain rfl := hr63
    have hl64 : acc54.length ≤ sizeLine := Nat.le_trans hi61 hl_y_some_here
    refine p_name ?_
    refine p_nx ?_
    refine p_seq ?_
    refine p_asg ?_
    refine p_name ?_
    refine p_nx ?_
    refine p_seq ?_
    refine p_asg ?_
    refine p_name ?_
    refine p_nx ?_
    refine p_seq ?_
    refine p_for ?_
    refine ⟨(V.ref p_y_told), rfl, p_y_told, rfl, ⟨_, (g057.seq nm_y_told hS_y_told)⟩, ?_⟩
    obtain ⟨l67, ht68, hm⟩ := bndL2 hm
    refine for_list (K := K) (a := p_y_told) (xs := ws_y_told) (fun i σ' H' => ∃ (F' : Hp) (y_at : Int) (y_elder : (Option (List Bool))) (v_y_elder : V) (o_y_behind : Option V) (o_y_first : Option V) (o_y_here : Option V) (o_y_apart : Option V), σ' = [(some (V.ref p_y_told)), (some (V.ref p_y_some_here)), (some (V.int y_size_here)), (some (V.ref D1)), (some (V.int y_at)), (some v_y_elder), o_y_first, o_y_behind, o_y_here, o_y_apart, none, none, none] ∧ Gr M0 H0 H0 F' H' ∧ Same F53 F' ∧ R K F' v_y_elder y_elder ∧ Ow H0 F' H' D1 acc54 ∧ m_l_cut_right_l2 ds55 (y_told.drop i) y_at y_elder = some l67) ?_ ?_ ?_ ?_
    · exact ⟨F53, (0 : Int), (none : (Option (List Bool))), V.non, none, none, none, none, rfl, g057, (Same.refl _), Rp.non, owD59, ht68⟩
    · intro i σ' H' _ hP
      obtain ⟨F', y_at, y_elder, v_y_elder, o_y_behind, o_y_first, o_y_here, o_y_apart, rfl, g_, sm_, r_y_elder, owk0_, hm_⟩ := hP
      exact (g_.seq nm_y_told hS_y_told)
    · intro i69 xv72 σ' H71 hx70 hP
      obtain ⟨F73, y_at74, y_elder75, v_y_elder76, o_y_behind77, o_y_first78, o_y_here79, o_y_apart80, rfl, g81, sm82, r_y_elder83, owk084, hm85⟩ := hP
      obtain ⟨e86, he87, r88⟩ := RL.get (hA_y_told.up (Same.trans sm58 sm82)) hx70
      rw [drop_at he87, m_l_cut_right_l2.eq_2] at hm85
      obtain ⟨p89, v92, v93, ev90, hS91, r94, r95⟩ := R.p2_v r88
      obtain rfl := R.int_v r94
      obtain rfl := R.int_v r95
      refine ⟨p89, [(V.int e86.1), (V.int e86.2)], ev90, (SqT_mono g81.fh hS91), rfl, (V.int e86.1), [(V.int e86.2)], rfl, (V.int e86.2), [], rfl, rfl, ?_⟩
      refine p_seq ?_
      refine p_asg ?_
      refine ⟨(V.ref D1), rfl, D1, rfl, ⟨_, owk084.sq⟩, fun D96 nD97 => ?_⟩
      have ne98 := owk084.ne nD97
      have g99 := g81.own (o := (.lst [])) nD97
      have ow100 := owk084.own (o := (.lst [])) nD97
      have ow101 : Ow H0 F73 (upd H71 D96 (.lst [])) D96 [] := Ow.new g81 nD97
      refine lc_list (K := K) (a := D1) (xs := acc54) (fun i H' => ∃ (F' : Hp) (acc : List V) (ds : List Bool), Gr M0 H0 H0 F' H' ∧ Same F73 F' ∧ Ow H0 F' H' D96 acc ∧ RL K F' acc ds ∧ acc.length ≤ i ∧ Ow H0 F' H' D1 acc54 ∧ ds ++ m_l_cut_right_c3 e86.1 e86.2 (ds55.drop i) = (m_l_cut_right_c3 e86.1 e86.2 ds55)) ?_ ?_ ?_ ?_
      · exact ⟨F73, [], [], g99, Same.refl _, ow101, RpA.nil, Nat.le_refl _, ow100, rfl⟩
      · intro i H' _ hP
        obtain ⟨F103, acc104, ds105, g0106, sm107, owD108, hA109, hi110, ow0111, hr112⟩ := hP
        exact ow0111.sq
      · intro i114 xv113 H116 hx115 hP
        obtain ⟨F117, acc118, ds119, g0120, sm121, owD122, hA123, hi124, ow0125, hr126⟩ := hP
        obtain ⟨e127, he128, r129⟩ := RL.get (hA60.up (Same.trans sm82 sm121)) hx115
        rw [drop_at he128, m_l_cut_right_c3.eq_2] at hr126
        obtain ⟨p130, v133, v134, ev131, hS132, r135, r136⟩ := R.p2_v r129
        obtain rfl := R.int_v r135
        obtain rfl := R.int_v r136
        refine ⟨p130, [(V.int e127.1), (V.int e127.2)], ev131, (SqT_mono g0120.fh hS132), rfl, (V.int e127.1), [(V.int e127.2)], rfl, (V.int e127.2), [], rfl, rfl, rfl, (p_yes ?_)⟩
        refine ⟨(V.int e127.1), rfl, (V.int e86.1), rfl, _, _, rfl, rfl, _, rfl, ?_⟩
        refine andJV (M := M0) (F := F117) (c := ((decide (e127.1 ≤ e86.1)) && (decide (e86.2 ≤ e127.2)))) (P := fun _ _ => True) (fun ha => ?_) (fun ha => ⟨(anF ha), trivial⟩) g0120.fh ?_
        · intro Q140 q141
          refine ⟨(V.int e86.2), rfl, (V.int e127.2), rfl, _, _, rfl, rfl, (qTv ha (q141 _ _ (Gr.refl (M := M0) g0120.fh) trivial))⟩
        intro F142 H143 g144 hB145
        have g146 := Gr.trans g0120 g144
        have ow147 := ow0125.gr0 g144
        have ow148 := owD122.gr0 g144
        have hA149 : RL K F142 (acc118 ++ [(V.bl ((decide (e127.1 ≤ e86.1)) && (decide (e86.2 ≤ e127.2))))]) (ds119 ++ [(((decide (e127.1 ≤ e86.1)) && (decide (e86.2 ≤ e127.2))) : Bool)]) := RL.snoc (hA123.up g144.ff) (Rp.bl ((decide (e127.1 ≤ e86.1)) && (decide (e86.2 ≤ e127.2))))
        refine ⟨acc118, ow148.h, (lt_line hi124 (List.getElem?_eq_some_iff.mp hx115).1 hl64), ?_⟩
        have g150 := g146.put (o := (.lst (acc118 ++ [(V.bl ((decide (e127.1 ≤ e86.1)) && (decide (e86.2 ≤ e127.2))))]))) ow148
        have ow151 := ow147.other (o := (.lst (acc118 ++ [(V.bl ((decide (e127.1 ≤ e86.1)) && (decide (e86.2 ≤ e127.2))))]))) ne98
        have ow152 := ow148.put (us := (acc118 ++ [(V.bl ((decide (e127.1 ≤ e86.1)) && (decide (e86.2 ≤ e127.2))))]))
        exact ⟨F142, (acc118 ++ [(V.bl ((decide (e127.1 ≤ e86.1)) && (decide (e86.2 ≤ e127.2))))]), (ds119 ++ [((decide (e127.1 ≤ e86.1)) && (decide (e86.2 ≤ e127.2)))]), g150, (Same.trans sm121 g144.ff), ow152, hA149, (by rw [List.length_append]; exact Nat.succ_le_succ hi124), ow151, (snoc_rest hr126)⟩
      intro H153 hP
      obtain ⟨F154, acc155, ds156, g0158, sm159, owD160, hA161, hi162, ow0163, hr164⟩ := hP
      rw [drop_end (RL.len (hA60.up sm82))] at hr164
      rw [m_l_cut_right_c3.eq_1, List.append_nil] at hr164
      obtain rfl := hr164
      have hl165 : acc155.length ≤ sizeLine := Nat.le_trans hi162 hl64
      obtain ⟨y_here166, hb167, hm85⟩ := bnd hm85
      have hx168 : (m_l_cut_right_c3 e86.1 e86.2 ds55) = y_here166 := sjoin hb167
      have hA169 : RL K F154 acc155 y_here166 := RL.re hx168 hA161
      refine p_name ?_
      refine p_nx ?_
      refine p_seq ?_
      refine p_asg ?_
      refine ⟨(V.ref D1), rfl, D1, rfl, ⟨_, ow0163.sq⟩, fun D170 nD171 => ?_⟩
      have ne172 := ow0163.ne nD171
      have ne173 := owD160.ne nD171
      have g174 := g0158.own (o := (.lst [])) nD171
      have ow175 := ow0163.own (o := (.lst [])) nD171
      have ow176 := owD160.own (o := (.lst [])) nD171
      have ow177 : Ow H0 F154 (upd H153 D170 (.lst [])) D170 [] := Ow.new g0158 nD171
      refine lc_list (K := K) (a := D1) (xs := acc54) (fun i H' => ∃ (F' : Hp) (acc : List V) (ds : List Bool), Gr M0 H0 H0 F' H' ∧ Same F154 F' ∧ Ow H0 F' H' D170 acc ∧ RL K F' acc ds ∧ acc.length ≤ i ∧ Ow H0 F' H' D1 acc54 ∧ Ow H0 F' H' D96 acc155 ∧ ds ++ m_l_cut_right_c4 e86.1 e86.2 (ds55.drop i) = (m_l_cut_right_c4 e86.1 e86.2 ds55)) ?_ ?_ ?_ ?_
      · exact ⟨F154, [], [], g174, Same.refl _, ow177, RpA.nil, Nat.le_refl _, ow175, ow176, rfl⟩
      · intro i H' _ hP
        obtain ⟨F179, acc180, ds181, g0182, sm183, owD184, hA185, hi186, ow0187, ow1188, hr189⟩ := hP
        exact ow0187.sq
      · intro i191 xv190 H193 hx192 hP
        obtain ⟨F194, acc195, ds196, g0197, sm198, owD199, hA200, hi201, ow0202, ow1203, hr204⟩ := hP
        obtain ⟨e205, he206, r207⟩ := RL.get (hA60.up (Same.trans sm82 (Same.trans sm159 sm198))) hx192
        rw [drop_at he206, m_l_cut_right_c4.eq_2] at hr204
        obtain ⟨p208, v211, v212, ev209, hS210, r213, r214⟩ := R.p2_v r207
        obtain rfl := R.int_v r213
        obtain rfl := R.int_v r214
        refine ⟨p208, [(V.int e205.1), (V.int e205.2)], ev209, (SqT_mono g0197.fh hS210), rfl, (V.int e205.1), [(V.int e205.2)], rfl, (V.int e205.2), [], rfl, rfl, rfl, (p_yes ?_)⟩
        refine ⟨(V.int e86.2), rfl, (V.int e205.1), rfl, _, _, rfl, rfl, _, rfl, ?_⟩
        refine orJV (M := M0) (F := F194) (c := ((decide (e86.2 ≤ e205.1)) || (decide (e205.2 ≤ e86.1)))) (P := fun _ _ => True) (fun ha => ?_) (fun ha => ⟨(orTt ha), trivial⟩) g0197.fh ?_
        · intro Q218 q219
          refine ⟨(V.int e205.2), rfl, (V.int e86.1), rfl, _, _, rfl, rfl, (qOv ha (q219 _ _ (Gr.refl (M := M0) g0197.fh) trivial))⟩
        intro F220 H221 g222 hB223
        have g224 := Gr.trans g0197 g222
        have ow225 := ow0202.gr0 g222
        have ow226 := ow1203.gr0 g222
        have ow227 := owD199.gr0 g222
        have hA228 : RL K F220 (acc195 ++ [(V.bl ((decide (e86.2 ≤ e205.1)) || (decide (e205.2 ≤ e86.1))))]) (ds196 ++ [(((decide (e86.2 ≤ e205.1)) || (decide (e205.2 ≤ e86.1))) : Bool)]) := RL.snoc (hA200.up g222.ff) (Rp.bl ((decide (e86.2 ≤ e205.1)) || (decide (e205.2 ≤ e86.1))))
        refine ⟨acc195, ow227.h, (lt_line hi201 (List.getElem?_eq_some_iff.mp hx192).1 hl64), ?_⟩
        have g229 := g224.put (o := (.lst (acc195 ++ [(V.bl ((decide (e86.2 ≤ e205.1)) || (decide (e205.2 ≤ e86.1))))]))) ow227
        have ow230 := ow225.other (o := (.lst (acc195 ++ [(V.bl ((decide (e86.2 ≤ e205.1)) || (decide (e205.2 ≤ e86.1))))]))) ne172
        have ow231 := ow226.other (o := (.lst (acc195 ++ [(V.bl ((decide (e86.2 ≤ e205.1)) || (decide (e205.2 ≤ e86.1))))]))) ne173
        have ow232 := ow227.put (us := (acc195 ++ [(V.bl ((decide (e86.2 ≤ e205.1)) || (decide (e205.2 ≤ e86.1))))]))
        exact ⟨F220, (acc195 ++ [(V.bl ((decide (e86.2 ≤ e205.1)) || (decide (e205.2 ≤ e86.1))))]), (ds196 ++ [((decide (e86.2 ≤ e205.1)) || (decide (e205.2 ≤ e86.1)))]), g229, (Same.trans sm198 g222.ff), ow232, hA228, (by rw [List.length_append]; exact Nat.succ_le_succ hi201), ow230, ow231, (snoc_rest hr204)⟩
      intro H233 hP
      obtain ⟨F234, acc235, ds236, g0238, sm239, owD240, hA241, hi242, ow0243, ow1244, hr245⟩ := hP
      rw [drop_end (RL.len (hA60.up (Same.trans sm82 sm159)))] at hr245
      rw [m_l_cut_right_c4.eq_1, List.append_nil] at hr245
      obtain rfl := hr245
      have hl246 : acc235.length ≤ sizeLine := Nat.le_trans hi242 hl64
      obtain ⟨y_apart247, hb248, hm85⟩ := bnd hm85
      have hx249 : (m_l_cut_right_c4 e86.1 e86.2 ds55) = y_apart247 := sjoin hb248
      have hA250 : RL K F234 acc235 y_apart247 := RL.re hx249 hA241
      refine p_name ?_
      refine p_nx ?_
      refine p_seq ?_
      refine p_if ?_
      refine ⟨(V.int e86.1), rfl, (V.int y_at74), rfl, rfl, _, rfl, ?_⟩
      refine orJT (M := M0) (F := F234) (c := ((neI e86.1 y_at74) || ((decide (e86.2 ≤ e86.1)) || (eqD (some y_here166) y_elder75)))) (P := fun _ _ => True) (fun ha => ?_) (fun ha => ⟨(orTt ha), trivial⟩) g0238.fh ?_
      · intro Q254 q255
        refine ⟨(V.int e86.2), rfl, (V.int e86.1), rfl, _, _, rfl, rfl, _, rfl, ?_⟩
        refine orJT (M := M0) (F := F234) (c := ((decide (e86.2 ≤ e86.1)) || (eqD (some y_here166) y_elder75))) (P := fun _ _ => True) (fun ha => ?_) (fun ha => ⟨(orTt ha), trivial⟩) g0238.fh ?_
        · intro Q259 q260
          have rH261 : R K H233 (V.ref D96) y_here166 := (R.mkl ow1244.sq hl165 (RpA.up (hA169.up sm239) g0238.fh))
          have rH262 : R K H233 v_y_elder76 y_elder75 := (Rp.up (r_y_elder83.up (Same.trans sm159 sm239)) g0238.fh)
          refine ⟨(V.ref D96), rfl, v_y_elder76, rfl, _, _, (Rp.dp _ _ rH261), (Rp.dp _ _ rH262), (R.shaped rH261), (R.shaped rH262), _, rfl, (qOb ha (q260 _ _ (Gr.refl (M := M0) g0238.fh) trivial))⟩
        intro F263 H264 g265 hB266
        have g267 := Gr.trans g0238 g265
        have g268 := Gr.trans (Gr.refl (M := M0) g0238.fh) g265
        have ow269 := ow0243.gr0 g265
        have ow270 := ow1244.gr0 g265
        have ow271 := owD240.gr0 g265
        exact (qOb ha (q255 _ _ g268 trivial))
      intro F272 H273 g274 hB275
      have g276 := Gr.trans g0238 g274
      have ow277 := ow0243.gr0 g274
      have ow278 := ow1244.gr0 g274
      have ow279 := owD240.gr0 g274
      refine (iteB (fun hc => ?_) (fun hc => ?_))
      · have hm85 := ifT hc hm85
        refine p_ret ?_
        obtain rfl := sjoin hm85
        have hm := bret hm
        obtain rfl := sjoin hm
        exact (hQ _ _ g276)
      · have hm85 := ifF hc hm85
        refine p_next ?_
        refine p_nx ?_
        refine p_seq ?_
        refine p_if ?_
        obtain ⟨l280, hb282, hm85⟩ := bnd hm85
        obtain ⟨hk281, rfl⟩ := rangeO1_ok hb282
        refine ⟨(V.ref D1), rfl, D1, acc54, _, rfl, (.inl ow277.sq), (RL.len (hA60.up (Same.trans sm82 (Same.trans sm159 (Same.trans sm239 g274.ff))))), _, rfl, hk281.1.1, hk281.1.2, fun D283 nD284 => ?_⟩
        have ne285 := ow277.ne nD284
        have ne286 := ow278.ne nD284
        have ne287 := ow279.ne nD284
        have g288 := g276.own (o := (.lst [])) nD284
        have ow289 := ow277.own (o := (.lst [])) nD284
        have ow290 := ow278.own (o := (.lst [])) nD284
        have ow291 := ow279.own (o := (.lst [])) nD284
        have ow292 : Ow H0 F272 (upd H273 D283 (.lst [])) D283 [] := Ow.new g276 nD284
        obtain ⟨l293, hb294, hm85⟩ := bnd hm85
        refine lc_range (lo := (0 : Int)) (n := ((((ds55).length : Nat) : Int)).toNat) (fun i H' => ∃ (F' : Hp) (acc : List V) (ds : List Int) (rest : List Int), Gr M0 H0 H0 F' H' ∧ Same F272 F' ∧ Ow H0 F' H' D283 acc ∧ RL K F' acc ds ∧ acc.length ≤ i ∧ Ow H0 F' H' D1 acc54 ∧ Ow H0 F' H' D96 acc155 ∧ Ow H0 F' H' D170 acc235 ∧ m_l_cut_right_c5 y_here166 y_apart247 ((rangeL (0 : Int) ((((ds55).length : Nat) : Int)).toNat).drop i) = some rest ∧ ds ++ rest = l293) ?_ ?_ ?_
        · exact ⟨F272, [], [], l293, g288, Same.refl _, ow292, RpA.nil, Nat.le_refl _, ow289, ow290, ow291, hb294, rfl⟩
        · intro i296 H298 hx297 hP
          obtain ⟨F299, acc300, ds301, rest302, g0303, sm304, owD305, hA306, hi307, ow0308, ow1309, ow2310, hm311, hr312⟩ := hP
          have he314 := rangeL_at (lo := (0 : Int)) hx297
          rw [drop_at he314, m_l_cut_right_c5.eq_2] at hm311
          obtain ⟨t315, hb316, hm311⟩ := bnd hm311
          obtain ⟨v317, ha318, r319⟩ := RL.at (hA169.up (Same.trans sm239 (Same.trans g274.ff sm304))) hb316
          obtain rfl := R.bl_v r319
          obtain ⟨t320, hb321, hm311⟩ := bnd hm311
          obtain ⟨v322, ha323, r324⟩ := RL.at (hA250.up (Same.trans g274.ff sm304)) hb321
          obtain rfl := R.bl_v r324
          refine ⟨rfl, (V.ref D96), rfl, (V.int ((0 : Int) + ((i296 : Nat) : Int))), rfl, D96, acc155, _, (V.bl t315), rfl, rfl, ow1309.sq, ha318, (V.ref D170), rfl, (V.int ((0 : Int) + ((i296 : Nat) : Int))), rfl, D170, acc235, _, (V.bl t320), rfl, rfl, ow2310.sq, ha323, rfl, _, rfl, (iteB (fun hc => ?_) (fun hc => ?_))⟩
          · have hm311 := ifT hc hm311
            have hA325 : RL K F299 (acc300 ++ [(V.int ((0 : Int) + ((i296 : Nat) : Int)))]) (ds301 ++ [(((0 : Int) + ((i296 : Nat) : Int)) : Int)]) := RL.snoc hA306 (Rp.int ((0 : Int) + ((i296 : Nat) : Int)))
            obtain ⟨rest326, h327, h328⟩ := bnd hm311
            obtain rfl := sjoin h328
            refine ⟨(V.int ((0 : Int) + ((i296 : Nat) : Int))), rfl, acc300, owD305.h, (lt_line hi307 hx297 hk281.2), ?_⟩
            have g329 := g0303.put (o := (.lst (acc300 ++ [(V.int ((0 : Int) + ((i296 : Nat) : Int)))]))) owD305
            have ow330 := ow0308.other (o := (.lst (acc300 ++ [(V.int ((0 : Int) + ((i296 : Nat) : Int)))]))) ne285
            have ow331 := ow1309.other (o := (.lst (acc300 ++ [(V.int ((0 : Int) + ((i296 : Nat) : Int)))]))) ne286
            have ow332 := ow2310.other (o := (.lst (acc300 ++ [(V.int ((0 : Int) + ((i296 : Nat) : Int)))]))) ne287
            have ow333 := owD305.put (us := (acc300 ++ [(V.int ((0 : Int) + ((i296 : Nat) : Int)))]))
            exact ⟨F299, (acc300 ++ [(V.int ((0 : Int) + ((i296 : Nat) : Int)))]), (ds301 ++ [((0 : Int) + ((i296 : Nat) : Int))]), rest326, g329, sm304, ow333, hA325, (by rw [List.length_append]; exact Nat.succ_le_succ hi307), ow330, ow331, ow332, h327, (snoc_rest hr312)⟩
          · have hm311 := ifF hc hm311
            exact ⟨F299, acc300, ds301, rest302, g0303, sm304, owD305, hA306, (Nat.le_succ_of_le hi307), ow0308, ow1309, ow2310, hm311, hr312⟩
        intro H334 hP
        obtain ⟨F335, acc336, ds337, _rest, g0339, sm340, owD341, hA342, hi343, ow0344, ow1345, ow2346, hm347, hr348⟩ := hP
        rw [drop_end (rangeL_len _ _).symm] at hm347
        rw [m_l_cut_right_c5.eq_1] at hm347
        obtain rfl := sjoin hm347
        rw [List.append_nil] at hr348
        obtain rfl := hr348
        have hl349 : acc336.length ≤ sizeLine := Nat.le_trans hi343 hk281.2
        refine ⟨(by show 0 ≤ sizeLine; decide), fun p350 np351 => ?_⟩
        have ne352 := ow0344.ne np351
        have ne353 := ow1345.ne np351
        have ne354 := ow2346.ne np351
        have ne355 := owD341.ne np351
        have g356 := g0339.own (o := (.lst [])) np351
        have ow357 := ow0344.own (o := (.lst [])) np351
        have ow358 := ow1345.own (o := (.lst [])) np351
        have ow359 := ow2346.own (o := (.lst [])) np351
        have ow360 := owD341.own (o := (.lst [])) np351
        have ow361 : Ow H0 F335 (upd H334 p350 (.lst [])) p350 [] := Ow.new g0339 np351
        have rH363 : R K (upd H334 p350 (.lst [])) (V.ref D283) ds337 := (R.mkl ow360.sq hl349 (RpA.up hA342 g356.fh))
        have rH364 : R K (upd H334 p350 (.lst [])) (V.ref p350) ([] : (List Int)) := (R.mkl ow361.sq (by show 0 ≤ sizeLine; decide) (RpA.up RpA.nil g356.fh))
        refine ⟨_, _, (Rp.dp _ _ rH363), (Rp.dp _ _ rH364), (R.shaped rH363), (R.shaped rH364), _, rfl, (iteB (fun hc => ?_) (fun hc => ?_))⟩
        · have hm85 := ifT hc hm85
          refine p_ret ?_
          obtain rfl := sjoin hm85
          have hm := bret hm
          obtain rfl := sjoin hm
          exact (hQ _ _ g356)
        · have hm85 := ifF hc hm85
          refine p_next ?_
          refine p_nx ?_
          refine p_seq ?_
          refine p_asg ?_
          refine ⟨(V.int e86.2), rfl, ?_⟩
          refine p_name ?_
          refine p_nx ?_
          refine p_asg ?_
          refine ⟨(V.ref D96), rfl, ?_⟩
          have sm365 := ow358.sf
          have g366 := g356.fz ow358
          have ow367 : Ow H0 (upd F335 D96 (.lst acc155)) (upd H334 p350 (.lst [])) D1 acc54 := ow357.fz ne98
          have ow368 : Ow H0 (upd F335 D96 (.lst acc155)) (upd H334 p350 (.lst [])) D170 acc235 := ow359.fz (Ne.symm ne173)
          have ow369 : Ow H0 (upd F335 D96 (.lst acc155)) (upd H334 p350 (.lst [])) D283 acc336 := ow360.fz (Ne.symm ne286)
          have ow370 : Ow H0 (upd F335 D96 (.lst acc155)) (upd H334 p350 (.lst [])) p350 [] := ow361.fz (Ne.symm ne353)
          have r371 : R K (upd F335 D96 (.lst acc155)) (.ref D96) y_here166 := R.mkl fzS hl165 (RpA.up (hA169.up (Same.trans sm239 (Same.trans g274.ff sm340))) sm365)
          refine p_name ?_
          exact ⟨(upd F335 D96 (.lst acc155)), e86.2, (some y_here166), (V.ref D96), (some (V.int e86.2)), (some (V.int e86.1)), (some (V.ref D96)), (some (V.ref D170)), rfl, g366, (Same.trans sm82 (Same.trans sm159 (Same.trans sm239 (Same.trans g274.ff (Same.trans sm340 sm365))))), r371, ow367, hm85⟩
    intro σ372 H373 hP
    obtain ⟨F374, y_at375, y_elder376, v_y_elder377, o_y_behind378, o_y_first379, o_y_here380, o_y_apart381, rfl, g382, sm383, r_y_elder384, owk0385, hm386⟩ := hP
    rw [drop_end (RL.len (hA_y_told.up (Same.trans sm58 sm383))), m_l_cut_right_l2.eq_1] at hm386
    obtain rfl := sjoin hm386
    have hm := lpgo hm
    dsimp only at hm
    refine p_nx ?_
    refine p_ret ?_
    obtain ⟨t387, hb388, hm⟩ := bnd hm
    obtain ⟨hk389, rfl⟩ := shlI_ok hb388
    obtain rfl := sjoin hm
    refine ⟨(V.int y_at375), rfl, (V.int y_size_here), rfl, _, _, rfl, rfl, hk389, rfl, (hQ _ _ g382)⟩
end K03
namespace K03
open PySem PySem.Spec PyProof.Rows L2 TL G
theorem ok_law {P : Program} {w : World} {K : PySem.W.Frag} {mg : Str → Option Value} {base : Heap} (T : Txt K mg) (hlaw : ∀ b : Bag, BOk b → ∃ b', m_law b = some (true, b')) : FnOk P w K mg base CX0 10 T.a_law T.d_law ["_law_script"] (sp_law K) := by
  have G_l_bag : FnOk P w K mg base CX0 1 T.a_l_bag T.d_l_bag ["_law_script"] (sp_l_bag K) := ok_l_bag T
  have b_l_bag := T.F_l_bag.bindsN (ps := ["_law_script"]) fun _ _ _ _ _ _ us hl => match us, hl with | [_], _ => rfl
  have G_l_size : FnOk P w K mg base CX0 2 T.a_l_size T.d_l_size ["_law_bag_here"] (sp_l_size K) := ok_l_size T
  have b_l_size := T.F_l_size.bindsN (ps := ["_law_bag_here"]) fun _ _ _ _ _ _ us hl => match us, hl with | [_], _ => rfl
  have G_l_some : FnOk P w K mg base CX0 4 T.a_l_some T.d_l_some ["_law_bag_here", "_law_size_here", "_law_most"] (sp_l_some K) := ok_l_some T
  have b_l_some := T.F_l_some.bindsN (ps := ["_law_bag_here", "_law_size_here", "_law_most"]) fun _ _ _ _ _ _ us hl => match us, hl with | [_, _, _], _ => rfl
  have G_parts_of : FnOk P w K mg base CX0 3 T.a_parts_of T.d_parts_of ["patterns", "width"] (sp_parts_of K) := ok_parts_of T
  have b_parts_of := T.F_parts_of.bindsN (ps := ["patterns", "width"]) fun _ _ _ _ _ _ us hl => match us, hl with | [_, _], _ => rfl
  have G_l_alike : FnOk P w K mg base CX0 9 T.a_l_alike T.d_l_alike ["_law_found", "_law_due"] (sp_alike 8 K) := ok_l_alike T 9
  have b_l_alike := T.F_l_alike.bindsN (ps := ["_law_found", "_law_due"]) fun _ _ _ _ _ _ us hl => match us, hl with | [_, _], _ => rfl
  have G_l_cut_right : FnOk P w K mg base CX0 3 T.a_l_cut_right T.d_l_cut_right ["_law_told", "_law_some_here", "_law_size_here"] (sp_l_cut_right K) := ok_l_cut_right T
  have b_l_cut_right := T.F_l_cut_right.bindsN (ps := ["_law_told", "_law_some_here", "_law_size_here"]) fun _ _ _ _ _ _ us hl => match us, hl with | [_, _, _], _ => rfl
  have G_l_grouped : FnOk P w K mg base CX0 3 T.a_l_grouped T.d_l_grouped ["_law_some_here", "_law_size_here"] (sp_l_grouped K) := ok_l_grouped T
  have b_l_grouped := T.F_l_grouped.bindsN (ps := ["_law_some_here", "_law_size_here"]) fun _ _ _ _ _ _ us hl => match us, hl with | [_, _], _ => rfl
  refine fd_ok T.F_law sc_law (fun vs H Q E h => ?_) (fun cdv A outer s H0 vs Q E hr h => ?_)
  · obtain ⟨_, _, rfl, _⟩ := h
    rfl
  · obtain ⟨a_, ns_, rfl, hS_, hl_, hQ_⟩ := h
    refine ⟨_, (pss_cons (ps_set (i := 1) sc_law.nd rfl (.inl rfl) (pe_call G_l_bag (hr.mono (by decide)) (by rfl) T.g_l_bag T.F_l_bag.kp b_l_bag .nil pass0 (pa_cons (pv 0) pa_nil))) (pss_cons (ps_set (i := 2) sc_law.nd rfl (.inl rfl) (pe_call G_l_size (hr.mono (by decide)) (by rfl) T.g_l_size T.F_l_size.kp b_l_size .nil pass0 (pa_cons (pv 1) pa_nil))) (pss_cons (ps_for PassesOwn.never rfl (pi_range1 (by rfl) T.n_range (pa_cons pe_int pa_nil)) (pg_name (i := 3) sc_law.nd rfl (Or.inl rfl)) (pss_cons (ps_set (i := 4) sc_law.nd rfl (.inl rfl) (pe_call G_l_some (hr.mono (by decide)) (by rfl) T.g_l_some T.F_l_some.kp b_l_some .nil pass0 (pa_cons (pv 1) (pa_cons (pv 2) (pa_cons pe_int pa_nil))))) (pss_cons (ps_set (i := 5) sc_law.nd rfl (.inl rfl) (pe_callTy (call_list_of_ (K := K)) (by rfl) T.n_list (by decide +kernel) (pa_cons (pv 4) pa_nil))) (pss_cons (ps_set (i := 6) sc_law.nd rfl (.inl rfl) (pe_call G_parts_of (hr.mono (by decide)) (by rfl) T.g_parts_of T.F_parts_of.kp b_parts_of .nil pass0 (pa_cons (pv 5) (pa_cons (pv 2) pa_nil)))) (pss_cons (ps_set (i := 7) sc_law.nd rfl (.inl rfl) (pe_callTy (call_list_of_ (K := K)) (by rfl) T.n_list (by decide +kernel) (pa_cons (pv 6) pa_nil))) (pss_cons (ps_if (PW.pt (pw_or (pt_not (pt_val (pe_callB (call_isi_ (K := K)) (by rfl) T.n_isinstance (by decide +kernel) (pa_cons (pv 6) (pa_cons (pe_bltn (v := .ty "list") (by rfl) T.n_list (by decide +kernel) rfl) pa_nil))))) (pw_or1 (pt_not (pt_val (pe_call G_l_alike (hr.mono (by decide)) (by rfl) T.g_l_alike T.F_l_alike.kp b_l_alike .nil pass0 (pa_cons (pv 6) (pa_cons (pe_lc (own := [("_law_first", 8), ("_law_behind", 9)]) rfl sc_law.nd (pi_listK (K := K) (pv 7)) (blkOk_by (own := [("_law_first", 8), ("_law_behind", 9)]) (N := N_law) (sc := defScope s_law) (by decide +kernel)) (fun _ _ _ _ _ => (pg_tupK (K := K) 2 rfl (pgs_cons (pg_name (i := 8) sc_law.nd rfl (Or.inl rfl) (.inr rfl)) (pgs_cons (pg_name (i := 9) sc_law.nd rfl (Or.inl rfl) (.inr rfl)) pgs_nil)))) (fun _ _ _ _ _ => pts_nil) (fun _ _ _ _ _ => (pe_tup (pa_cons (pv 8) (pa_cons (pv 9) pa_nil))))) pa_nil)))))))) (pss_one (ps_ret pe_bl)) pss_nil) (pss_cons (ps_if (PW.pt (pw_or (pt_not (pt_val (pe_call G_l_cut_right (hr.mono (by decide)) (by rfl) T.g_l_cut_right T.F_l_cut_right.kp b_l_cut_right .nil pass0 (pa_cons (pv 7) (pa_cons (pv 4) (pa_cons (pv 2) pa_nil)))))) (pw_or (PW.pt (pw_and (pt_cmpR op_lt (pv 2) pe_int (nomark _)) (pw_and1 (pt_cmpR (op_neDK (K := K) hr.units) (pv 7) (pe_call G_l_grouped (hr.mono (by decide)) (by rfl) T.g_l_grouped T.F_l_grouped.kp b_l_grouped .nil pass0 (pa_cons (pv 4) (pa_cons (pv 2) pa_nil))) (nomark _))))) (pw_or1 (pt_cmpR (op_neDK (K := K) hr.units) (pv 5) (pv 4) (nomark _)))))) (pss_one (ps_ret pe_bl)) pss_nil) (pss_cons (ps_expr (pe_bm0K (K := K) PySem.F.plainAttrs_list PySem.F.slot_list_clear PySem.F.type_list_clear mt_clear (pv 6))) (pss_one (ps_if (pt_not (pt_val (pe_call G_l_alike (hr.mono (by decide)) (by rfl) T.g_l_alike T.F_l_alike.kp b_l_alike .nil pass0 (pa_cons (pe_callK0 G_parts_of (hr.mono (by decide)) (by rfl) T.g_parts_of T.F_parts_of.kp (kb_parts_of_0 T.F_parts_of) pass0 (pk_cons (pv 2) (pk_cons (pv 5) pk_nil))) (pa_cons (pv 7) pa_nil))))) (pss_one (ps_ret pe_bl)) pss_nil)))))))))) (pss_one (ps_ret (pe_and (pe_cmpR (op_eqDK (K := K) hr.units) (pe_call G_parts_of (hr.mono (by decide)) (by rfl) T.g_parts_of T.F_parts_of.kp b_parts_of .nil pass0 (pa_cons (pe_lst pa_nil) (pa_cons pe_int pa_nil))) (pe_lst (pa_cons (pe_tup (pa_cons pe_int (pa_cons (pe_op op_shl pe_int pe_int) pa_nil))) pa_nil)) (nomark _)) (pe_one (pe_cmpR (op_eqDK (K := K) hr.units) (pe_call G_parts_of (hr.mono (by decide)) (by rfl) T.g_parts_of T.F_parts_of.kp b_parts_of .nil pass0 (pa_cons (pe_lst (pa_cons pe_str (pa_cons pe_str pa_nil))) (pa_cons pe_int pa_nil))) (pe_lst (pa_cons (pe_tup (pa_cons pe_int (pa_cons pe_int pa_nil))) (pa_cons (pe_tup (pa_cons pe_int (pa_cons pe_int pa_nil))) pa_nil))) (nomark _))))))))), ?_⟩
    refine p_seq ?_
    refine p_asg ?_
    refine ⟨_, rfl, a_, ns_, rfl, hS_, hl_, fun B C b F0 H0 hS0 hB hb_ => ?_⟩
    refine p_name ?_
    refine p_nx ?_
    obtain ⟨b_, hm⟩ := hlaw b hb_
    have hQ : ∀ F' H', Gr (Bc B C) F0 H0 F' H' → BagAt F' H' B C b_ → Q (.bl true) H' := fun _ H' _ _ => hQ_ H'
    have g0 : Gr (Bc B C) F0 H0 F0 H0 := Gr.refl hS0
    unfold m_law at hm
    refine p_seq ?_
    refine p_asg ?_
    obtain ⟨r1, b2, hb3, hm⟩ := bnd2 hm
    refine ⟨(V.ref B), rfl, F0, B, C, b, r1, b2, rfl, g0.fh, hB, hb3, fun F4 H5 g6 hB7 => ?_⟩
    have g9 := Gr.trans g0 g6
    refine p_name ?_
    refine p_nx ?_
    refine p_seq ?_
    refine p_for ?_
    refine ⟨_, rfl, (by decide), (by decide), ?_⟩
    obtain ⟨l11, ht12, hm⟩ := bndL1 hm
    refine for_range (lo := (0 : Int)) (n := (2 : Nat)) (fun i σ' H' => ∃ (F' : Hp) (o_y_k : Option V) (o_y_some_here : Option V) (o_y_handed : Option V) (o_y_told : Option V) (o_y_due : Option V) (b : Bag), σ' = [(some (V.ref a_)), (some (V.ref B)), (some (V.int r1)), o_y_k, o_y_some_here, o_y_handed, o_y_told, o_y_due, none, none] ∧ Gr (Bc B C) F0 H0 F' H' ∧ Same F4 F' ∧ BagAt F' H' B C b ∧ m_law_l1 r1 ((rangeL (0 : Int) 2).drop i) b = some l11) ?_ ?_ ?_
    · exact ⟨F4, none, none, none, none, none, b2, rfl, g9, (Same.refl _), hB7, ht12⟩
    · intro i13 σ' H15 hx14 hP
      obtain ⟨F17, o_y_k18, o_y_some_here19, o_y_handed20, o_y_told21, o_y_due22, b23, rfl, g24, sm25, hB26, hm27⟩ := hP
      have he29 := rangeL_at (lo := (0 : Int)) hx14
      rw [drop_at he29, m_law_l1.eq_2] at hm27
      refine p_name ?_
      refine p_seq ?_
      refine p_asg ?_
      obtain ⟨r30, b31, hb32, hm27⟩ := bnd2 hm27
      refine ⟨(V.ref B), rfl, (V.int r1), rfl, F17, B, C, b23, r1, (64 : Int), r30, b31, rfl, g24.fh, hB26, hb32, fun p37 ws38 F33 H34 g35 hB36 np39 h40 nF41 hl42 hA43 => ?_⟩
      have nb44 := hB26.nb np39
      have n045 := g24.none0 np39
      have g46 := Gr.trans g24 g35
      have ow47 : Ow H0 F33 H34 p37 ws38 := ⟨h40, nF41, n045⟩
      refine p_name ?_
      refine p_nx ?_
      refine p_seq ?_
      refine p_asg ?_
      refine ⟨(V.ref p37), rfl, p37, ws38, rfl, (.inl ow47.sq), fun p48 np49 => ?_⟩
      have hA50 := hA43
      have ne51 := ow47.ne np49
      have nb52 := hB36.nb np49
      have g53 := g46.own (o := (.lst ws38)) np49
      have ow54 := ow47.own (o := (.lst ws38)) np49
      have hB55 := hB36.own (o := (.lst ws38)) np49
      have ow56 : Ow H0 F33 (upd H34 p48 (.lst ws38)) p48 ws38 := Ow.new g46 np49
      refine p_name ?_
      refine p_nx ?_
      refine p_seq ?_
      refine p_asg ?_
      obtain ⟨r57, hb58, hm27⟩ := bnd hm27
      refine ⟨(V.ref p48), rfl, (V.int r1), rfl, F33, p48, ws38, r30, r1, r57, rfl, g53.fh, ow56.sq, hl42, hA50, id, hb58, fun p62 ws63 F59 H60 g61 np64 h65 nF66 hl67 hA68 => ?_⟩
      have ne69 := ow54.ne np64
      have ne70 := ow56.ne np64
      have nb71 := hB55.nb np64
      have n072 := g53.none0 np64
      have g73 := Gr.trans g53 (Gr.of0 g61)
      have ow74 := ow54.gr0 g61
      have ow75 := ow56.gr0 g61
      have hB76 := hB55.gr0 g61
      have ow77 : Ow H0 F59 H60 p62 ws63 := ⟨h65, nF66, n072⟩
      refine p_name ?_
      refine p_nx ?_
      refine p_seq ?_
      refine p_asg ?_
      refine ⟨(V.ref p62), rfl, p62, ws63, rfl, (.inl ow77.sq), fun p78 np79 => ?_⟩
      have hA80 := hA68
      have ne81 := ow74.ne np79
      have ne82 := ow75.ne np79
      have ne83 := ow77.ne np79
      have nb84 := hB76.nb np79
      have g85 := g73.own (o := (.lst ws63)) np79
      have ow86 := ow74.own (o := (.lst ws63)) np79
      have ow87 := ow75.own (o := (.lst ws63)) np79
      have ow88 := ow77.own (o := (.lst ws63)) np79
      have hB89 := hB76.own (o := (.lst ws63)) np79
      have ow90 : Ow H0 F59 (upd H60 p78 (.lst ws63)) p78 ws63 := Ow.new g73 np79
      refine p_name ?_
      refine p_nx ?_
      refine p_seq ?_
      refine p_if ?_
      have rH91 : R K (upd H60 p78 (.lst ws63)) (V.ref p62) r57 := (R.mkl ow88.sq hl67 (RpA.up hA68 g85.fh))
      refine ⟨(V.ref p62), rfl, _, (.ty "list"), _, (.type "list"), true, rfl, (.ty _), (Rp.ty rH91), (kit_ty (a := "list") (by decide +kernel)), _, rfl, ?_⟩
      obtain ⟨c92, hc93, hm27⟩ := bnd hm27
      refine orJT (M := M0) (F := F59) (c := c92) (P := fun _ _ => True) (fun ha => ?_) (fun ha => ⟨(sjoin (ifT ha hc93)).symm, trivial⟩) g85.fh ?_
      · intro Q95 q96
        have hc93 := ifF ha hc93
        refine ⟨(V.ref p62), rfl, (V.ref p78), rfl, p78, rfl, ⟨_, ow90.sq⟩, fun D97 nD98 => ?_⟩
        have ne99 := ow86.ne nD98
        have ne100 := ow87.ne nD98
        have ne101 := ow88.ne nD98
        have ne102 := ow90.ne nD98
        have nb103 := hB89.nb nD98
        have g104 := g85.own (o := (.lst [])) nD98
        have g105 := (Gr.refl (M := M0) g85.fh).own (o := (.lst [])) nD98
        have ow106 := ow86.own (o := (.lst [])) nD98
        have ow107 := ow87.own (o := (.lst [])) nD98
        have ow108 := ow88.own (o := (.lst [])) nD98
        have ow109 := ow90.own (o := (.lst [])) nD98
        have hB110 := hB89.own (o := (.lst [])) nD98
        have ow111 : Ow H0 F59 (upd (upd H60 p78 (.lst ws63)) D97 (.lst [])) D97 [] := Ow.new g85 nD98
        refine lc_list (K := K) (a := p78) (xs := ws63) (fun i H' => ∃ (F' : Hp) (acc : List V) (ds : List (Int × Int)), Gr (Bc B C) F0 H0 F' H' ∧ Gr M0 F59 (upd H60 p78 (.lst ws63)) F' H' ∧ Same F59 F' ∧ Ow H0 F' H' D97 acc ∧ RL K F' acc ds ∧ acc.length ≤ i ∧ Ow H0 F' H' p37 ws38 ∧ Ow H0 F' H' p48 ws38 ∧ Ow H0 F' H' p62 ws63 ∧ Ow H0 F' H' p78 ws63 ∧ BagAt F' H' B C b31 ∧ ds ++ m_law_c2  (r57.drop i) = (m_law_c2  r57)) ?_ ?_ ?_ ?_
        · exact ⟨F59, [], [], g104, g105, Same.refl _, ow111, RpA.nil, Nat.le_refl _, ow106, ow107, ow108, ow109, hB110, rfl⟩
        · intro i H' _ hP
          obtain ⟨F113, acc114, ds115, g0116, g1117, sm118, owD119, hA120, hi121, ow0122, ow1123, ow2124, ow3125, hB126, hr127⟩ := hP
          exact ow3125.sq
        · intro i129 xv128 H131 hx130 hP
          obtain ⟨F132, acc133, ds134, g0135, g1136, sm137, owD138, hA139, hi140, ow0141, ow1142, ow2143, ow3144, hB145, hr146⟩ := hP
          obtain ⟨e147, he148, r149⟩ := RL.get (hA80.up sm137) hx130
          rw [drop_at he148, m_law_c2.eq_2] at hr146
          obtain ⟨p150, v153, v154, ev151, hS152, r155, r156⟩ := R.p2_v r149
          obtain rfl := R.int_v r155
          obtain rfl := R.int_v r156
          refine ⟨p150, [(V.int e147.1), (V.int e147.2)], ev151, (SqT_mono g0135.fh hS152), rfl, (V.int e147.1), [(V.int e147.2)], rfl, (V.int e147.2), [], rfl, rfl, rfl, (p_yes ?_)⟩
          refine ⟨(V.int e147.1), rfl, (V.int e147.2), rfl, (by show 2 ≤ sizeLine; decide), fun p157 np158 => ?_⟩
          have ne159 := ow0141.ne np158
          have ne160 := ow1142.ne np158
          have ne161 := ow2143.ne np158
          have ne162 := ow3144.ne np158
          have ne163 := owD138.ne np158
          have nb164 := hB145.nb np158
          have sm165 := same_new (o := (.tup [(V.int e147.1), (V.int e147.2)])) (g0135.noneF np158)
          have g166 := g0135.frz (o := (.tup [(V.int e147.1), (V.int e147.2)])) np158
          have g167 := g1136.frz (o := (.tup [(V.int e147.1), (V.int e147.2)])) np158
          have ow168 := ow0141.frz (o := (.tup [(V.int e147.1), (V.int e147.2)])) np158
          have ow169 := ow1142.frz (o := (.tup [(V.int e147.1), (V.int e147.2)])) np158
          have ow170 := ow2143.frz (o := (.tup [(V.int e147.1), (V.int e147.2)])) np158
          have ow171 := ow3144.frz (o := (.tup [(V.int e147.1), (V.int e147.2)])) np158
          have ow172 := owD138.frz (o := (.tup [(V.int e147.1), (V.int e147.2)])) np158
          have hB173 := hB145.frz (o := (.tup [(V.int e147.1), (V.int e147.2)])) np158
          have r174 : R K (upd F132 p157 (.tup [(V.int e147.1), (V.int e147.2)])) (.ref p157) ((e147.1, e147.2) : (Int × Int)) := R.mk2 fzT (Rp.int e147.1) (Rp.int e147.2)
          have hA175 : RL K (upd F132 p157 (.tup [(V.int e147.1), (V.int e147.2)])) (acc133 ++ [(V.ref p157)]) (ds134 ++ [((e147.1, e147.2) : (Int × Int))]) := RL.snoc (hA139.up sm165) r174
          refine ⟨acc133, ow172.h, (lt_line hi140 (List.getElem?_eq_some_iff.mp hx130).1 hl67), ?_⟩
          have g176 := g166.put (o := (.lst (acc133 ++ [(V.ref p157)]))) ow172
          have g177 := Gr.mut (o := (.lst (acc133 ++ [(V.ref p157)]))) g167 ow172.nF (.inl (Gr.none0 (Gr.refl (M := M0) g85.fh) nD98))
          have ow178 := ow168.other (o := (.lst (acc133 ++ [(V.ref p157)]))) ne99
          have ow179 := ow169.other (o := (.lst (acc133 ++ [(V.ref p157)]))) ne100
          have ow180 := ow170.other (o := (.lst (acc133 ++ [(V.ref p157)]))) ne101
          have ow181 := ow171.other (o := (.lst (acc133 ++ [(V.ref p157)]))) ne102
          have hB182 := hB173.other (o := (.lst (acc133 ++ [(V.ref p157)]))) nb103
          have ow183 := ow172.put (us := (acc133 ++ [(V.ref p157)]))
          exact ⟨(upd F132 p157 (.tup [(V.int e147.1), (V.int e147.2)])), (acc133 ++ [(V.ref p157)]), (ds134 ++ [(e147.1, e147.2)]), g176, g177, (Same.trans sm137 sm165), ow183, hA175, (by rw [List.length_append]; exact Nat.succ_le_succ hi140), ow178, ow179, ow180, ow181, hB182, (snoc_rest hr146)⟩
        intro H184 hP
        obtain ⟨F185, acc186, ds187, g0189, g1190, sm191, owD192, hA193, hi194, ow0195, ow1196, ow2197, ow3198, hB199, hr200⟩ := hP
        rw [drop_end (RL.len hA80)] at hr200
        rw [m_law_c2.eq_1, List.append_nil] at hr200
        obtain rfl := hr200
        have hl201 : acc186.length ≤ sizeLine := Nat.le_trans hi194 hl67
        have rH202 : R K H184 (V.ref p62) r57 := (R.mkl ow2197.sq hl67 (RpA.up (hA68.up sm191) g0189.fh))
        have rH203 : R K H184 (V.ref D97) (m_law_c2  r57) := (R.mkl owD192.sq hl201 (RpA.up hA193 g0189.fh))
        obtain ⟨r204, hb206, hc93⟩ := bnd hc93
        obtain ⟨hxy205, rfl⟩ := alike_ok hb206
        refine ⟨(V.ref p62), (V.ref D97), _, rfl, rH202, (R.of_eq hxy205 rH203), (Nat.le_trans (Dep.le (r57 : (List (Int × Int)))) (by decide)), fun F207 H208 g209 => ?_⟩
        have g210 := Gr.apart g0189 g209
        have g211 := Gr.apart g1190 g209
        have ow212 := ow0195.apart g209
        have ow213 := ow1196.apart g209
        have ow214 := ow2197.apart g209
        have ow215 := ow3198.apart g209
        have ow216 := owD192.apart g209
        have hB217 := hB199.apart g209
        obtain rfl := sjoin hc93
        refine ⟨_, rfl, (q96 _ _ g211 trivial)⟩
      intro F218 H219 g220 hB221
      have g222 := Gr.trans g85 (Gr.of0 g220)
      have ow223 := ow86.gr0 g220
      have ow224 := ow87.gr0 g220
      have ow225 := ow88.gr0 g220
      have ow226 := ow90.gr0 g220
      have hB227 := hB89.gr0 g220
      refine (iteB (fun hc => ?_) (fun hc => ?_))
      · have hm27 := ifT hc hm27
        refine p_ret ?_
        obtain rfl := sjoin hm27
        have hm := bret hm
        obtain ⟨he228, rfl⟩ := pjoin hm
        exact absurd he228 (by decide)
      · have hm27 := ifF hc hm27
        refine p_next ?_
        refine p_nx ?_
        refine p_seq ?_
        refine p_if ?_
        obtain ⟨r229, hb230, hm27⟩ := bnd hm27
        refine ⟨(V.ref p78), rfl, (V.ref p37), rfl, (V.int r1), rfl, p78, ws63, r57, p37, ws38, r30, r1, r229, rfl, ow226.sq, hl67, (RpA.up (hA80.up g220.ff) g222.fh), id, ow223.sq, hl42, (RpA.up (hA43.up (Same.trans g61.ff g220.ff)) g222.fh), id, hb230, fun F231 H232 g233 => ?_⟩
        have g235 := Gr.apart g222 g233
        have ow236 := ow223.apart g233
        have ow237 := ow224.apart g233
        have ow238 := ow225.apart g233
        have ow239 := ow226.apart g233
        have hB240 := hB227.apart g233
        refine ⟨_, rfl, ?_⟩
        obtain ⟨c241, hc242, hm27⟩ := bnd hm27
        refine orJT (M := M0) (F := F218) (c := c241) (P := fun _ _ => True) (fun ha => ?_) (fun ha => ⟨(sjoin (ifT ha hc242)).symm, trivial⟩) g235.fh ?_
        · intro Q244 q245
          have hc242 := ifF ha hc242
          refine ⟨(V.int r1), rfl, _, _, rfl, rfl, _, rfl, ?_⟩
          obtain ⟨c246, hc247, hc242⟩ := bnd hc242
          refine andJT (M := M0) (F := F218) (c := c246) (P := fun _ _ => True) (fun ha => ?_) (fun ha => ⟨(sjoin (ifF ha hc247)).symm, trivial⟩) g235.fh ?_
          · intro Q249 q250
            have hc247 := ifT ha hc247
            obtain ⟨r251, hb252, hc247⟩ := bnd hc247
            refine ⟨(V.ref p78), rfl, (V.ref p37), rfl, (V.int r1), rfl, F218, p37, ws38, r30, r1, r251, rfl, g235.fh, ow236.sq, hl42, (hA43.up (Same.trans g61.ff g220.ff)), id, hb252, fun p256 ws257 F253 H254 g255 np258 h259 nF260 hl261 hA262 => ?_⟩
            have ne263 := ow236.ne np258
            have ne264 := ow237.ne np258
            have ne265 := ow238.ne np258
            have ne266 := ow239.ne np258
            have nb267 := hB240.nb np258
            have n0268 := g235.none0 np258
            have g269 := Gr.trans g235 (Gr.of0 g255)
            have g270 := Gr.trans (Gr.refl (M := M0) g235.fh) g255
            have g271 := Gr.trans (Gr.refl (M := M0) g235.fh) g255
            have ow272 := ow236.gr0 g255
            have ow273 := ow237.gr0 g255
            have ow274 := ow238.gr0 g255
            have ow275 := ow239.gr0 g255
            have hB276 := hB240.gr0 g255
            have ow277 : Ow H0 F253 H254 p256 ws257 := ⟨h259, nF260, n0268⟩
            have rH278 : R K H254 (V.ref p78) r57 := (R.mkl ow275.sq hl67 (RpA.up (hA80.up (Same.trans g220.ff g255.ff)) g269.fh))
            have rH279 : R K H254 (V.ref p256) r251 := (R.mkl ow277.sq hl261 (RpA.up hA262 g269.fh))
            obtain rfl := sjoin hc247
            refine ⟨_, _, (Rp.dp _ _ rH278), (Rp.dp _ _ rH279), (R.shaped rH278), (R.shaped rH279), _, rfl, (q250 _ _ g271 trivial)⟩
          intro F280 H281 g282 hB283
          have g284 := Gr.trans g235 (Gr.of0 g282)
          have g285 := Gr.trans (Gr.refl (M := M0) g235.fh) g282
          have ow286 := ow236.gr0 g282
          have ow287 := ow237.gr0 g282
          have ow288 := ow238.gr0 g282
          have ow289 := ow239.gr0 g282
          have hB290 := hB240.gr0 g282
          refine orJT (M := M0) (F := F280) (c := (c246 || (!eqD r30 r30))) (P := fun _ _ => True) (fun ha => ?_) (fun ha => ⟨(orTt ha), trivial⟩) g284.fh ?_
          · intro Q294 q295
            have rH296 : R K H281 (V.ref p48) r30 := (R.mkl ow287.sq hl42 (RpA.up (hA50.up (Same.trans g61.ff (Same.trans g220.ff g282.ff))) g284.fh))
            have rH297 : R K H281 (V.ref p37) r30 := (R.mkl ow286.sq hl42 (RpA.up (hA43.up (Same.trans g61.ff (Same.trans g220.ff g282.ff))) g284.fh))
            refine ⟨(V.ref p48), rfl, (V.ref p37), rfl, _, _, (Rp.dp _ _ rH296), (Rp.dp _ _ rH297), (R.shaped rH296), (R.shaped rH297), _, rfl, (qOb ha (q295 _ _ (Gr.refl (M := M0) g284.fh) trivial))⟩
          intro F298 H299 g300 hB301
          have g302 := Gr.trans g284 (Gr.of0 g300)
          have g303 := Gr.trans g285 g300
          have ow304 := ow286.gr0 g300
          have ow305 := ow287.gr0 g300
          have ow306 := ow288.gr0 g300
          have ow307 := ow289.gr0 g300
          have hB308 := hB290.gr0 g300
          obtain rfl := sjoin hc242
          exact (q245 _ _ g303 trivial)
        intro F309 H310 g311 hB312
        have g313 := Gr.trans g235 (Gr.of0 g311)
        have ow314 := ow236.gr0 g311
        have ow315 := ow237.gr0 g311
        have ow316 := ow238.gr0 g311
        have ow317 := ow239.gr0 g311
        have hB318 := hB240.gr0 g311
        refine (iteB (fun hc => ?_) (fun hc => ?_))
        · have hm27 := ifT hc hm27
          refine p_ret ?_
          obtain rfl := sjoin hm27
          have hm := bret hm
          obtain ⟨he319, rfl⟩ := pjoin hm
          exact absurd he319 (by decide)
        · have hm27 := ifF hc hm27
          refine p_next ?_
          refine p_nx ?_
          refine p_seq ?_
          refine p_drop ?_
          refine ⟨(V.ref p62), rfl, (.inl ⟨rfl, _, ow316.sq⟩), p62, _, rfl, rfl, ow316.h, ?_⟩
          have g320 := g313.put (o := (.lst [])) ow316
          have ow321 := ow314.other (o := (.lst [])) ne69
          have ow322 := ow315.other (o := (.lst [])) ne70
          have ow323 := ow317.other (o := (.lst [])) (Ne.symm ne83)
          have hB324 := hB318.other (o := (.lst [])) nb71
          have ow325 := ow316.put (us := [])
          refine p_nx ?_
          refine p_if ?_
          obtain ⟨r326, hb327, hm27⟩ := bnd hm27
          refine ⟨(V.int r1), rfl, (V.ref p48), rfl, F309, p48, ws38, r30, r1, r326, rfl, g320.fh, ow322.sq, hl42, (hA50.up (Same.trans g61.ff (Same.trans g220.ff g311.ff))), id, hb327, fun p331 ws332 F328 H329 g330 np333 h334 nF335 hl336 hA337 => ?_⟩
          have ne338 := ow321.ne np333
          have ne339 := ow322.ne np333
          have ne340 := ow325.ne np333
          have ne341 := ow323.ne np333
          have nb342 := hB324.nb np333
          have n0343 := g320.none0 np333
          have g344 := Gr.trans g320 (Gr.of0 g330)
          have ow345 := ow321.gr0 g330
          have ow346 := ow322.gr0 g330
          have ow347 := ow325.gr0 g330
          have ow348 := ow323.gr0 g330
          have hB349 := hB324.gr0 g330
          have ow350 : Ow H0 F328 H329 p331 ws332 := ⟨h334, nF335, n0343⟩
          have rH351 : R K H329 (V.ref p331) r326 := (R.mkl ow350.sq hl336 (RpA.up hA337 g344.fh))
          have rH352 : R K H329 (V.ref p78) r57 := (R.mkl ow348.sq hl67 (RpA.up (hA80.up (Same.trans g220.ff (Same.trans g311.ff g330.ff))) g344.fh))
          obtain ⟨r353, hb355, hm27⟩ := bnd hm27
          obtain ⟨hxy354, rfl⟩ := alike_ok hb355
          refine ⟨(V.ref p78), rfl, (V.ref p331), (V.ref p78), _, rfl, rH351, (R.of_eq hxy354 rH352), (Nat.le_trans (Dep.le (r326 : (List (Int × Int)))) (by decide)), fun F356 H357 g358 => ?_⟩
          have g359 := Gr.apart g344 g358
          have ow360 := ow345.apart g358
          have ow361 := ow346.apart g358
          have ow362 := ow347.apart g358
          have ow363 := ow348.apart g358
          have ow364 := ow350.apart g358
          have hB365 := hB349.apart g358
          refine ⟨_, rfl, (iteB (fun hc => ?_) (fun hc => ?_))⟩
          · have hm27 := ifT hc hm27
            refine p_ret ?_
            obtain rfl := sjoin hm27
            have hm := bret hm
            obtain ⟨he366, rfl⟩ := pjoin hm
            exact absurd he366 (by decide)
          · have hm27 := ifF hc hm27
            refine p_next ?_
            exact ⟨F328, (some (V.int ((0 : Int) + ((i13 : Nat) : Int)))), (some (V.ref p37)), (some (V.ref p48)), (some (V.ref p62)), (some (V.ref p78)), b31, rfl, g359, (Same.trans sm25 (Same.trans g35.ff (Same.trans g61.ff (Same.trans g220.ff (Same.trans g311.ff g330.ff))))), hB365, hm27⟩
    intro σ367 H368 hP
    obtain ⟨F369, o_y_k370, o_y_some_here371, o_y_handed372, o_y_told373, o_y_due374, b375, rfl, g376, sm377, hB378, hm379⟩ := hP
    rw [drop_end (rangeL_len _ _).symm, m_law_l1.eq_1] at hm379
    obtain rfl := sjoin hm379
    have hm := bgo1 hm
    refine p_nx ?_
    refine p_ret ?_
    refine ⟨(by show 0 ≤ sizeLine; decide), fun p380 np381 => ?_⟩
    have nb382 := hB378.nb np381
    have g383 := g376.own (o := (.lst [])) np381
    have hB384 := hB378.own (o := (.lst [])) np381
    have ow385 : Ow H0 F369 (upd H368 p380 (.lst [])) p380 [] := Ow.new g376 np381
    obtain ⟨r387, hb388, hm⟩ := bnd hm
    refine ⟨F369, p380, [], ([] : (List Str)), (30 : Int), r387, rfl, g383.fh, ow385.sq, (by show 0 ≤ sizeLine; decide), RpA.nil, id, hb388, fun p392 ws393 F389 H390 g391 np394 h395 nF396 hl397 hA398 => ?_⟩
    have ne399 := ow385.ne np394
    have nb400 := hB384.nb np394
    have n0401 := g383.none0 np394
    have g402 := Gr.trans g383 (Gr.of0 g391)
    have ow403 := ow385.gr0 g391
    have hB404 := hB384.gr0 g391
    have ow405 : Ow H0 F389 H390 p392 ws393 := ⟨h395, nF396, n0401⟩
    obtain ⟨t406, hb407, hm⟩ := bnd hm
    obtain ⟨hk408, rfl⟩ := shlI_ok hb407
    refine ⟨_, _, rfl, rfl, hk408, (by show 2 ≤ sizeLine; decide), fun p409 np410 => ?_⟩
    have ne411 := ow403.ne np410
    have ne412 := ow405.ne np410
    have nb413 := hB404.nb np410
    have sm414 := same_new (o := (.tup [(V.int (0 : Int)), (V.int ((1 : Int) * 2 ^ ((30 : Int)).toNat))])) (g402.noneF np410)
    have g415 := g402.frz (o := (.tup [(V.int (0 : Int)), (V.int ((1 : Int) * 2 ^ ((30 : Int)).toNat))])) np410
    have ow416 := ow403.frz (o := (.tup [(V.int (0 : Int)), (V.int ((1 : Int) * 2 ^ ((30 : Int)).toNat))])) np410
    have ow417 := ow405.frz (o := (.tup [(V.int (0 : Int)), (V.int ((1 : Int) * 2 ^ ((30 : Int)).toNat))])) np410
    have hB418 := hB404.frz (o := (.tup [(V.int (0 : Int)), (V.int ((1 : Int) * 2 ^ ((30 : Int)).toNat))])) np410
    have r419 : R K (upd F389 p409 (.tup [(V.int (0 : Int)), (V.int ((1 : Int) * 2 ^ ((30 : Int)).toNat))])) (.ref p409) (((0 : Int), ((1 : Int) * 2 ^ ((30 : Int)).toNat)) : (Int × Int)) := R.mk2 fzT (Rp.int (0 : Int)) (Rp.int ((1 : Int) * 2 ^ ((30 : Int)).toNat))
    refine ⟨(by show 1 ≤ sizeLine; decide), fun p420 np421 => ?_⟩
    have ne422 := ow416.ne np421
    have ne423 := ow417.ne np421
    have nb424 := hB418.nb np421
    have g425 := g415.own (o := (.lst [(V.ref p409)])) np421
    have ow426 := ow416.own (o := (.lst [(V.ref p409)])) np421
    have ow427 := ow417.own (o := (.lst [(V.ref p409)])) np421
    have hB428 := hB418.own (o := (.lst [(V.ref p409)])) np421
    have ow429 : Ow H0 (upd F389 p409 (.tup [(V.int (0 : Int)), (V.int ((1 : Int) * 2 ^ ((30 : Int)).toNat))])) (upd (upd H390 p409 (.tup [(V.int (0 : Int)), (V.int ((1 : Int) * 2 ^ ((30 : Int)).toNat))])) p420 (.lst [(V.ref p409)])) p420 [(V.ref p409)] := Ow.new g415 np421
    have hA430 : RL K (upd F389 p409 (.tup [(V.int (0 : Int)), (V.int ((1 : Int) * 2 ^ ((30 : Int)).toNat))])) [(V.ref p409)] ([((0 : Int), ((1 : Int) * 2 ^ ((30 : Int)).toNat))] : List (Int × Int)) := (RpA.cons r419 RpA.nil)
    have rH431 : R K (upd (upd H390 p409 (.tup [(V.int (0 : Int)), (V.int ((1 : Int) * 2 ^ ((30 : Int)).toNat))])) p420 (.lst [(V.ref p409)])) (V.ref p392) r387 := (R.mkl ow427.sq hl397 (RpA.up (hA398.up sm414) g425.fh))
    have rH432 : R K (upd (upd H390 p409 (.tup [(V.int (0 : Int)), (V.int ((1 : Int) * 2 ^ ((30 : Int)).toNat))])) p420 (.lst [(V.ref p409)])) (V.ref p420) ([((0 : Int), ((1 : Int) * 2 ^ ((30 : Int)).toNat))] : List (Int × Int)) := (R.mkl ow429.sq (by show 1 ≤ sizeLine; decide) (RpA.up hA430 g425.fh))
    refine ⟨_, _, (Rp.dp _ _ rH431), (Rp.dp _ _ rH432), (R.shaped rH431), (R.shaped rH432), _, rfl, ?_⟩
    obtain ⟨c433, hc434, hm⟩ := bnd hm
    refine andJV (M := M0) (F := (upd F389 p409 (.tup [(V.int (0 : Int)), (V.int ((1 : Int) * 2 ^ ((30 : Int)).toNat))]))) (c := c433) (P := fun _ _ => True) (fun ha => ?_) (fun ha => ⟨(sjoin (ifF ha hc434)).symm, trivial⟩) g425.fh ?_
    · intro Q436 q437
      have hc434 := ifT ha hc434
      refine ⟨(by show 2 ≤ sizeLine; decide), fun p438 np439 => ?_⟩
      have ne440 := ow426.ne np439
      have ne441 := ow427.ne np439
      have ne442 := ow429.ne np439
      have nb443 := hB428.nb np439
      have g444 := g425.own (o := (.lst [(V.str ("1" : Str)), (V.str ("1" : Str))])) np439
      have g445 := (Gr.refl (M := M0) g425.fh).own (o := (.lst [(V.str ("1" : Str)), (V.str ("1" : Str))])) np439
      have ow446 := ow426.own (o := (.lst [(V.str ("1" : Str)), (V.str ("1" : Str))])) np439
      have ow447 := ow427.own (o := (.lst [(V.str ("1" : Str)), (V.str ("1" : Str))])) np439
      have ow448 := ow429.own (o := (.lst [(V.str ("1" : Str)), (V.str ("1" : Str))])) np439
      have hB449 := hB428.own (o := (.lst [(V.str ("1" : Str)), (V.str ("1" : Str))])) np439
      have ow450 : Ow H0 (upd F389 p409 (.tup [(V.int (0 : Int)), (V.int ((1 : Int) * 2 ^ ((30 : Int)).toNat))])) (upd (upd (upd H390 p409 (.tup [(V.int (0 : Int)), (V.int ((1 : Int) * 2 ^ ((30 : Int)).toNat))])) p420 (.lst [(V.ref p409)])) p438 (.lst [(V.str ("1" : Str)), (V.str ("1" : Str))])) p438 [(V.str ("1" : Str)), (V.str ("1" : Str))] := Ow.new g425 np439
      have hA451 : RL K (upd F389 p409 (.tup [(V.int (0 : Int)), (V.int ((1 : Int) * 2 ^ ((30 : Int)).toNat))])) [(V.str ("1" : Str)), (V.str ("1" : Str))] ([("1" : Str), ("1" : Str)] : List Str) := (RpA.cons (Rp.str ("1" : Str) ⟨by decide +kernel, by decide +kernel⟩) (RpA.cons (Rp.str ("1" : Str) ⟨by decide +kernel, by decide +kernel⟩) RpA.nil))
      obtain ⟨r452, hb453, hc434⟩ := bnd hc434
      refine ⟨(upd F389 p409 (.tup [(V.int (0 : Int)), (V.int ((1 : Int) * 2 ^ ((30 : Int)).toNat))])), p438, [(V.str ("1" : Str)), (V.str ("1" : Str))], ([("1" : Str), ("1" : Str)] : List Str), (1 : Int), r452, rfl, g444.fh, ow450.sq, (by show 2 ≤ sizeLine; decide), hA451, id, hb453, fun p457 ws458 F454 H455 g456 np459 h460 nF461 hl462 hA463 => ?_⟩
      have ne464 := ow446.ne np459
      have ne465 := ow447.ne np459
      have ne466 := ow448.ne np459
      have ne467 := ow450.ne np459
      have nb468 := hB449.nb np459
      have n0469 := g444.none0 np459
      have g470 := Gr.trans g444 (Gr.of0 g456)
      have g471 := Gr.trans g445 g456
      have ow472 := ow446.gr0 g456
      have ow473 := ow447.gr0 g456
      have ow474 := ow448.gr0 g456
      have ow475 := ow450.gr0 g456
      have hB476 := hB449.gr0 g456
      have ow477 : Ow H0 F454 H455 p457 ws458 := ⟨h460, nF461, n0469⟩
      refine ⟨(by show 2 ≤ sizeLine; decide), fun p478 np479 => ?_⟩
      have ne480 := ow472.ne np479
      have ne481 := ow473.ne np479
      have ne482 := ow474.ne np479
      have ne483 := ow475.ne np479
      have ne484 := ow477.ne np479
      have nb485 := hB476.nb np479
      have sm486 := same_new (o := (.tup [(V.int (0 : Int)), (V.int (1 : Int))])) (g470.noneF np479)
      have g487 := g470.frz (o := (.tup [(V.int (0 : Int)), (V.int (1 : Int))])) np479
      have g488 := g471.frz (o := (.tup [(V.int (0 : Int)), (V.int (1 : Int))])) np479
      have ow489 := ow472.frz (o := (.tup [(V.int (0 : Int)), (V.int (1 : Int))])) np479
      have ow490 := ow473.frz (o := (.tup [(V.int (0 : Int)), (V.int (1 : Int))])) np479
      have ow491 := ow474.frz (o := (.tup [(V.int (0 : Int)), (V.int (1 : Int))])) np479
      have ow492 := ow475.frz (o := (.tup [(V.int (0 : Int)), (V.int (1 : Int))])) np479
      have ow493 := ow477.frz (o := (.tup [(V.int (0 : Int)), (V.int (1 : Int))])) np479
      have hB494 := hB476.frz (o := (.tup [(V.int (0 : Int)), (V.int (1 : Int))])) np479
      have r495 : R K (upd F454 p478 (.tup [(V.int (0 : Int)), (V.int (1 : Int))])) (.ref p478) (((0 : Int), (1 : Int)) : (Int × Int)) := R.mk2 fzT (Rp.int (0 : Int)) (Rp.int (1 : Int))
      refine ⟨(by show 2 ≤ sizeLine; decide), fun p496 np497 => ?_⟩
      have ne498 := ow489.ne np497
      have ne499 := ow490.ne np497
      have ne500 := ow491.ne np497
      have ne501 := ow492.ne np497
      have ne502 := ow493.ne np497
      have nb503 := hB494.nb np497
      have sm504 := same_new (o := (.tup [(V.int (1 : Int)), (V.int (2 : Int))])) (g487.noneF np497)
      have g505 := g487.frz (o := (.tup [(V.int (1 : Int)), (V.int (2 : Int))])) np497
      have g506 := g488.frz (o := (.tup [(V.int (1 : Int)), (V.int (2 : Int))])) np497
      have ow507 := ow489.frz (o := (.tup [(V.int (1 : Int)), (V.int (2 : Int))])) np497
      have ow508 := ow490.frz (o := (.tup [(V.int (1 : Int)), (V.int (2 : Int))])) np497
      have ow509 := ow491.frz (o := (.tup [(V.int (1 : Int)), (V.int (2 : Int))])) np497
      have ow510 := ow492.frz (o := (.tup [(V.int (1 : Int)), (V.int (2 : Int))])) np497
      have ow511 := ow493.frz (o := (.tup [(V.int (1 : Int)), (V.int (2 : Int))])) np497
      have hB512 := hB494.frz (o := (.tup [(V.int (1 : Int)), (V.int (2 : Int))])) np497
      have r513 : R K (upd (upd F454 p478 (.tup [(V.int (0 : Int)), (V.int (1 : Int))])) p496 (.tup [(V.int (1 : Int)), (V.int (2 : Int))])) (.ref p496) (((1 : Int), (2 : Int)) : (Int × Int)) := R.mk2 fzT (Rp.int (1 : Int)) (Rp.int (2 : Int))
      refine ⟨(by show 2 ≤ sizeLine; decide), fun p514 np515 => ?_⟩
      have ne516 := ow507.ne np515
      have ne517 := ow508.ne np515
      have ne518 := ow509.ne np515
      have ne519 := ow510.ne np515
      have ne520 := ow511.ne np515
      have nb521 := hB512.nb np515
      have g522 := g505.own (o := (.lst [(V.ref p478), (V.ref p496)])) np515
      have g523 := g506.own (o := (.lst [(V.ref p478), (V.ref p496)])) np515
      have ow524 := ow507.own (o := (.lst [(V.ref p478), (V.ref p496)])) np515
      have ow525 := ow508.own (o := (.lst [(V.ref p478), (V.ref p496)])) np515
      have ow526 := ow509.own (o := (.lst [(V.ref p478), (V.ref p496)])) np515
      have ow527 := ow510.own (o := (.lst [(V.ref p478), (V.ref p496)])) np515
      have ow528 := ow511.own (o := (.lst [(V.ref p478), (V.ref p496)])) np515
      have hB529 := hB512.own (o := (.lst [(V.ref p478), (V.ref p496)])) np515
      have ow530 : Ow H0 (upd (upd F454 p478 (.tup [(V.int (0 : Int)), (V.int (1 : Int))])) p496 (.tup [(V.int (1 : Int)), (V.int (2 : Int))])) (upd (upd (upd H455 p478 (.tup [(V.int (0 : Int)), (V.int (1 : Int))])) p496 (.tup [(V.int (1 : Int)), (V.int (2 : Int))])) p514 (.lst [(V.ref p478), (V.ref p496)])) p514 [(V.ref p478), (V.ref p496)] := Ow.new g505 np515
      have hA531 : RL K (upd (upd F454 p478 (.tup [(V.int (0 : Int)), (V.int (1 : Int))])) p496 (.tup [(V.int (1 : Int)), (V.int (2 : Int))])) [(V.ref p478), (V.ref p496)] ([((0 : Int), (1 : Int)), ((1 : Int), (2 : Int))] : List (Int × Int)) := (RpA.cons (r495.up sm504) (RpA.cons r513 RpA.nil))
      have rH532 : R K (upd (upd (upd H455 p478 (.tup [(V.int (0 : Int)), (V.int (1 : Int))])) p496 (.tup [(V.int (1 : Int)), (V.int (2 : Int))])) p514 (.lst [(V.ref p478), (V.ref p496)])) (V.ref p457) r452 := (R.mkl ow528.sq hl462 (RpA.up (hA463.up (Same.trans sm486 sm504)) g522.fh))
      have rH533 : R K (upd (upd (upd H455 p478 (.tup [(V.int (0 : Int)), (V.int (1 : Int))])) p496 (.tup [(V.int (1 : Int)), (V.int (2 : Int))])) p514 (.lst [(V.ref p478), (V.ref p496)])) (V.ref p514) ([((0 : Int), (1 : Int)), ((1 : Int), (2 : Int))] : List (Int × Int)) := (R.mkl ow530.sq (by show 2 ≤ sizeLine; decide) (RpA.up hA531 g522.fh))
      obtain rfl := sjoin hc434
      refine ⟨_, _, (Rp.dp _ _ rH532), (Rp.dp _ _ rH533), (R.shaped rH532), (R.shaped rH533), (q437 _ _ g523 trivial)⟩
    intro F534 H535 g536 hB537
    have g538 := Gr.trans g425 (Gr.of0 g536)
    have ow539 := ow426.gr0 g536
    have ow540 := ow427.gr0 g536
    have ow541 := ow429.gr0 g536
    have hB542 := hB428.gr0 g536
    obtain ⟨he543, rfl⟩ := pjoin hm
    exact (retQ (e := c433) he543 (hQ _ _ g538 hB542))
end K03
namespace K03
open PySem PySem.Spec PyProof.Rows L2 TL G
theorem skip0_le : ∀ (l : List Int) (k : Nat), skip0 l k ≤ k + l.length
  | [], k => Nat.le_refl _
  | x :: r, k => by
    rw [skip0]
    split
    · have := skip0_le r (k + 1)
      rw [List.length_cons]
      omega
    · omega
theorem draw_O {b : Bag} {n : Int} (hb : BOk b) (h0 : 0 < n) (h1 : n < 18446744073709551616) : O2 BOk (m_l_draw b n) (fun r => 0 ≤ r ∧ r < n) := by
  have hlog : n.natAbs.log2 < 9000 := by
    have hn : n.natAbs < 2 ^ 64 := by omega
    have hz : n.natAbs ≠ 0 := by omega
    have := (Nat.log2_lt hz).mpr hn
    omega
  have h63 := hb.len
  unfold m_l_draw
  rw [if_pos ⟨⟨h0, hlog⟩, hb.lo, hb.hi, by rw [sizeLine_eq]; omega⟩]
  cases e : b.cells[skip0 (b.cells.drop b.at_) b.at_]? with
  | some x => exact O2.ret ⟨hb.lo, hb.hi, by show (b.cells.set _ _).length ≤ 63; rw [List.length_set]; exact h63⟩ ⟨Int.emod_nonneg _ (by omega), Int.emod_lt_of_pos _ h0⟩
  | none =>
    have h2 : 0 ≤ stir b.seed (b.cnt + 1) := Int.emod_nonneg _ (by decide)
    have h3 : stir b.seed (b.cnt + 1) < 2147483647 := Int.emod_lt_of_pos _ (by decide)
    exact O2.ret ⟨h2, by show stir b.seed (b.cnt + 1) < 2147483648; omega, h63⟩ ⟨Int.emod_nonneg _ (by omega), Int.emod_lt_of_pos _ h0⟩
/-! ### what is drawn -/
theorem bits_c1 : ∀ (l : List Int) (b : Bag), BOk b → O2 BOk (m_l_bits_c1 l b) (fun ys => ys.length = l.length ∧ ∀ y ∈ ys, ∃ c, isB c = true ∧ tl y = [c])
  | [], b, hb => O2.ret hb ⟨rfl, fun _ h => nomatch h⟩
  | x :: l, b, hb => by
    unfold m_l_bits_c1
    refine O2.bind (draw_O hb (by decide) (by decide)) fun r b hb hr => ?_
    refine O2.bind1 (codeAt_O (P := fun c => isB c = true) hr.1 (by rw [tl01]; exact hr.2) fun _ h => Bits.mem01 h) fun c hc => ?_
    refine O2.bind (bits_c1 l b hb) fun ys b hb hy => ?_
    refine O2.ret hb ⟨congrArg Nat.succ hy.1, fun y h => ?_⟩
    rcases List.mem_cons.mp h with rfl | h
    · exact ⟨c, hc, rfl⟩
    · exact hy.2 y h
theorem flat_bits : ∀ ys : List Str, (∀ y ∈ ys, ∃ c, isB c = true ∧ tl y = [c]) → Bits (ys.map tl).flatten ∧ (ys.map tl).flatten.length = ys.length
  | [], _ => ⟨Bits.nil, rfl⟩
  | y :: ys, h => by
    obtain ⟨c, hc, e⟩ := h y (List.mem_cons_self ..)
    obtain ⟨h1, h2⟩ := flat_bits ys fun z hz => h z (List.mem_cons_of_mem _ hz)
    rw [List.map_cons, List.flatten_cons, e]
    exact ⟨(Bits.one hc).app h1, by rw [List.length_append, h2]; exact Nat.add_comm 1 _⟩
theorem bits_O {b : Bag} {n : Int} (hb : BOk b) (h0 : -1000 ≤ n) (h1 : n ≤ 1000) : O2 BOk (m_l_bits b n) (fun x => Bits (tl x) ∧ (tl x).length = n.toNat) := by
  unfold m_l_bits
  refine O2.bind (draw_O hb (by decide) (by decide)) fun r b hb hr => ?_
  refine O2.ite (fun _ => ?_) (fun _ => ?_)
  · refine O2.bind (draw_O hb (by decide) (by decide)) fun r b hb hr => ?_
    refine O2.bind1 (codeAt_O (P := fun c => isB c = true) hr.1 (by rw [tl01]; exact hr.2) fun _ h => Bits.mem01 h) fun c hc => ?_
    refine O2.bind (P := fun x => Bits (tl x) ∧ (tl x).length = n.toNat) ?_ fun x b hb hx => O2.ret hb hx
    refine O2.ite (fun hn => ?_) (fun hn => ?_)
    · have hn : 0 < n := of_decide_eq_true hn
      refine O2.bind1 (mulS_O (P := fun x => tl x = List.replicate n.toNat c) (by omega) (by omega) (by rw [tl_sgn]; show 1 * _ ≤ _; omega) (by rw [tl_mul, tl_sgn]; simp)) fun x hx => ?_
      refine O2.bind (draw_O hb (by decide) (by decide)) fun r b hb hr => ?_
      refine O2.bind1 (codeAt_O (P := fun c => isB c = true) hr.1 (by rw [tl01]; exact hr.2) fun _ h => Bits.mem01 h) fun d hd => ?_
      refine O2.bind1 (catS_O (P := fun y => tl y = List.replicate n.toNat c ++ [d]) (by rw [hx, tl_sgn, List.length_replicate]; show _ + 1 ≤ _; omega) (by rw [tl_append, hx, tl_sgn])) fun y hy => ?_
      refine O2.ret hb ?_
      have e1 : (1 : Int) = ((1 : Nat) : Int) := rfl
      have e2 : n + 1 = ((n.toNat + 1 : Nat) : Int) := by omega
      have hl : (List.replicate n.toNat c ++ [d]).length = n.toNat + 1 := by rw [List.length_append, List.length_replicate]; rfl
      rw [tl_cut, hy, e2, e1, HT.sIx_nat, HT.sIx_nat, hl]
      have hb2 : Bits (List.replicate n.toNat c ++ [d]) := Bits.app (fun z hz => by rw [(List.mem_replicate.mp hz).2]; exact hc) (Bits.one hd)
      refine ⟨(hb2.drop _).take _, ?_⟩
      rw [List.length_take, List.length_drop, hl]
      omega
    · have hn : ¬ 0 < n := of_decide_eq_false hn
      exact O2.ret hb ⟨by rw [tl_empty]; exact Bits.nil, by rw [tl_empty]; show 0 = _; omega⟩
  · refine O2.bind1 (rangeO1_O (P := fun l => l.length = n.toNat) (by omega) (by omega) rangeL_length) fun l hl => ?_
    refine O2.bind (bits_c1 l b hb) fun ys b hb hy => ?_
    obtain ⟨hf1, hf2⟩ := flat_bits ys hy.2
    have hsum : (ys.map fun y => (tl y).length).sum = ys.length := by rw [← hf2, List.length_flatten, List.map_map]; rfl
    refine O2.bind1 (joinS_O (P := fun x => Bits (tl x) ∧ (tl x).length = n.toNat) (by rw [hsum, tl_empty, hy.1, hl]; show _ + _ * 0 ≤ _; omega) ⟨by rw [tl_join0]; exact hf1, by rw [tl_join0, hf2, hy.1, hl]⟩) fun x hx => O2.ret hb hx
theorem size_O {b : Bag} (hb : BOk b) : O2 BOk (m_l_size b) (fun r => 1 ≤ r ∧ r ≤ 30) := by
  unfold m_l_size
  refine O2.bind (draw_O hb (by decide) (by decide)) fun r1 b hb h1 => ?_
  refine O2.bind (draw_O hb (by decide) (by decide)) fun r2 b hb h2 => ?_
  refine O2.bind (draw_O hb (by decide) (by decide)) fun r3 b hb h3 => ?_
  refine O2.bind (draw_O hb (by decide) (by decide)) fun r4 b hb h4 => ?_
  refine O2.bind1 (atI_O (P := fun r => 1 ≤ r ∧ r ≤ 30) h4.1 h4.2 fun x hx => ?_) fun x hx => O2.ret hb hx
  simp only [List.mem_cons, List.not_mem_nil, or_false] at hx
  omega
theorem turned_ok (x : Str) (h : Bits (tl x)) : ∃ bs, Bits bs ∧ bs.length ≤ 1 ∧ tl (dgetS [(("0" : Str), ("1" : Str)), (("1" : Str), ("0" : Str))] x ("" : Str)) = bs := by
  unfold dgetS
  by_cases h0 : ("0" : Str) = x
  · subst h0
    exact ⟨[49], Bits.one (by decide), Nat.le_refl _, by decide +kernel⟩
  · by_cases h1 : ("1" : Str) = x
    · subst h1
      exact ⟨[48], Bits.one (by decide), Nat.le_refl _, by decide +kernel⟩
    · refine ⟨[], Bits.nil, Nat.zero_le _, ?_⟩
      simp only [List.find?_cons, decide_eq_false h0, decide_eq_false h1, List.find?_nil]
      exact tl_empty
theorem one_O {b : Bag} {n : Int} {w : Nat} {some_ : List Str} (hb : BOk b) (hn : n = (w : Nat)) (hw : 1 ≤ w ∧ w ≤ 30) (hs : ∀ x ∈ some_, ∃ bs, Pat w bs x) (hl : some_.length ≤ 1000) : O2 BOk (m_l_one b n some_) (fun x => ∃ bs, Pat w bs x) := by
  subst hn
  unfold m_l_one
  refine O2.bind (draw_O hb (by omega) (by omega)) fun r1 b hb h1 => ?_
  refine O2.bind (bits_O hb (by omega) (by omega)) fun x b hb hx => ?_
  refine O2.bind (draw_O hb (by decide) (by decide)) fun r3 b hb h3 => ?_
  refine O2.bind (P := fun y => Bits (tl y) ∧ (tl y).length ≤ 60) ?_ fun y b hb hy => ?_
  · refine O2.ite (fun hc => ?_) (fun _ => O2.ret hb ⟨hx.1, by omega⟩)
    obtain ⟨hc1, hc2⟩ := Bool.and_eq_true_iff.mp hc
    have hne : some_ ≠ [] := fun e => by rw [e, eqD_refl] at hc1; exact absurd hc1 (by decide)
    have hpos : 0 < some_.length := List.length_pos_iff.mpr hne
    refine O2.bind (draw_O hb (by omega) (by omega)) fun r4 b hb h4 => ?_
    refine O2.bind1 (atI_O (P := fun x => ∃ bs, Pat w bs x) h4.1 h4.2 hs) fun z hz => ?_
    obtain ⟨bs, pz⟩ := hz
    refine O2.bind1 (O1.ret (P := fun u => tl u = bs) pz.strip) fun u hu => ?_
    have hul := pz.le
    refine O2.bind1 (O1.ret (P := fun t => Bits (tl t) ∧ (tl t).length ≤ 1) ?_) fun t ht => ?_
    · obtain ⟨cs, h5, h6, h7⟩ := turned_ok (cutS u (some (-(1 : Int))) none) (by rw [tl_cut, hu]; exact (pz.bits.drop _).take _)
      rw [h7]
      exact ⟨h5, h6⟩
    refine O2.bind (draw_O hb (by rw [len_tl]; omega) (by rw [len_tl, hu]; omega)) fun cut b hb hcut => ?_
    refine O2.bind (draw_O hb (by decide) (by decide)) fun r b hb hr => ?_
    refine O2.bind1 (codeAt_O (P := fun c => isB c = true) hr.1 (by rw [tl01]; exact hr.2) fun _ h => Bits.mem01 h) fun c hcb => ?_
    refine O2.bind1 (catS_O (P := fun y => tl y = bs ++ [c]) (by rw [hu, tl_sgn]; show _ + 1 ≤ _; omega) (by rw [tl_append, hu, tl_sgn])) fun y1 hy1 => ?_
    have hcl : (tl (cutS u none (some (-(1 : Int))))).length ≤ 30 := by rw [tl_cut, List.length_take, List.length_drop, hu]; omega
    refine O2.bind1 (catS_O (P := fun y => Bits (tl y) ∧ (tl y).length ≤ 31) (by omega) ?_) fun y2 hy2 => ?_
    · rw [tl_append, List.length_append]
      exact ⟨Bits.app (by rw [tl_cut, hu]; exact (pz.bits.drop _).take _) ht.1, by omega⟩
    refine O2.bind1 (atI_O (P := fun y => Bits (tl y) ∧ (tl y).length ≤ 60) h3.1 (of_decide_eq_true hc2) fun y hy => ?_) fun y hy => O2.ret hb hy
    simp only [List.mem_cons, List.not_mem_nil, or_false] at hy
    rcases hy with rfl | rfl | rfl
    · rw [tl_cut, hu, List.length_take, List.length_drop]
      exact ⟨(pz.bits.drop _).take _, by omega⟩
    · rw [hy1, List.length_append]
      exact ⟨pz.bits.app (Bits.one hcb), by show _ + 1 ≤ _; omega⟩
    · exact ⟨hy2.1, by omega⟩
  refine O2.bind (P := fun y => Bits (tl y) ∧ (tl y).length ≤ 200) ?_ fun z b hb hz => ?_
  · refine O2.ite (fun _ => ?_) (fun _ => O2.ret hb ⟨hy.1, by omega⟩)
    refine O2.bind (bits_O hb (by rw [len_tl]; omega) (by rw [len_tl]; omega)) fun u b hb hu => ?_
    refine O2.bind1 (catS_O (P := fun v => Bits (tl v) ∧ (tl v).length ≤ 200) (by omega) ?_) fun v hv => O2.ret hb hv
    rw [tl_append, List.length_append]
    exact ⟨hy.1.app hu.1, by rw [hu.2]; omega⟩
  refine O2.bind1 (O1.ret (P := fun u => Bits (tl u) ∧ (tl u).length ≤ w) ?_) fun u hu => ?_
  · rw [tl_cut, HT.sIx_nat, sIx_n, List.length_take]
    exact ⟨(hz.1.drop _).take _, by omega⟩
  refine O2.bind1 (mulS_O (P := fun v => tl v = if (tl u).length < w then [42] else []) (by unfold toI; split <;> omega) (by unfold toI; split <;> omega) (by rw [tlStar]; unfold toI; split <;> decide) ?_) fun v hv => ?_
  · rw [tl_mul, tlStar, len_tl]
    by_cases h : (tl u).length < w
    · rw [if_pos h, decide_eq_true (by omega)]; rfl
    · rw [if_neg h, decide_eq_false (by omega)]; rfl
  refine O2.bind1 (catS_O (P := fun y => ∃ bs, Pat w bs y) ?_ ⟨tl u, hu.1, hu.2, ?_⟩) fun y hy => O2.ret hb hy
  · rw [hv]
    split
    · show _ + 1 ≤ _; omega
    · show _ + 0 ≤ _; omega
  · rw [tl_append, hv]
    rfl
end K03
namespace K03
open PySem PySem.Spec PyProof.Rows L2 TL G
/-! ### spans -/
theorem span_l1 : ∀ (cs : List Nat) (n : Nat), m_span_of_l1 cs (n : Int) = some ((n * 2 ^ cs.length + wr cs : Nat) : Int)
  | [], n => by unfold m_span_of_l1; simp [wr]
  | c :: cs, n => by
    unfold m_span_of_l1
    rw [toI_sgn1, Option.bind_some]
    have e : (2 : Int) * (n : Int) + ((if c = 49 then 1 else 0 : Nat) : Int) = ((2 * n + (if c = 49 then 1 else 0) : Nat) : Int) := by omega
    rw [e, span_l1 cs, wr_cons, List.length_cons, Nat.pow_succ]
    generalize (if c = 49 then 1 else 0) = d
    generalize 2 ^ cs.length = p
    congr 2
    rw [Nat.add_mul, Nat.mul_comm 2 n, Nat.mul_assoc, Nat.mul_comm 2 p, Nat.add_assoc]
def spanL (w : Nat) (bs : List Nat) : Nat × Nat := (wr bs * 2 ^ (w - bs.length), (wr bs + 1) * 2 ^ (w - bs.length))
theorem span_spec {w : Nat} {bs : List Nat} {x : Str} (p : Pat w bs x) (hw : w ≤ 60) : m_span_of x (w : Nat) = some (((spanL w bs).1 : Int), ((spanL w bs).2 : Int)) := by
  unfold m_span_of m_bits_of
  rw [Option.bind_some]
  have e1 : ((partS x ("*" : Str)).a).cps.toList = bs := p.part
  have e2 : (((partS x ("*" : Str)).a).length : Int) = (bs.length : Nat) := by rw [len_tl, p.part]
  have hle := p.le
  rw [e1, e2, show (0 : Int) = ((0 : Nat) : Int) from rfl, span_l1, Option.bind_some, Nat.zero_mul, Nat.zero_add]
  have e3 : (w : Int) - (bs.length : Nat) = ((w - bs.length : Nat) : Int) := by omega
  have h1 := wr_lt bs
  have h2 : 2 ^ bs.length < 2 ^ 62 := Nat.pow_lt_pow_right (by decide) (by omega)
  have h3 : 2 ^ (w - bs.length) < 2 ^ 64 := pow_lt64 (by omega)
  rw [e3, shlI_one (by omega), Option.bind_some, mulI_nat (by omega) h3, Option.bind_some]
  have e4 : ((wr bs : Nat) : Int) + 1 = ((wr bs + 1 : Nat) : Int) := rfl
  rw [e4, mulI_nat (by omega) h3, Option.bind_some]
  rfl
theorem worth_l1 : ∀ (cs : List Nat) (n : Nat), m_l_worth_l1 cs (n : Int) = some ((n * 2 ^ cs.length + wr cs : Nat) : Int)
  | [], n => by unfold m_l_worth_l1; simp [wr]
  | c :: cs, n => by
    unfold m_l_worth_l1
    rw [toI_sgn1, Option.bind_some]
    have e : (n : Int) * 2 + ((if c = 49 then 1 else 0 : Nat) : Int) = ((2 * n + (if c = 49 then 1 else 0) : Nat) : Int) := by omega
    rw [e, worth_l1 cs, wr_cons, List.length_cons, Nat.pow_succ]
    generalize (if c = 49 then 1 else 0) = d
    generalize 2 ^ cs.length = p
    congr 2
    rw [Nat.add_mul, Nat.mul_comm 2 n, Nat.mul_assoc, Nat.mul_comm 2 p, Nat.add_assoc]
theorem worth_spec (x : Str) : m_l_worth x = some ((wr (tl x) : Nat) : Int) := by
  unfold m_l_worth
  rw [show x.cps.toList = tl x from rfl, show (0 : Int) = ((0 : Nat) : Int) from rfl, worth_l1, Nat.zero_mul, Nat.zero_add]
  rfl
theorem lspan_spec {w : Nat} {bs : List Nat} {x : Str} (p : Pat w bs x) (hw : w ≤ 60) : m_l_span x (w : Nat) = some (((spanL w bs).1 : Int), ((spanL w bs).2 : Int)) := by
  have hle := p.le
  have hs := p.strip
  unfold m_l_span
  rw [Option.bind_some]
  generalize Txt.stripChars x ("*" : Str) = y at hs
  rw [Option.bind_some, len_tl, hs]
  have e3 : (w : Int) - (bs.length : Nat) = ((w - bs.length : Nat) : Int) := by omega
  rw [e3]
  obtain ⟨z0, e0, h0⟩ := mulS_O (x := ("0" : Str)) (n := ((w - bs.length : Nat) : Int)) (P := fun z => tl z = List.replicate (w - bs.length) 48) (by omega) (by omega) (by rw [tl0]; show 1 * _ ≤ _; omega) (by rw [tl_mul, tl0]; simp)
  obtain ⟨z1, e1, h1⟩ := mulS_O (x := ("1" : Str)) (n := ((w - bs.length : Nat) : Int)) (P := fun z => tl z = List.replicate (w - bs.length) 49) (by omega) (by omega) (by rw [tl1]; show 1 * _ ≤ _; omega) (by rw [tl_mul, tl1]; simp)
  obtain ⟨y0, f0, g0⟩ := catS_O (a := y) (b := z0) (P := fun z => tl z = bs ++ List.replicate (w - bs.length) 48) (by rw [hs, h0, List.length_replicate]; omega) (by rw [tl_append, hs, h0])
  obtain ⟨y1, f1, g1⟩ := catS_O (a := y) (b := z1) (P := fun z => tl z = bs ++ List.replicate (w - bs.length) 49) (by rw [hs, h1, List.length_replicate]; omega) (by rw [tl_append, hs, h1])
  rw [e0, Option.bind_some, f0, Option.bind_some, worth_spec, Option.bind_some, e1, Option.bind_some, f1, Option.bind_some, worth_spec, Option.bind_some, g0, g1, wr_app, wr_app, wr_zeros, List.length_replicate, List.length_replicate]
  have h2 := wr_ones (w - bs.length)
  have h3 : ((wr bs * 2 ^ (w - bs.length) + wr (List.replicate (w - bs.length) 49) : Nat) : Int) + 1 = (((wr bs + 1) * 2 ^ (w - bs.length) : Nat) : Int) := by
    rw [Nat.add_mul, Nat.one_mul]
    omega
  rw [h3, Nat.add_zero]
  rfl
end K03
namespace K03
open PySem PySem.Spec PyProof.Rows L2 TL G
/-! ### spans of patterns, by their texts -/
def bsOf (x : Str) : List Nat := (tl x).takeWhile isB
theorem bsOf_pat {w : Nat} {bs : List Nat} {x : Str} (p : Pat w bs x) : bsOf x = bs := by
  unfold bsOf
  rw [p.eq, patL]
  have h : ∀ (l r : List Nat), Bits l → (∀ c, r.head? = some c → isB c = false) → (l ++ r).takeWhile isB = l := by
    intro l r hl hr
    induction l with
    | nil => exact tw0 r hr
    | cons c l ih =>
      show List.takeWhile isB (c :: (l ++ r)) = _
      rw [List.takeWhile_cons, if_pos (hl c (List.mem_cons_self ..)), ih fun d hd => hl d (List.mem_cons_of_mem _ hd)]
  refine h bs _ p.bits fun c hc => ?_
  split at hc
  · have : c = 42 := (Option.some.inj hc).symm
    subst this
    decide
  · cases hc
def spI (w : Nat) (x : Str) : Int × Int := (((spanL w (bsOf x)).1 : Int), ((spanL w (bsOf x)).2 : Int))
def IsPat (w : Nat) (x : Str) : Prop := ∃ bs, Pat w bs x
theorem spanI {w : Nat} {x : Str} (p : IsPat w x) (hw : w ≤ 60) : m_span_of x (w : Nat) = some (spI w x) := by
  obtain ⟨bs, p⟩ := p
  rw [span_spec p hw]
  unfold spI
  rw [bsOf_pat p]
theorem lspanI {w : Nat} {x : Str} (p : IsPat w x) (hw : w ≤ 60) : m_l_span x (w : Nat) = some (spI w x) := by
  obtain ⟨bs, p⟩ := p
  rw [lspan_spec p hw]
  unfold spI
  rw [bsOf_pat p]
theorem spI_ok {w : Nat} {x : Str} (p : IsPat w x) : 0 ≤ (spI w x).1 ∧ (spI w x).1 < (spI w x).2 ∧ (spI w x).2 ≤ ((2 ^ w : Nat) : Int) := by
  obtain ⟨bs, p⟩ := p
  unfold spI
  rw [bsOf_pat p]
  have h1 := wr_lt bs
  have hle := p.le
  have h2 : 2 ^ bs.length * 2 ^ (w - bs.length) = 2 ^ w := by rw [← Nat.pow_add]; congr 1; omega
  have h3 : (wr bs + 1) * 2 ^ (w - bs.length) ≤ 2 ^ bs.length * 2 ^ (w - bs.length) := Nat.mul_le_mul_right _ h1
  have h4 : 0 < 2 ^ (w - bs.length) := Nat.two_pow_pos _
  refine ⟨Int.natCast_nonneg _, ?_, ?_⟩
  · show ((wr bs * 2 ^ (w - bs.length) : Nat) : Int) < (((wr bs + 1) * 2 ^ (w - bs.length) : Nat) : Int)
    rw [Nat.add_mul, Nat.one_mul]
    omega
  · show (((wr bs + 1) * 2 ^ (w - bs.length) : Nat) : Int) ≤ _
    omega
/-! ### edges -/
def flat2 (S : List (Int × Int)) : List Int := S.flatMap fun s => [s.1, s.2]
theorem mem_flat2 {S : List (Int × Int)} {k : Int} : k ∈ flat2 S ↔ ∃ s ∈ S, k = s.1 ∨ k = s.2 := by
  unfold flat2
  simp [List.mem_flatMap]
theorem flat2_len (S : List (Int × Int)) : (flat2 S).length = 2 * S.length := by
  induction S with
  | nil => rfl
  | cons s S ih =>
    show ([s.1, s.2] ++ flat2 S).length = _
    rw [List.length_append, ih]
    show 2 + 2 * S.length = 2 * (S.length + 1)
    omega
theorem parts_l1 {w : Nat} (hw : w ≤ 60) : ∀ (ps : List Str) (ed : List Int), (∀ p ∈ ps, IsPat w p) → ed.length + 2 * ps.length ≤ 3000 → m_parts_of_l1 (w : Nat) ps ed = some (ed ++ flat2 (ps.map (spI w)))
  | [], ed, _, _ => by unfold m_parts_of_l1; simp [flat2]
  | p :: ps, ed, h, hl => by
    rw [List.length_cons] at hl
    unfold m_parts_of_l1
    rw [spanI (h p (List.mem_cons_self ..)) hw, Option.bind_some]
    have e : conL ed [(spI w p).1, (spI w p).2] = some (ed ++ [(spI w p).1, (spI w p).2]) := by
      unfold conL
      rw [if_pos (by rw [sizeLine_eq]; show _ + 2 ≤ _; omega)]
    rw [e, Option.bind_some, parts_l1 hw ps _ (fun q hq => h q (List.mem_cons_of_mem _ hq)) (by rw [List.length_append]; show _ + 2 + _ ≤ _; omega), List.append_assoc]
    rfl
/-- neighbours -/
def prsL : List Int → List (Int × Int)
  | x :: y :: r => (x, y) :: prsL (y :: r)
  | _ => []
theorem zip_prs : ∀ l : List Int, List.zip l (l.drop 1) = prsL l
  | [] => rfl
  | [_] => rfl
  | x :: y :: r => by
    show (x, y) :: List.zip (y :: r) r = _
    have := zip_prs (y :: r)
    exact congrArg _ this
def edgesOf (w : Nat) (S : List (Int × Int)) : List Int := ssort ([0, ((2 ^ w : Nat) : Int)] ++ flat2 S)
theorem parts_spec {w : Nat} {ps : List Str} (hw : w ≤ 60) (h : ∀ p ∈ ps, IsPat w p) (hl : ps.length ≤ 1000) : m_parts_of ps (w : Nat) = some (prsL (edgesOf w (ps.map (spI w)))) := by
  unfold m_parts_of
  rw [shlI_one (by omega), Option.bind_some, Option.bind_some, parts_l1 hw ps _ h (by show 2 + _ ≤ _; omega), Option.bind_some]
  have hlen : ([0, ((2 ^ w : Nat) : Int)] ++ flat2 (ps.map (spI w))).length < 4000 := by
    rw [List.length_append, flat2_len, List.length_map]
    show 2 + _ < _
    omega
  have e : ssetO ([0, ((2 ^ w : Nat) : Int)] ++ flat2 (ps.map (spI w))) = some (edgesOf w (ps.map (spI w))) := by
    unfold ssetO
    rw [if_pos hlen]
    rfl
  rw [e, Option.bind_some]
  have e2 : ∀ l : List Int, cutL l (some (1 : Int)) none = l.drop 1 := fun l => by
    unfold cutL
    have e3 : HT.sIx l.length 0 (some 1) = min 1 l.length := HT.sIx_nat l.length 0 1
    rw [e3, sIx_n]
    cases l with
    | nil => rfl
    | cons x r =>
      rw [show min 1 (x :: r).length = 1 by rw [List.length_cons]; omega]
      exact List.take_of_length_le (by rw [List.length_drop]; exact Nat.le_refl _)
  rw [e2, zip_prs]
end K03
namespace K03
open PySem PySem.Spec PyProof.Rows L2 TL G
/-! ### what stands in which -/
def hereL (S : List (Int × Int)) (f b : Int) : List Bool := S.map fun s => (decide (s.1 ≤ f)) && (decide (b ≤ s.2))
def apartL (S : List (Int × Int)) (f b : Int) : List Bool := S.map fun s => (decide (b ≤ s.1)) || (decide (s.2 ≤ f))
theorem c3_spec (f b : Int) : ∀ S, m_l_cut_right_c3 f b S = hereL S f b
  | [] => rfl
  | s :: S => by unfold m_l_cut_right_c3; rw [c3_spec f b S]; rfl
theorem c4_spec (f b : Int) : ∀ S, m_l_cut_right_c4 f b S = apartL S f b
  | [] => rfl
  | s :: S => by unfold m_l_cut_right_c4; rw [c4_spec f b S]; rfl
/-- no edge lies between -/
def Gap (S : List (Int × Int)) (f b : Int) : Prop := f < b ∧ ∀ s ∈ S, s.1 < s.2 ∧ (s.1 ≤ f ∨ b ≤ s.1) ∧ (s.2 ≤ f ∨ b ≤ s.2)
theorem c5_spec {S : List (Int × Int)} {f b : Int} (g : Gap S f b) : ∀ l : List Int, (∀ k ∈ l, 0 ≤ k ∧ k < S.length) → m_l_cut_right_c5 (hereL S f b) (apartL S f b) l = some []
  | [], _ => rfl
  | k :: l, h => by
    obtain ⟨h0, h1⟩ := h k (List.mem_cons_self ..)
    obtain ⟨n, rfl⟩ := Int.eq_ofNat_of_zero_le h0
    have hn : n < S.length := by omega
    have e0 : S[n]? = some S[n] := List.getElem?_eq_getElem hn
    have e1 : atI (hereL S f b) (n : Nat) = some ((decide (S[n].1 ≤ f)) && (decide (b ≤ S[n].2))) := atI_nat (by unfold hereL; rw [List.getElem?_map, e0]; rfl)
    have e2 : atI (apartL S f b) (n : Nat) = some ((decide (b ≤ S[n].1)) || (decide (S[n].2 ≤ f))) := atI_nat (by unfold apartL; rw [List.getElem?_map, e0]; rfl)
    unfold m_l_cut_right_c5
    rw [e1, e2, Option.bind_some, Option.bind_some]
    obtain ⟨hf, hg⟩ := g
    obtain ⟨g1, g2, g3⟩ := hg S[n] (List.getElem_mem hn)
    have ne : eqB ((decide (S[n].1 ≤ f)) && (decide (b ≤ S[n].2))) ((decide (b ≤ S[n].1)) || (decide (S[n].2 ≤ f))) = false := by
      rw [eqB_iff]
      refine decide_eq_false fun e => ?_
      rw [Bool.eq_iff_iff, Bool.and_eq_true, Bool.or_eq_true, decide_eq_true_iff, decide_eq_true_iff, decide_eq_true_iff, decide_eq_true_iff] at e
      omega
    rw [if_neg (by rw [ne]; decide)]
    exact c5_spec ⟨hf, hg⟩ l fun q hq => h q (List.mem_cons_of_mem _ hq)
/-- at an edge what stands changes -/
theorem here_ne {S : List (Int × Int)} {p e b : Int} (g1 : Gap S p e) (g2 : Gap S e b) (he : ∃ s ∈ S, e = s.1 ∨ e = s.2) : hereL S e b ≠ hereL S p e := by
  obtain ⟨s, hs, h⟩ := he
  intro z
  have := List.map_eq_map_iff.mp z s hs
  rw [Bool.eq_iff_iff, Bool.and_eq_true, Bool.and_eq_true, decide_eq_true_iff, decide_eq_true_iff, decide_eq_true_iff, decide_eq_true_iff] at this
  obtain ⟨f1, k1⟩ := g1
  obtain ⟨f2, k2⟩ := g2
  obtain ⟨a1, a2, a3⟩ := k1 s hs
  obtain ⟨b1, b2, b3⟩ := k2 s hs
  omega
def El (S : List (Int × Int)) (e : Int) (o : Option (List Bool)) : Prop := o = none ∨ ∃ p, Gap S p e ∧ o = some (hereL S p e) ∧ ∃ s ∈ S, e = s.1 ∨ e = s.2
theorem El.ne {S : List (Int × Int)} {e b : Int} {o : Option (List Bool)} (h : El S e o) (g : Gap S e b) : some (hereL S e b) ≠ o := by
  rcases h with rfl | ⟨p, g1, rfl, hs⟩
  · exact fun z => nomatch z
  · exact fun z => here_ne g1 g hs (Option.some.inj z)
theorem rangeO_len {n : Nat} (h : n ≤ 16777216) : rangeO1 (n : Int) = some (rangeL 0 n) := by
  unfold rangeO1
  rw [if_pos ⟨by omega, by rw [sizeLine_eq]; omega⟩, Int.toNat_natCast]
theorem mem_rangeL {n : Nat} {k : Int} (h : k ∈ rangeL 0 n) : 0 ≤ k ∧ k < (n : Nat) := by
  unfold rangeL at h
  obtain ⟨i, hi, rfl⟩ := List.mem_map.mp h
  have := List.mem_range.mp hi
  omega
theorem cut_l2 (S : List (Int × Int)) (hS : S.length ≤ 1000) : ∀ (l : List Int) (e z : Int) (o : Option (List Bool)), (∀ q ∈ prsL (e :: l), Gap S q.1 q.2) → (∀ k ∈ l.dropLast, ∃ s ∈ S, k = s.1 ∨ k = s.2) → (l ≠ [] → El S e o) → (e :: l).getLast? = some z →
    ∃ o', m_l_cut_right_l2 S (prsL (e :: l)) e o = some (.go (z, o'))
  | [], e, z, o, _, _, _, hz => by
    have : e = z := Option.some.inj hz
    subst this
    exact ⟨o, rfl⟩
  | b :: l, e, z, o, hg, hk, ho, hz => by
    have g : Gap S e b := hg (e, b) (List.mem_cons_self ..)
    obtain ⟨o', ih⟩ := cut_l2 S hS l b z (some (hereL S e b)) (fun q hq => hg q (List.mem_cons_of_mem _ hq))
      (fun k hk2 => by
        cases l with
        | nil => cases hk2
        | cons c l => exact hk k (List.mem_cons_of_mem _ hk2))
      (fun hl => .inr ⟨e, g, rfl, hk b (by
        cases l with
        | nil => exact absurd rfl hl
        | cons c l => exact List.mem_cons_self ..)⟩)
      (by rw [List.getLast?_cons_cons] at hz; exact hz)
    refine ⟨o', ?_⟩
    show m_l_cut_right_l2 S ((e, b) :: prsL (b :: l)) e o = _
    unfold m_l_cut_right_l2
    rw [Option.bind_some, Option.bind_some, c3_spec, c4_spec]
    have c1 : neI e e = false := by rw [neI_iff]; simp
    have c2 : decide (b ≤ e) = false := decide_eq_false (by have := g.1; omega)
    have c3 : eqD (some (hereL S e b)) o = false := eqD_false ((ho (List.cons_ne_nil _ _)).ne g)
    rw [show ((e, b) : Int × Int).1 = e from rfl, show ((e, b) : Int × Int).2 = b from rfl, c1, c2, c3, if_neg (by decide), rangeO_len (by omega), Option.bind_some, c5_spec g _ fun k hk => mem_rangeL hk, Option.bind_some, eqD_refl, notT]
    exact ih
theorem c1_spec {w : Nat} (hw : w ≤ 60) : ∀ ps : List Str, (∀ p ∈ ps, IsPat w p) → m_l_cut_right_c1 (w : Nat) ps = some (ps.map (spI w))
  | [], _ => rfl
  | p :: ps, h => by
    unfold m_l_cut_right_c1
    rw [lspanI (h p (List.mem_cons_self ..)) hw, Option.bind_some, c1_spec hw ps fun q hq => h q (List.mem_cons_of_mem _ hq)]
    rfl
theorem g1_spec {w : Nat} (hw : w ≤ 60) : ∀ ps : List Str, (∀ p ∈ ps, IsPat w p) → m_l_grouped_c1 (w : Nat) ps = some (ps.map (spI w))
  | [], _ => rfl
  | p :: ps, h => by
    unfold m_l_grouped_c1
    rw [lspanI (h p (List.mem_cons_self ..)) hw, Option.bind_some, g1_spec hw ps fun q hq => h q (List.mem_cons_of_mem _ hq)]
    rfl
/-! ### the edges of a row of spans -/
structure SpOk (w : Nat) (S : List (Int × Int)) : Prop where
  ok : ∀ s ∈ S, 0 ≤ s.1 ∧ s.1 < s.2 ∧ s.2 ≤ ((2 ^ w : Nat) : Int)
theorem prs_adj : ∀ {l : List Int} {f b : Int}, l.Pairwise (· < ·) → (f, b) ∈ prsL l → f < b ∧ ∀ x ∈ l, x ≤ f ∨ b ≤ x
  | [], _, _, _, h => nomatch h
  | [_], _, _, _, h => nomatch h
  | x :: y :: r, f, b, hp, h => by
    obtain ⟨h1, h2⟩ := List.pairwise_cons.mp hp
    rcases List.mem_cons.mp (show (f, b) ∈ (x, y) :: prsL (y :: r) from h) with e | h
    · have e1 : f = x := congrArg Prod.fst e
      have e2 : b = y := congrArg Prod.snd e
      subst e1 e2
      refine ⟨h1 b (List.mem_cons_self ..), fun z hz => ?_⟩
      rcases List.mem_cons.mp hz with rfl | hz
      · exact .inl (Int.le_refl _)
      · rcases List.mem_cons.mp hz with rfl | hz
        · exact .inr (Int.le_refl _)
        · have := (List.pairwise_cons.mp h2).1 z hz
          exact .inr (by omega)
    · obtain ⟨k1, k2⟩ := prs_adj h2 h
      have hf : f ∈ y :: r := prs_mem h
      have hxf := h1 f hf
      refine ⟨k1, fun z hz => ?_⟩
      rcases List.mem_cons.mp hz with rfl | hz
      · exact .inl (by omega)
      · exact k2 z hz
where
  prs_mem : ∀ {l : List Int} {f b : Int}, (f, b) ∈ prsL l → f ∈ l
    | [], _, _, h => nomatch h
    | [_], _, _, h => nomatch h
    | x :: y :: r, f, b, h => by
      rcases List.mem_cons.mp (show (f, b) ∈ (x, y) :: prsL (y :: r) from h) with e | h
      · have e1 : f = x := congrArg Prod.fst e
        subst e1
        exact List.mem_cons_self ..
      · exact List.mem_cons_of_mem _ (prs_mem h)
theorem edges_facts {w : Nat} {S : List (Int × Int)} (h : SpOk w S) : ∃ l, edgesOf w S = 0 :: l ∧ (∀ q ∈ prsL (0 :: l), Gap S q.1 q.2) ∧ (∀ k ∈ l.dropLast, ∃ s ∈ S, k = s.1 ∨ k = s.2) ∧ (0 :: l).getLast? = some ((2 ^ w : Nat) : Int) ∧ l ≠ [] := by
  have hs := ssort_sorted ([0, ((2 ^ w : Nat) : Int)] ++ flat2 S)
  have hm : ∀ k, k ∈ edgesOf w S ↔ k = 0 ∨ k = ((2 ^ w : Nat) : Int) ∨ ∃ s ∈ S, k = s.1 ∨ k = s.2 := fun k => by
    unfold edgesOf
    rw [ssort_mem, List.mem_append, mem_flat2]
    simp only [List.mem_cons, List.not_mem_nil, or_false, or_assoc]
  have hW : (0 : Int) < ((2 ^ w : Nat) : Int) := by have := Nat.two_pow_pos w; omega
  have hlo : ∀ k ∈ edgesOf w S, 0 ≤ k ∧ k ≤ ((2 ^ w : Nat) : Int) := fun k hk => by
    rcases (hm k).mp hk with rfl | rfl | ⟨s, hs, rfl | rfl⟩
    · omega
    · omega
    · have := h.ok s hs; omega
    · have := h.ok s hs; omega
  change (edgesOf w S).Pairwise (· < ·) at hs
  have h0 := (hm 0).mpr (.inl rfl)
  have hWm := (hm ((2 ^ w : Nat) : Int)).mpr (.inr (.inl rfl))
  generalize edgesOf w S = E at hs hm hlo h0 hWm
  cases E with
  | nil => cases h0
  | cons x l =>
    obtain ⟨s1, s2⟩ := List.pairwise_cons.mp hs
    have ex : x = 0 := by
      rcases List.mem_cons.mp h0 with e | e
      · exact e.symm
      · have := s1 0 e
        have := hlo x (List.mem_cons_self ..)
        omega
    subst ex
    have hne : l ≠ [] := fun e => by
      subst e
      have := List.mem_singleton.mp hWm
      omega
    have hlast : (0 :: l).getLast? = some ((2 ^ w : Nat) : Int) := by
      obtain ⟨m, z, rfl⟩ : ∃ m z, l = m ++ [z] := ⟨l.dropLast, l.getLast hne, (List.dropLast_concat_getLast hne).symm⟩
      have hz : z = ((2 ^ w : Nat) : Int) := by
        rcases List.mem_cons.mp hWm with e | e
        · omega
        · rcases List.mem_append.mp e with e | e
          · have h3 := (List.pairwise_append.mp s2).2.2 _ e z (List.mem_singleton.mpr rfl)
            have := hlo z (List.mem_cons_of_mem _ (List.mem_append.mpr (.inr (List.mem_singleton.mpr rfl))))
            omega
          · exact (List.mem_singleton.mp e).symm
      subst hz
      rw [← List.cons_append]
      exact List.getLast?_concat
    refine ⟨l, rfl, fun q hq => ?_, fun k hk => ?_, hlast, hne⟩
    · obtain ⟨k1, k2⟩ := prs_adj hs hq
      exact ⟨k1, fun s hs2 => ⟨(h.ok s hs2).2.1, k2 s.1 ((hm s.1).mpr (.inr (.inr ⟨s, hs2, .inl rfl⟩))), k2 s.2 ((hm s.2).mpr (.inr (.inr ⟨s, hs2, .inr rfl⟩)))⟩⟩
    · rcases (hm k).mp (List.mem_cons_of_mem _ (List.dropLast_subset _ hk)) with rfl | rfl | e
      · have := s1 0 (List.dropLast_subset _ hk); omega
      · exfalso
        obtain ⟨m, z, rfl⟩ : ∃ m z, l = m ++ [z] := ⟨l.dropLast, l.getLast hne, (List.dropLast_concat_getLast hne).symm⟩
        rw [List.dropLast_concat] at hk
        have h3 := (List.pairwise_append.mp s2).2.2 _ hk z (List.mem_singleton.mpr rfl)
        have := hlo z (List.mem_cons_of_mem _ (List.mem_append.mpr (.inr (List.mem_singleton.mpr rfl))))
        omega
      · exact e
theorem spOk {w : Nat} {ps : List Str} (h : ∀ p ∈ ps, IsPat w p) : SpOk w (ps.map (spI w)) := ⟨fun s hs => by
  obtain ⟨p, hp, rfl⟩ := List.mem_map.mp hs
  exact spI_ok (h p hp)⟩
theorem cut_spec {w : Nat} {ps : List Str} (hw : w ≤ 60) (h : ∀ p ∈ ps, IsPat w p) (hl : ps.length ≤ 1000) : m_l_cut_right (prsL (edgesOf w (ps.map (spI w)))) ps (w : Nat) = some true := by
  obtain ⟨l, e1, e2, e3, e4, e5⟩ := edges_facts (spOk h)
  obtain ⟨o', e6⟩ := cut_l2 (ps.map (spI w)) (by rw [List.length_map]; exact hl) l 0 _ none e2 e3 (fun _ => .inl rfl) e4
  unfold m_l_cut_right
  rw [c1_spec hw ps h, Option.bind_some, e1, e6]
  show Option.bind (shlI 1 (w : Nat)) _ = _
  rw [shlI_one (by omega), Option.bind_some, eqI_iff]
  simp
end K03
namespace K03
open PySem PySem.Spec PyProof.Rows L2 TL G
/-! ### the groups -/
theorem ins_len (k : Int) : ∀ l : List Int, (ins k l).length ≤ l.length + 1
  | [] => Nat.le_refl _
  | x :: l => by
    unfold ins
    split
    · exact Nat.le_refl _
    · split
      · exact Nat.le_succ _
      · exact Nat.succ_le_succ (ins_len k l)
theorem ssort_len : ∀ l : List Int, (ssort l).length ≤ l.length
  | [] => Nat.le_refl _
  | x :: l => Nat.le_trans (ins_len x (ssort l)) (Nat.succ_le_succ (ssort_len l))
theorem gc3 {S : List (Int × Int)} {f b n : Int} (g : Gap S f b) (h1 : f ≤ n) (h2 : n < b) : m_l_grouped_c3 n S = hereL S f b := by
  have go : ∀ T : List (Int × Int), (∀ s ∈ T, s ∈ S) → m_l_grouped_c3 n T = hereL T f b := fun T => by
    induction T with
    | nil => exact fun _ => rfl
    | cons s T ih =>
      intro h
      unfold m_l_grouped_c3
      rw [ih fun q hq => h q (List.mem_cons_of_mem _ hq)]
      have hs := g.2 s (h s (List.mem_cons_self ..))
      have e : ((decide (s.1 ≤ n)) && (decide (n < s.2))) = ((decide (s.1 ≤ f)) && (decide (b ≤ s.2))) := by
        rw [Bool.eq_iff_iff, Bool.and_eq_true, Bool.and_eq_true, decide_eq_true_iff, decide_eq_true_iff, decide_eq_true_iff, decide_eq_true_iff]
        omega
      rw [e]
      rfl
  exact go S fun _ h => h
theorem rangeL_succ (n : Int) (k : Nat) : rangeL n (k + 1) = n :: rangeL (n + 1) k := by
  unfold rangeL
  rw [List.range_succ_eq_map, List.map_cons, List.map_map]
  congr 1
  · omega
  · refine List.map_congr_left fun i _ => ?_
    show n + ((i + 1 : Nat) : Int) = n + 1 + (i : Nat)
    omega
theorem rangeL_add : ∀ (a : Nat) (n : Int) (c : Nat), rangeL n (a + c) = rangeL n a ++ rangeL (n + (a : Nat)) c
  | 0, n, c => by
    rw [Nat.zero_add, show n + ((0 : Nat) : Int) = n by omega]
    rfl
  | a + 1, n, c => by
    rw [show a + 1 + c = (a + c) + 1 by omega, rangeL_succ, rangeL_succ, rangeL_add a (n + 1) c, List.cons_append, show n + 1 + (a : Nat) = n + ((a + 1 : Nat) : Int) by omega]
theorem setL_last {α : Type} (F : List α) (x y : α) : setL (F ++ [x]) (-1) y = some (F ++ [y]) := by
  unfold setL ixN
  rw [List.length_append]
  show Option.map _ (if (0 : Int) ≤ -1 then _ else if -((F.length + 1 : Nat) : Int) ≤ -1 then _ else none) = _
  rw [if_neg (by omega), if_pos (by omega)]
  show some ((F ++ [x]).set (-1 + ((F.length + 1 : Nat) : Int)).toNat y) = _
  rw [show (-1 + ((F.length + 1 : Nat) : Int)).toNat = F.length by omega, List.set_append_right _ _ (Nat.le_refl _), Nat.sub_self]
  rfl
theorem grp_run {S : List (Int × Int)} {f b : Int} (g : Gap S f b) : ∀ (k : Nat) (n : Int) (rest : List Int) (F : List (Int × Int)), f ≤ n → n + (k : Nat) ≤ b →
    m_l_grouped_l2 S (rangeL n k ++ rest) (some (hereL S f b)) (F ++ [(f, n)]) = m_l_grouped_l2 S rest (some (hereL S f b)) (F ++ [(f, n + (k : Nat))])
  | 0, n, rest, F, _, _ => by
    rw [show n + ((0 : Nat) : Int) = n by omega]
    rfl
  | k + 1, n, rest, F, h1, h2 => by
    rw [rangeL_succ, List.cons_append]
    have ih := grp_run g k (n + 1) rest F (by omega) (by omega)
    rw [show n + 1 + (k : Nat) = n + ((k + 1 : Nat) : Int) by omega] at ih
    rw [← ih]
    conv => lhs; unfold m_l_grouped_l2
    rw [Option.bind_some, gc3 g h1 (by omega), eqD_refl, if_pos rfl, atI_last, Option.bind_some, setL_last, Option.bind_some, Option.bind_some]
theorem grp_l2 (S : List (Int × Int)) : ∀ (l : List Int) (e z : Int) (o : Option (List Bool)) (F : List (Int × Int)), (∀ q ∈ prsL (e :: l), Gap S q.1 q.2) → (∀ k ∈ l.dropLast, ∃ s ∈ S, k = s.1 ∨ k = s.2) → (l ≠ [] → El S e o) → (e :: l).getLast? = some z → F.length + l.length ≤ 3000 →
    ∃ o', m_l_grouped_l2 S (rangeL e (z - e).toNat) o F = some (o', F ++ prsL (e :: l)) ∧ e ≤ z
  | [], e, z, o, F, _, _, _, hz, _ => by
    have : e = z := Option.some.inj hz
    subst this
    rw [Int.sub_self]
    exact ⟨o, by rw [show prsL [e] = [] from rfl, List.append_nil]; rfl, Int.le_refl _⟩
  | b :: l, e, z, o, F, hg, hk, ho, hz, hl => by
    rw [List.length_cons] at hl
    have g : Gap S e b := hg (e, b) (List.mem_cons_self ..)
    have hlt := g.1
    obtain ⟨o', ih, hbz⟩ := grp_l2 S l b z (some (hereL S e b)) (F ++ [(e, b)]) (fun q hq => hg q (List.mem_cons_of_mem _ hq))
      (fun k hk2 => by
        cases l with
        | nil => cases hk2
        | cons c l => exact hk k (List.mem_cons_of_mem _ hk2))
      (fun hl => .inr ⟨e, g, rfl, hk b (by
        cases l with
        | nil => exact absurd rfl hl
        | cons c l => exact List.mem_cons_self ..)⟩)
      (by rw [List.getLast?_cons_cons] at hz; exact hz)
      (by rw [List.length_append]; show F.length + 1 + _ ≤ _; omega)
    refine ⟨o', ?_, by omega⟩
    have hsz : (z - e).toNat = ((b - e).toNat - 1 + (z - b).toNat) + 1 := by omega
    rw [hsz, rangeL_succ]
    unfold m_l_grouped_l2
    have c3 : eqD (some (hereL S e b)) o = false := eqD_false ((ho (List.cons_ne_nil _ _)).ne g)
    have ea : appL F (e, e + 1) = some (F ++ [(e, e + 1)]) := by unfold appL; rw [if_pos (by rw [sizeLine_eq]; omega)]
    rw [Option.bind_some, gc3 g (Int.le_refl _) hlt, c3, if_neg (by decide), ea, Option.bind_some, Option.bind_some, rangeL_add, grp_run g _ _ _ _ (by omega) (by omega), show e + 1 + (((b - e).toNat - 1 : Nat) : Int) = b by omega, ih, List.append_assoc]
    rfl
theorem prs_len : ∀ l : List Int, (prsL l).length ≤ l.length
  | [] => Nat.le_refl _
  | [_] => Nat.zero_le _
  | x :: y :: r => by
    show (prsL (y :: r)).length + 1 ≤ (y :: r).length + 1
    exact Nat.succ_le_succ (prs_len (y :: r))
theorem grouped_spec {w : Nat} {ps : List Str} (hw : w < 8) (h : ∀ p ∈ ps, IsPat w p) (hl : ps.length ≤ 100) : m_l_grouped ps (w : Nat) = some (prsL (edgesOf w (ps.map (spI w)))) := by
  have hlen : (edgesOf w (ps.map (spI w))).length ≤ 3000 := by
    unfold edgesOf
    refine Nat.le_trans (ssort_len _) ?_
    rw [List.length_append, flat2_len, List.length_map]
    show 2 + _ ≤ _
    omega
  obtain ⟨l, e1, e2, e3, e4, e5⟩ := edges_facts (spOk h)
  rw [e1] at hlen ⊢
  rw [List.length_cons] at hlen
  obtain ⟨o', e6, _⟩ := grp_l2 (ps.map (spI w)) l 0 _ none [] e2 e3 (fun _ => .inl rfl) e4 (by show 0 + _ ≤ _; omega)
  have hp : 2 ^ w ≤ 2 ^ 8 := Nat.pow_le_pow_right (by decide) (by omega)
  unfold m_l_grouped
  rw [g1_spec (by omega) ps h, Option.bind_some, Option.bind_some, shlI_one (by omega), Option.bind_some, rangeO_len (by omega), Option.bind_some]
  rw [Int.sub_zero, Int.toNat_natCast] at e6
  rw [e6]
  rfl
/-! ### the patterns drawn -/
theorem some_l1 {w : Nat} (hw : 1 ≤ w ∧ w ≤ 30) : ∀ (l : List Int) (s : List Str) (b : Bag), BOk b → (∀ x ∈ s, IsPat w x) → s.length + l.length ≤ 900 → O2 BOk (m_l_some_l1 (w : Nat) l s b) (fun r => (∀ x ∈ r, IsPat w x) ∧ r.length = s.length + l.length)
  | [], s, b, hb, hs, _ => O2.ret hb ⟨hs, rfl⟩
  | k :: l, s, b, hb, hs, hl => by
    rw [List.length_cons] at hl
    unfold m_l_some_l1
    refine O2.bind (one_O hb rfl hw hs (by omega)) fun x b hb hx => ?_
    have ea : appL s x = some (s ++ [x]) := by unfold appL; rw [if_pos (by rw [sizeLine_eq]; omega)]
    rw [ea, Option.bind_some]
    have := some_l1 hw l (s ++ [x]) b hb (fun y hy => (List.mem_append.mp hy).elim (hs y) fun h => by rw [List.mem_singleton.mp h]; exact hx) (by rw [List.length_append]; show s.length + 1 + _ ≤ _; omega)
    exact this.imp fun r h => ⟨h.1, by rw [h.2, List.length_append, List.length_cons, List.length_cons, List.length_nil]; omega⟩
theorem some_O {b : Bag} {w : Nat} {m : Int} (hb : BOk b) (hw : 1 ≤ w ∧ w ≤ 30) (hm : 0 ≤ m ∧ m ≤ 100) : O2 BOk (m_l_some b (w : Nat) m) (fun r => (∀ x ∈ r, IsPat w x) ∧ r.length ≤ 100) := by
  unfold m_l_some
  refine O2.bind (draw_O hb (by decide) (by decide)) fun r8 b hb h8 => ?_
  refine O2.bind (draw_O hb (by omega) (by omega)) fun r18 b hb h18 => ?_
  refine O2.bind (draw_O hb (by decide) (by decide)) fun r37 b hb h37 => ?_
  refine O2.bind1 (P := fun k => 0 ≤ k ∧ k ≤ 100) (atI_O h37.1 h37.2 fun x hx => ?_) fun k hk => ?_
  · rcases List.mem_cons.mp hx with rfl | hx
    · omega
    · rw [List.mem_singleton.mp hx]; omega
  refine O2.bind1 (rangeO1_O (P := fun l => l.length ≤ 100) (by omega) (by omega) (by rw [rangeL_length]; omega)) fun l hl => ?_
  refine O2.bind (some_l1 hw l [] b hb (fun _ h => nomatch h) (by show 0 + _ ≤ _; omega)) fun r b hb h => ?_
  exact O2.ret hb ⟨h.1, by rw [h.2]; show 0 + _ ≤ _; omega⟩
/-! ### the law -/
theorem c2_id : ∀ l : List (Int × Int), m_law_c2 l = l
  | [] => rfl
  | e :: l => by unfold m_law_c2; rw [c2_id l]
theorem law_l1 {w : Nat} (hw : 1 ≤ w ∧ w ≤ 30) : ∀ (l : List Int) (b : Bag), BOk b → ∃ b', m_law_l1 (w : Nat) l b = some (.go b') ∧ BOk b'
  | [], b, hb => ⟨b, rfl, hb⟩
  | k :: l, b, hb => by
    obtain ⟨ps, b2, e, hb2, hp, hl⟩ := some_O hb hw (m := 64) (by omega)
    obtain ⟨b', e4, hb'⟩ := law_l1 hw l b2 hb2
    refine ⟨b', ?_, hb'⟩
    have ep := parts_spec (by omega : w ≤ 60) hp (by omega)
    have ec := cut_spec (by omega : w ≤ 60) hp (by omega)
    unfold m_law_l1
    rw [e, bind2_some, ep, Option.bind_some, c2_id, alike_self]
    have e5 : Option.bind (if (decide ((w : Int) < (8 : Int))) then (Option.bind (m_l_grouped ps (w : Int)) fun r251 => some ((!eqD (prsL (edgesOf w (ps.map (spI w)))) r251))) else some false) (fun c246 => some ((c246 || (!eqD ps ps)))) = some false := by
      by_cases h8 : w < 8
      · rw [if_pos (decide_eq_true (by omega)), grouped_spec h8 hp (by omega), Option.bind_some, eqD_refl, Option.bind_some, eqD_refl]
        rfl
      · rw [if_neg (by rw [decide_eq_true_iff]; omega), Option.bind_some, eqD_refl]
        rfl
    rw [notT, Option.bind_some, Option.bind_some, if_neg (by decide), ec, Option.bind_some, notT, e5, Option.bind_some, if_neg (by decide), Option.bind_some, alike_self, Option.bind_some, notT]
    exact e4
theorem law_true (b : Bag) (hb : BOk b) : ∃ b', m_law b = some (true, b') := by
  obtain ⟨n, b1, e1, hb1, hn⟩ := size_O hb
  obtain ⟨w, rfl⟩ := Int.eq_ofNat_of_zero_le (show 0 ≤ n by omega)
  obtain ⟨b2, e2, hb2⟩ := law_l1 (w := w) (by omega) (rangeL (0 : Int) 2) b1 hb1
  refine O2.true_ (I := BOk) ?_
  unfold m_law
  rw [e1, bind2_some]
  refine O2.bL1 e2 ?_
  have p1 : IsPat 1 ("1" : Str) := ⟨[49], Bits.one (by decide), by decide, by rw [tl1]; rfl⟩
  have f1 : m_parts_of ([] : List Str) 30 = some [((0 : Int), (1073741824 : Int))] := parts_spec (w := 30) (ps := []) (by decide) (fun _ h => nomatch h) (by decide)
  have f2 : m_parts_of ([("1" : Str), ("1" : Str)] : List Str) 1 = some [((0 : Int), (1 : Int)), ((1 : Int), (2 : Int))] := by
    have := parts_spec (w := 1) (ps := [("1" : Str), ("1" : Str)]) (by decide) (fun x h => by
      rcases List.mem_cons.mp h with rfl | h
      · exact p1
      · rw [List.mem_singleton.mp h]; exact p1) (by decide)
    rw [show ((1 : Nat) : Int) = 1 from rfl] at this
    rw [this]
    decide +kernel
  have f4 : shlI 1 30 = some 1073741824 := shlI_one (k := 30) (by decide)
  rw [f1, Option.bind_some, f4, Option.bind_some, eqD_refl, if_pos rfl, f2, Option.bind_some, eqD_refl]
  exact ⟨true, b2, rfl, hb2, rfl⟩
end K03
namespace K03
open PySem PySem.Spec PyProof.Rows L2 TL G
def dd_bits_of : He.DefD := ⟨("bits_of", none), "bits_of", "bits_of", defArgs s_bits_of, defBody s_bits_of, defScope s_bits_of, [], []⟩
def dd_span_of : He.DefD := ⟨("span_of", none), "span_of", "span_of", defArgs s_span_of, defBody s_span_of, defScope s_span_of, [], []⟩
def dd_parts_of : He.DefD := ⟨("parts_of", none), "parts_of", "parts_of", defArgs s_parts_of, defBody s_parts_of, defScope s_parts_of, [], []⟩
def dd_l_bag : He.DefD := ⟨("_law_bag", none), "_law_bag", "_law_bag", defArgs s_l_bag, defBody s_l_bag, defScope s_l_bag, [], []⟩
def dd_l_draw : He.DefD := ⟨("_law_draw", none), "_law_draw", "_law_draw", defArgs s_l_draw, defBody s_l_draw, defScope s_l_draw, [], []⟩
def dd_l_bits : He.DefD := ⟨("_law_bits", none), "_law_bits", "_law_bits", defArgs s_l_bits, defBody s_l_bits, defScope s_l_bits, [], []⟩
def dd_l_worth : He.DefD := ⟨("_law_worth", none), "_law_worth", "_law_worth", defArgs s_l_worth, defBody s_l_worth, defScope s_l_worth, [], []⟩
def dd_l_size : He.DefD := ⟨("_law_size", none), "_law_size", "_law_size", defArgs s_l_size, defBody s_l_size, defScope s_l_size, [], []⟩
def dd_l_one : He.DefD := ⟨("_law_one", none), "_law_one", "_law_one", defArgs s_l_one, defBody s_l_one, defScope s_l_one, [], []⟩
def dd_l_some : He.DefD := ⟨("_law_some", none), "_law_some", "_law_some", defArgs s_l_some, defBody s_l_some, defScope s_l_some, [], []⟩
def dd_l_span : He.DefD := ⟨("_law_span", none), "_law_span", "_law_span", defArgs s_l_span, defBody s_l_span, defScope s_l_span, [], []⟩
def dd_l_alike : He.DefD := ⟨("_law_alike", none), "_law_alike", "_law_alike", defArgs s_l_alike, defBody s_l_alike, defScope s_l_alike, [], []⟩
def dd_l_grouped : He.DefD := ⟨("_law_grouped", none), "_law_grouped", "_law_grouped", defArgs s_l_grouped, defBody s_l_grouped, defScope s_l_grouped, [], []⟩
def dd_l_cut_right : He.DefD := ⟨("_law_cut_right", none), "_law_cut_right", "_law_cut_right", defArgs s_l_cut_right, defBody s_l_cut_right, defScope s_l_cut_right, [], []⟩
def dd_law : He.DefD := ⟨("law", none), "law", "law", defArgs s_law, defBody s_law, defScope s_law, [], []⟩
def fnL : List He.DefD := [dd_bits_of, dd_span_of, dd_parts_of, dd_l_bag, dd_l_draw, dd_l_bits, dd_l_worth, dd_l_size, dd_l_one, dd_l_some, dd_l_span, dd_l_alike, dd_l_grouped, dd_l_cut_right, dd_law]
def faL : List He.Fa := [.glo "bits_of", .glo "span_of", .glo "parts_of", .glo "_law_bag", .glo "_law_draw", .glo "_law_bits", .glo "_law_worth", .glo "_law_size", .glo "_law_one", .glo "_law_some", .glo "_law_span", .glo "_law_alike", .glo "_law_grouped", .glo "_law_cut_right", .glo "law", .free "abs", .free "all", .free "bool", .free "int", .free "isinstance", .free "len", .free "list", .free "range", .free "set", .free "sorted", .free "str", .free "tuple", .free "zip", .str "STAR" "*"]
abbrev RR : PySem.W.OpenRow := PySem.W.OpenLaw.row PySem.Challenge.rw_wishnet_k03_parts_of_patterns
abbrev hk : PySem.W.Hook := He.hookD 4 faL fnL
def ob (s : PySem.W.SharedT) : He.AlD := He.obsDG 4 faL fnL (HandSHeadRun.getT s)
theorem ob_eq (s : PySem.W.SharedT) : ob s = hk.obs s.abs := He.obsDG_eq (HandSHeadRun.getT_eq s)
def looseL : List Str := ["STAR", "bits_of", "span_of", "parts_of", "_law_bag", "_law_draw", "_law_bits", "_law_worth", "_law_size", "_law_one", "_law_some", "_law_span", "_law_alike", "_law_grouped", "_law_cut_right"]
theorem run_top (w : World) : HandSHeadRun.RunEq RR (PySem.W.view RR.prog [17]) hk ob 4000 looseL w := by
  intro os
  kernel_rfl
theorem facts {P : Program} {w : World} {K : PySem.W.Frag} {h : Heap} {mg : Str → Option Value} {f : Addr} (X : K.In h) (Gh : h.Ns mainGlobals mg) (hfa : mg ("law" : Str) = some (.ref f)) (c : He.SaysD faL fnL K) :
    ∃ fd : FuncData, (∀ (s : Shared) (v : Value), BindsTo s fd ⟨[v], []⟩ [("_law_script", v)]) ∧ ∀ base : Heap, K.In base → base.Ns mainGlobals mg → FnOk P w K mg base CX0 10 f fd ["_law_script"] (sp_law K) := by
  obtain ⟨d0, F0⟩ := c.def_ 0 (d := dd_bits_of) rfl
  obtain ⟨d1, F1⟩ := c.def_ 1 (d := dd_span_of) rfl
  obtain ⟨d2, F2⟩ := c.def_ 2 (d := dd_parts_of) rfl
  obtain ⟨d3, F3⟩ := c.def_ 3 (d := dd_l_bag) rfl
  obtain ⟨d4, F4⟩ := c.def_ 4 (d := dd_l_draw) rfl
  obtain ⟨d5, F5⟩ := c.def_ 5 (d := dd_l_bits) rfl
  obtain ⟨d6, F6⟩ := c.def_ 6 (d := dd_l_worth) rfl
  obtain ⟨d7, F7⟩ := c.def_ 7 (d := dd_l_size) rfl
  obtain ⟨d8, F8⟩ := c.def_ 8 (d := dd_l_one) rfl
  obtain ⟨d9, F9⟩ := c.def_ 9 (d := dd_l_some) rfl
  obtain ⟨d10, F10⟩ := c.def_ 10 (d := dd_l_span) rfl
  obtain ⟨d11, F11⟩ := c.def_ 11 (d := dd_l_alike) rfl
  obtain ⟨d12, F12⟩ := c.def_ 12 (d := dd_l_grouped) rfl
  obtain ⟨d13, F13⟩ := c.def_ 13 (d := dd_l_cut_right) rfl
  obtain ⟨d14, F14⟩ := c.def_ 14 (d := dd_law) rfl
  have G0 := He.glo_ok X Gh (c.fact 0 (f := .glo "bits_of") rfl)
  have G1 := He.glo_ok X Gh (c.fact 1 (f := .glo "span_of") rfl)
  have G2 := He.glo_ok X Gh (c.fact 2 (f := .glo "parts_of") rfl)
  have G3 := He.glo_ok X Gh (c.fact 3 (f := .glo "_law_bag") rfl)
  have G4 := He.glo_ok X Gh (c.fact 4 (f := .glo "_law_draw") rfl)
  have G5 := He.glo_ok X Gh (c.fact 5 (f := .glo "_law_bits") rfl)
  have G6 := He.glo_ok X Gh (c.fact 6 (f := .glo "_law_worth") rfl)
  have G7 := He.glo_ok X Gh (c.fact 7 (f := .glo "_law_size") rfl)
  have G8 := He.glo_ok X Gh (c.fact 8 (f := .glo "_law_one") rfl)
  have G9 := He.glo_ok X Gh (c.fact 9 (f := .glo "_law_some") rfl)
  have G10 := He.glo_ok X Gh (c.fact 10 (f := .glo "_law_span") rfl)
  have G11 := He.glo_ok X Gh (c.fact 11 (f := .glo "_law_alike") rfl)
  have G12 := He.glo_ok X Gh (c.fact 12 (f := .glo "_law_grouped") rfl)
  have G13 := He.glo_ok X Gh (c.fact 13 (f := .glo "_law_cut_right") rfl)
  have G14 := He.glo_ok X Gh (c.fact 14 (f := .glo "law") rfl)
  obtain ⟨tk0, hk0⟩ := He.str_ok X Gh (c.fact 28 (f := .str "STAR" "*") rfl)
  let T : Txt K mg := { a_bits_of := _, d_bits_of := d0, F_bits_of := F0, g_bits_of := G0, a_span_of := _, d_span_of := d1, F_span_of := F1, g_span_of := G1, a_parts_of := _, d_parts_of := d2, F_parts_of := F2, g_parts_of := G2, a_l_bag := _, d_l_bag := d3, F_l_bag := F3, g_l_bag := G3, a_l_draw := _, d_l_draw := d4, F_l_draw := F4, g_l_draw := G4, a_l_bits := _, d_l_bits := d5, F_l_bits := F5, g_l_bits := G5, a_l_worth := _, d_l_worth := d6, F_l_worth := F6, g_l_worth := G6, a_l_size := _, d_l_size := d7, F_l_size := F7, g_l_size := G7, a_l_one := _, d_l_one := d8, F_l_one := F8, g_l_one := G8, a_l_some := _, d_l_some := d9, F_l_some := F9, g_l_some := G9, a_l_span := _, d_l_span := d10, F_l_span := F10, g_l_span := G10, a_l_alike := _, d_l_alike := d11, F_l_alike := F11, g_l_alike := G11, a_l_grouped := _, d_l_grouped := d12, F_l_grouped := F12, g_l_grouped := G12, a_l_cut_right := _, d_l_cut_right := d13, F_l_cut_right := F13, g_l_cut_right := G13, a_law := _, d_law := d14, F_law := F14, g_law := G14, n_abs := He.free_ok X Gh (c.fact 15 (f := .free "abs") rfl), n_all := He.free_ok X Gh (c.fact 16 (f := .free "all") rfl), n_bool := He.free_ok X Gh (c.fact 17 (f := .free "bool") rfl), n_int := He.free_ok X Gh (c.fact 18 (f := .free "int") rfl), n_isinstance := He.free_ok X Gh (c.fact 19 (f := .free "isinstance") rfl), n_len := He.free_ok X Gh (c.fact 20 (f := .free "len") rfl), n_list := He.free_ok X Gh (c.fact 21 (f := .free "list") rfl), n_range := He.free_ok X Gh (c.fact 22 (f := .free "range") rfl), n_set := He.free_ok X Gh (c.fact 23 (f := .free "set") rfl), n_sorted := He.free_ok X Gh (c.fact 24 (f := .free "sorted") rfl), n_str := He.free_ok X Gh (c.fact 25 (f := .free "str") rfl), n_tuple := He.free_ok X Gh (c.fact 26 (f := .free "tuple") rfl), n_zip := He.free_ok X Gh (c.fact 27 (f := .free "zip") rfl), t_STAR := tk0, k_STAR := hk0 }
  have e := hfa.symm.trans G14
  cases e
  have b := FunD.bindsA (ps := ["_law_script"]) F14 fun _ _ _ _ _ _ us hl => match us, hl with | [_], _ => rfl
  exact ⟨d14, fun s v => b s [v] rfl, fun base _ _ => ok_law T law_true⟩
end K03
open PySem.Calls PySem.W PySem PyProof.Rows
set_option maxHeartbeats 0 in
theorem PySem.Challenge.cw_wishnet_k03_parts_of_patterns_holds : PySem.Challenge.rw_wishnet_k03_parts_of_patterns.Holds := by
  w_on; o_law
  refine HandSHeadRun.head_any (r := OpenLaw.row PySem.Challenge.rw_wishnet_k03_parts_of_patterns) (q := view (OpenLaw.row PySem.Challenge.rw_wishnet_k03_parts_of_patterns).prog [17]) (H := K03.hk) (ob := K03.ob) (M := 4000) (loose := K03.looseL) (d := HandSHeadRun.topDef (OpenLaw.row PySem.Challenge.rw_wishnet_k03_parts_of_patterns).prog 17) (kwd := []) K03.ob_eq
    (by kernel_rfl) (fun s => by kernel_rfl) K03.run_top (by kernel_rfl) (by kernel_rfl) (by kernel_rfl) (by rfl) (by first | assumption | decide +kernel) (by decide +kernel) ⟨rfl, rfl, rfl, rfl, rfl, by decide +kernel⟩ ?hw ?hc
  case hw => w_witness2
  case hc =>
    refine L2.walk_ofE (l := PySem.Challenge.rw_wishnet_k03_parts_of_patterns) (n := 63) (k := 10) (x := "_law_script") (CX := L2.CX0) rfl (by decide) (by kernel_rfl) ⟨rfl, by decide, by decide⟩ ?F (fun _ _ _ _ z => z)
    intro w mg fa h Y Gh hmg0
    obtain ⟨K, KX, c⟩ := Y
    have hmg : mg ("law" : PySem.Str) = some (.ref fa) := by
      have e : (HandSHeadRun.topDef (OpenLaw.row PySem.Challenge.rw_wishnet_k03_parts_of_patterns).prog 17).name = ("law" : PySem.Str) := by kernel_rfl
      rw [← e]
      exact hmg0
    obtain ⟨fd, hb, hF⟩ := K03.facts (P := (PySem.Challenge.rw_wishnet_k03_parts_of_patterns).prog) (w := w) KX Gh hmg c
    exact ⟨K, fd, K03.sp_law K, KX, hb, fun H a ns hl _ hS => ⟨a, ns, rfl, hS, hl, fun _ => rfl⟩, hF⟩
