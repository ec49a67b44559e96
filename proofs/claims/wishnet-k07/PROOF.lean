import PyProof.Rows.All
import Wide.All
import OpenK.AllK
import Wide.FinOn
import HandS.ForMost
import HandS.Walk
import HandS.Wide
import HandS.WideBits
import HandS.StrMore
import HandS.SortInts
import HandS.Strs
import HandS.IsInst
import HandS.Defaults
import HandS.MakeKwOnly
import HandS.Head0
import HandS.Head1
import HandS.Head2
import HandS.HeadEnd
import HandS.HeadHook1
import HandS.HeadHook2
import HandS.Style
import HandS.SetFor
import KE.KDictZip
import KE.KTurns
import HandS.Iter
import HandS.SortRule
import PyProof.Rows.SortShellAny
import Lean
import HandS.WordsExc
import PySem.Challenge.RW_wishnet_k07_whole_order_of_patterns
set_option Elab.async false
set_option linter.all false
set_option maxRecDepth 100000
set_option maxHeartbeats 4000000
/-! My base, part 1: data, their standing in a heap, growth of heaps. -/
namespace G
open PySem PySem.Spec L2 PyProof.Rows TL

/-! ### data by type -/
class Enc (α : Type) where
  d : α → PyData
instance : Enc Int := ⟨.int⟩
instance : Enc Bool := ⟨.bool⟩
instance : Enc Str := ⟨.str⟩
instance : Enc Unit := ⟨fun _ => .none⟩
def encO {α : Type} (f : α → PyData) : Option α → PyData
  | none => .none
  | some x => f x
instance {α : Type} [Enc α] : Enc (Option α) := ⟨encO Enc.d⟩
instance {α : Type} [Enc α] : Enc (List α) := ⟨fun xs => .list (xs.map Enc.d)⟩
instance {α β : Type} [Enc α] [Enc β] : Enc (α × β) := ⟨fun p => .tuple [Enc.d p.1, Enc.d p.2]⟩
structure T3 (α β γ : Type) where
  a : α
  b : β
  c : γ
  deriving DecidableEq
structure T4 (α β γ δ : Type) where
  a : α
  b : β
  c : γ
  e : δ
  deriving DecidableEq
structure T5 (α β γ δ ε : Type) where
  a : α
  b : β
  c : γ
  e : δ
  f : ε
  deriving DecidableEq
structure VT (α : Type) where
  l : List α
  deriving DecidableEq
instance {α β γ : Type} [Enc α] [Enc β] [Enc γ] : Enc (T3 α β γ) := ⟨fun p => .tuple [Enc.d p.a, Enc.d p.b, Enc.d p.c]⟩
instance {α β γ δ : Type} [Enc α] [Enc β] [Enc γ] [Enc δ] : Enc (T4 α β γ δ) := ⟨fun p => .tuple [Enc.d p.a, Enc.d p.b, Enc.d p.c, Enc.d p.e]⟩
instance {α β γ δ ε : Type} [Enc α] [Enc β] [Enc γ] [Enc δ] [Enc ε] : Enc (T5 α β γ δ ε) := ⟨fun p => .tuple [Enc.d p.a, Enc.d p.b, Enc.d p.c, Enc.d p.e, Enc.d p.f]⟩
instance {α : Type} [Enc α] : Enc (VT α) := ⟨fun p => .tuple (p.l.map Enc.d)⟩

/-- a text that may be handled: no longer than the line, of signs -/
structure GS (x : Str) : Prop where
  len : x.length ≤ sizeLine
  ok : PyData.strOk x = true

mutual
inductive Rp (K : PySem.W.Frag) (F : Hp) : V → PyData → Prop
  | non : Rp K F .non .none
  | bl (b : Bool) : Rp K F (.bl b) (.bool b)
  | int (i : Int) : Rp K F (.int i) (.int i)
  | str (x : Str) : GS x → Rp K F (.str x) (.str x)
  | lst {a : Addr} {xs : List V} {ds : List PyData} : SqL K F a xs → xs.length ≤ sizeLine → RpA K F xs ds → Rp K F (.ref a) (.list ds)
  | tup {a : Addr} {xs : List V} {ds : List PyData} : SqT K F a xs → xs.length ≤ sizeLine → RpA K F xs ds → Rp K F (.ref a) (.tuple ds)
inductive RpA (K : PySem.W.Frag) (F : Hp) : List V → List PyData → Prop
  | nil : RpA K F [] []
  | cons {v : V} {vs : List V} {d : PyData} {ds : List PyData} : Rp K F v d → RpA K F vs ds → RpA K F (v :: vs) (d :: ds)
end
/-- v stands for x -/
abbrev R {α : Type} [Enc α] (K : PySem.W.Frag) (F : Hp) (v : V) (x : α) : Prop := Rp K F v (Enc.d x)
/-- the values vs stand for the things xs -/
abbrev RL {α : Type} [Enc α] (K : PySem.W.Frag) (F : Hp) (vs : List V) (xs : List α) : Prop := RpA K F vs (xs.map Enc.d)

section
variable {K : PySem.W.Frag} {F F' H H' : Hp} {v : V} {vs : List V} {d : PyData} {ds : List PyData} {a p : Addr} {xs : List V}
theorem SqT_mono (e : Same H H') (h : SqT K H a xs) : SqT K H' a xs := by
  rcases h with (h | ⟨o, h⟩) | h
  · exact .inl (.inl (e _ _ h))
  · exact .inl (.inr ⟨o, e _ _ h⟩)
  · exact .inr h
mutual
theorem Rp.mono (e : Same F F') : ∀ (d : PyData) (v : V), Rp K F v d → Rp K F' v d
  | .none, _, h => by cases h; exact .non
  | .bool b, _, h => by cases h; exact .bl b
  | .int i, _, h => by cases h; exact .int i
  | .str x, _, h => by cases h with | str _ g => exact .str x g
  | .list ds, _, h => by cases h with | lst hs hl ha => exact .lst (e.seq hs) hl (RpA.mono e ds _ ha)
  | .tuple ds, _, h => by cases h with | tup hs hl ha => exact .tup (SqT_mono e hs) hl (RpA.mono e ds _ ha)
  | .dict _, _, h => by cases h
theorem RpA.mono (e : Same F F') : ∀ (ds : List PyData) (vs : List V), RpA K F vs ds → RpA K F' vs ds
  | [], _, h => by cases h; exact .nil
  | d :: ds, _, h => by cases h with | cons h1 h2 => exact .cons (Rp.mono e d _ h1) (RpA.mono e ds _ h2)
end
theorem Rp.up (h : Rp K F v d) (e : Same F F') : Rp K F' v d := Rp.mono e d v h
theorem RpA.up (h : RpA K F vs ds) (e : Same F F') : RpA K F' vs ds := RpA.mono e ds vs h
mutual
theorem Rp.dp : ∀ (d : PyData) (v : V), Rp K F v d → Dp K F v d
  | .none, _, h => by cases h; exact .non
  | .bool b, _, h => by cases h; exact .bl b
  | .int i, _, h => by cases h; exact .int i
  | .str x, _, h => by cases h; exact .str x
  | .list ds, _, h => by cases h with | lst hs hl ha => exact .lst hs (RpA.dp ds _ ha)
  | .tuple ds, _, h => by cases h with | tup hs hl ha => exact .tup hs (RpA.dp ds _ ha)
  | .dict _, _, h => by cases h
theorem RpA.dp : ∀ (ds : List PyData) (vs : List V), RpA K F vs ds → DpAll K F vs ds
  | [], _, h => by cases h; exact .nil
  | d :: ds, _, h => by cases h with | cons h1 h2 => exact .cons (Rp.dp d _ h1) (RpA.dp ds _ h2)
end
mutual
theorem Rp.lay : ∀ (d : PyData) (v : V), Rp K F v d → d.canLay0 = true
  | .none, _, _ => rfl
  | .bool b, _, _ => rfl
  | .int i, _, _ => rfl
  | .str x, _, h => by cases h with | str _ g => exact g.ok
  | .list ds, _, h => by cases h with | lst hs hl ha => exact RpA.lay ds _ ha
  | .tuple ds, _, h => by cases h with | tup hs hl ha => exact RpA.lay ds _ ha
  | .dict _, _, h => by cases h
theorem RpA.lay : ∀ (ds : List PyData) (vs : List V), RpA K F vs ds → PyData.canLayAll0 ds = true
  | [], _, _ => rfl
  | d :: ds, _, h => by cases h with | cons h1 h2 => exact Bool.and_eq_true_iff.mpr ⟨Rp.lay d _ h1, RpA.lay ds _ h2⟩
end

/-! ### what stands at a value, by its type -/
theorem RpA.length : ∀ {ds : List PyData} {vs : List V}, RpA K F vs ds → vs.length = ds.length
  | [], _, h => by cases h; rfl
  | d :: ds, _, h => by cases h with | cons h1 h2 => exact congrArg Nat.succ h2.length
theorem RpA.get : ∀ {ds : List PyData} {vs : List V} {i : Nat} {v : V}, RpA K F vs ds → vs[i]? = some v → ∃ d, ds[i]? = some d ∧ Rp K F v d
  | [], _, _, _, h, e => by cases h; simp at e
  | d :: ds, _, 0, _, h, e => by cases h with | cons h1 h2 => exact ⟨d, rfl, by simpa using (Option.some.inj e) ▸ h1⟩
  | d :: ds, _, i + 1, v, h, e => by
    cases h with
    | cons h1 h2 =>
      obtain ⟨d', e1, e2⟩ := h2.get (i := i) (v := v) (by simpa using e)
      exact ⟨d', by simpa using e1, e2⟩
theorem RpA.back : ∀ {ds : List PyData} {vs : List V} {i : Nat} {d : PyData}, RpA K F vs ds → ds[i]? = some d → ∃ v, vs[i]? = some v ∧ Rp K F v d
  | [], _, _, _, h, e => by simp at e
  | d :: ds, _, 0, _, h, e => by
    cases h with
    | cons h1 h2 =>
      have e' := Option.some.inj e
      subst e'
      exact ⟨_, rfl, h1⟩
  | d :: ds, _, i + 1, d', h, e => by
    cases h with
    | cons h1 h2 =>
      obtain ⟨v, e1, e2⟩ := h2.back (i := i) (d := d') (by simpa using e)
      exact ⟨v, by simpa using e1, e2⟩
theorem RpA.append : ∀ {ds es : List PyData} {vs us : List V}, RpA K F vs ds → RpA K F us es → RpA K F (vs ++ us) (ds ++ es)
  | [], _, _, _, h, g => by cases h; exact g
  | d :: ds, _, _, _, h, g => by cases h with | cons h1 h2 => exact .cons h1 (h2.append g)
theorem RpA.take : ∀ {ds : List PyData} {vs : List V} (n : Nat), RpA K F vs ds → RpA K F (vs.take n) (ds.take n)
  | _, _, 0, _ => .nil
  | _, _, _ + 1, .nil => .nil
  | _, _, n + 1, .cons h t => .cons h (RpA.take n t)
theorem RpA.drop : ∀ {ds : List PyData} {vs : List V} (n : Nat), RpA K F vs ds → RpA K F (vs.drop n) (ds.drop n)
  | _, _, 0, h => h
  | _, _, _ + 1, .nil => .nil
  | _, _, n + 1, .cons _ t => RpA.drop n t
theorem RpA.set : ∀ {ds : List PyData} {vs : List V} (n : Nat), Rp K F v d → RpA K F vs ds → RpA K F (vs.set n v) (ds.set n d)
  | _, _, _, _, .nil => .nil
  | _, _, 0, r, .cons _ t => .cons r t
  | _, _, n + 1, r, .cons h t => .cons h (RpA.set n r t)
theorem RpA.dropLast {ds : List PyData} {vs : List V} (h : RpA K F vs ds) : RpA K F vs.dropLast ds.dropLast := by
  rw [List.dropLast_eq_take, List.dropLast_eq_take, h.length]
  exact h.take _
theorem RpA.reverse : ∀ {ds : List PyData} {vs : List V}, RpA K F vs ds → RpA K F vs.reverse ds.reverse
  | [], _, h => by cases h; exact .nil
  | d :: ds, _, h => by
    cases h with
    | cons h1 h2 =>
      rw [List.reverse_cons, List.reverse_cons]
      exact h2.reverse.append (.cons h1 .nil)

section
variable {α β γ δ ε : Type} [Enc α] [Enc β] [Enc γ] [Enc δ] [Enc ε]
theorem R.int_v {i : Int} (h : R K F v i) : v = .int i := by cases h; rfl
theorem R.bl_v {b : Bool} (h : R K F v b) : v = .bl b := by cases h; rfl
theorem R.str_v {x : Str} (h : R K F v x) : v = .str x ∧ GS x := by cases h with | str _ g => exact ⟨rfl, g⟩
theorem R.non_v (h : R K F v (none : Option α)) : v = .non := by
  have h' : Rp K F v .none := h
  cases h'
  rfl
theorem R.lst_v {xs : List α} (h : R K F v xs) : ∃ p ws, v = .ref p ∧ SqL K F p ws ∧ ws.length ≤ sizeLine ∧ RL K F ws xs := by
  have h' : Rp K F v (.list (xs.map Enc.d)) := h
  cases h' with | lst h1 h2 h3 => exact ⟨_, _, rfl, h1, h2, h3⟩
theorem R.vt_v {x : VT α} (h : R K F v x) : ∃ p ws, v = .ref p ∧ SqT K F p ws ∧ ws.length ≤ sizeLine ∧ RL K F ws x.l := by
  have h' : Rp K F v (.tuple (x.l.map Enc.d)) := h
  cases h' with | tup h1 h2 h3 => exact ⟨_, _, rfl, h1, h2, h3⟩
theorem RpA.one {d1 : PyData} (h : RpA K F vs [d1]) : ∃ v1, vs = [v1] ∧ Rp K F v1 d1 := by
  cases h with | cons h1 h2 => cases h2; exact ⟨_, rfl, h1⟩
theorem RpA.two {d1 d2 : PyData} (h : RpA K F vs [d1, d2]) : ∃ v1 v2, vs = [v1, v2] ∧ Rp K F v1 d1 ∧ Rp K F v2 d2 := by
  cases h with | cons h1 h2 => obtain ⟨v2, rfl, r⟩ := h2.one; exact ⟨_, _, rfl, h1, r⟩
theorem RpA.three {d1 d2 d3 : PyData} (h : RpA K F vs [d1, d2, d3]) : ∃ v1 v2 v3, vs = [v1, v2, v3] ∧ Rp K F v1 d1 ∧ Rp K F v2 d2 ∧ Rp K F v3 d3 := by
  cases h with | cons h1 h2 => obtain ⟨v2, v3, rfl, r⟩ := h2.two; exact ⟨_, _, _, rfl, h1, r⟩
theorem RpA.four {d1 d2 d3 d4 : PyData} (h : RpA K F vs [d1, d2, d3, d4]) : ∃ v1 v2 v3 v4, vs = [v1, v2, v3, v4] ∧ Rp K F v1 d1 ∧ Rp K F v2 d2 ∧ Rp K F v3 d3 ∧ Rp K F v4 d4 := by
  cases h with | cons h1 h2 => obtain ⟨v2, v3, v4, rfl, r⟩ := h2.three; exact ⟨_, _, _, _, rfl, h1, r⟩
theorem RpA.five {d1 d2 d3 d4 d5 : PyData} (h : RpA K F vs [d1, d2, d3, d4, d5]) : ∃ v1 v2 v3 v4 v5, vs = [v1, v2, v3, v4, v5] ∧ Rp K F v1 d1 ∧ Rp K F v2 d2 ∧ Rp K F v3 d3 ∧ Rp K F v4 d4 ∧ Rp K F v5 d5 := by
  cases h with | cons h1 h2 => obtain ⟨v2, v3, v4, v5, rfl, r⟩ := h2.four; exact ⟨_, _, _, _, _, rfl, h1, r⟩
theorem R.p2_v {x : α × β} (h : R K F v x) : ∃ p v1 v2, v = .ref p ∧ SqT K F p [v1, v2] ∧ R K F v1 x.1 ∧ R K F v2 x.2 := by
  have h' : Rp K F v (.tuple [Enc.d x.1, Enc.d x.2]) := h
  cases h' with | tup h1 h2 h3 => obtain ⟨v1, v2, rfl, r1, r2⟩ := h3.two; exact ⟨_, _, _, rfl, h1, r1, r2⟩
theorem R.p3_v {x : T3 α β γ} (h : R K F v x) : ∃ p v1 v2 v3, v = .ref p ∧ SqT K F p [v1, v2, v3] ∧ R K F v1 x.a ∧ R K F v2 x.b ∧ R K F v3 x.c := by
  have h' : Rp K F v (.tuple [Enc.d x.a, Enc.d x.b, Enc.d x.c]) := h
  cases h' with | tup h1 h2 h3 => obtain ⟨v1, v2, v3, rfl, r⟩ := h3.three; exact ⟨_, _, _, _, rfl, h1, r⟩
theorem R.p4_v {x : T4 α β γ δ} (h : R K F v x) : ∃ p v1 v2 v3 v4, v = .ref p ∧ SqT K F p [v1, v2, v3, v4] ∧ R K F v1 x.a ∧ R K F v2 x.b ∧ R K F v3 x.c ∧ R K F v4 x.e := by
  have h' : Rp K F v (.tuple [Enc.d x.a, Enc.d x.b, Enc.d x.c, Enc.d x.e]) := h
  cases h' with | tup h1 h2 h3 => obtain ⟨v1, v2, v3, v4, rfl, r⟩ := h3.four; exact ⟨_, _, _, _, _, rfl, h1, r⟩
theorem R.p5_v {x : T5 α β γ δ ε} (h : R K F v x) : ∃ p v1 v2 v3 v4 v5, v = .ref p ∧ SqT K F p [v1, v2, v3, v4, v5] ∧ R K F v1 x.a ∧ R K F v2 x.b ∧ R K F v3 x.c ∧ R K F v4 x.e ∧ R K F v5 x.f := by
  have h' : Rp K F v (.tuple [Enc.d x.a, Enc.d x.b, Enc.d x.c, Enc.d x.e, Enc.d x.f]) := h
  cases h' with | tup h1 h2 h3 => obtain ⟨v1, v2, v3, v4, v5, rfl, r⟩ := h3.five; exact ⟨_, _, _, _, _, _, rfl, h1, r⟩
/-- making them -/
theorem R.mkl {xs : List α} (h1 : SqL K F p vs) (h2 : vs.length ≤ sizeLine) (h3 : RL K F vs xs) : R K F (.ref p) xs := .lst h1 h2 h3
theorem R.mkvt {xs : List α} (h1 : SqT K F p vs) (h2 : vs.length ≤ sizeLine) (h3 : RL K F vs xs) : R K F (.ref p) (VT.mk xs) := .tup h1 h2 h3
theorem R.mk2 {v1 v2 : V} {x : α} {y : β} (h1 : SqT K F p [v1, v2]) (r1 : R K F v1 x) (r2 : R K F v2 y) : R K F (.ref p) (x, y) := .tup h1 (by show 2 ≤ sizeLine; decide) (.cons r1 (.cons r2 .nil))
theorem R.mk3 {v1 v2 v3 : V} {x : α} {y : β} {z : γ} (h1 : SqT K F p [v1, v2, v3]) (r1 : R K F v1 x) (r2 : R K F v2 y) (r3 : R K F v3 z) : R K F (.ref p) (T3.mk x y z) := .tup h1 (by show 3 ≤ sizeLine; decide) (.cons r1 (.cons r2 (.cons r3 .nil)))
theorem R.mk4 {v1 v2 v3 v4 : V} {x : α} {y : β} {z : γ} {u : δ} (h1 : SqT K F p [v1, v2, v3, v4]) (r1 : R K F v1 x) (r2 : R K F v2 y) (r3 : R K F v3 z) (r4 : R K F v4 u) : R K F (.ref p) (T4.mk x y z u) := .tup h1 (by show 4 ≤ sizeLine; decide) (.cons r1 (.cons r2 (.cons r3 (.cons r4 .nil))))
theorem R.mk5 {v1 v2 v3 v4 v5 : V} {x : α} {y : β} {z : γ} {u : δ} {t : ε} (h1 : SqT K F p [v1, v2, v3, v4, v5]) (r1 : R K F v1 x) (r2 : R K F v2 y) (r3 : R K F v3 z) (r4 : R K F v4 u) (r5 : R K F v5 t) : R K F (.ref p) (T5.mk x y z u t) := .tup h1 (by show 5 ≤ sizeLine; decide) (.cons r1 (.cons r2 (.cons r3 (.cons r4 (.cons r5 .nil)))))
theorem RL.nil : RL K F [] ([] : List α) := RpA.nil
theorem RL.cons {x : α} {xs : List α} (r : R K F v x) (rs : RL K F vs xs) : RL K F (v :: vs) (x :: xs) := RpA.cons r rs
theorem RL.snoc {x : α} {xs : List α} (rs : RL K F vs xs) (r : R K F v x) : RL K F (vs ++ [v]) (xs ++ [x]) := by
  show RpA K F _ _
  rw [List.map_append]
  exact RpA.append rs (.cons r .nil)
theorem RL.app {us : List V} {xs ys : List α} (rs : RL K F vs xs) (r : RL K F us ys) : RL K F (vs ++ us) (xs ++ ys) := by
  show RpA K F _ _
  rw [List.map_append]
  exact RpA.append rs r
theorem RL.len {xs : List α} (rs : RL K F vs xs) : vs.length = xs.length := by
  have h := RpA.length rs
  rwa [List.length_map] at h
theorem RL.get {xs : List α} {i : Nat} (rs : RL K F vs xs) (e : vs[i]? = some v) : ∃ x, xs[i]? = some x ∧ R K F v x := by
  obtain ⟨d, e1, r⟩ := RpA.get rs e
  rw [List.getElem?_map] at e1
  cases h : xs[i]? with
  | none => rw [h] at e1; cases e1
  | some x =>
    rw [h] at e1
    have e2 : Enc.d x = d := Option.some.inj e1
    subst e2
    exact ⟨x, rfl, r⟩
theorem RL.back {xs : List α} {i : Nat} {x : α} (rs : RL K F vs xs) (e : xs[i]? = some x) : ∃ v, vs[i]? = some v ∧ R K F v x :=
  RpA.back rs (by rw [List.getElem?_map, e]; rfl)
theorem RL.at {xs : List α} {i : Int} {x : α} (rs : RL K F vs xs) (e : atI xs i = some x) : ∃ v, atI vs i = some v ∧ R K F v x := by
  unfold atI at e ⊢
  rw [rs.len]
  cases h : ixN xs.length i with
  | none => rw [h] at e; cases e
  | some j =>
    rw [h] at e
    exact rs.back e
theorem RL.cut {xs : List α} (lo hi : Option Int) (rs : RL K F vs xs) : RL K F (cutV vs lo hi) ((xs.drop (HT.sIx xs.length 0 lo)).take (HT.sIx xs.length xs.length hi - HT.sIx xs.length 0 lo)) := by
  unfold cutV
  rw [rs.len]
  show RpA K F _ _
  rw [List.map_take, List.map_drop]
  exact RpA.take _ (RpA.drop _ rs)
theorem RL.set {xs : List α} {x : α} (i : Nat) (r : R K F v x) (rs : RL K F vs xs) : RL K F (vs.set i v) (xs.set i x) := by
  show RpA K F _ _
  rw [List.map_set]
  exact RpA.set i r rs
theorem RL.rev {xs : List α} (rs : RL K F vs xs) : RL K F vs.reverse xs.reverse := by
  show RpA K F _ _
  rw [List.map_reverse]
  exact RpA.reverse rs
theorem RL.init {xs : List α} (rs : RL K F vs xs) : RL K F vs.dropLast xs.dropLast := by
  show RpA K F _ _
  rw [List.map_dropLast]
  exact RpA.dropLast rs
theorem RL.ints {xs : List Int} (rs : RL K F vs xs) : vs = xs.map V.int := by
  induction xs generalizing vs with
  | nil => cases rs; rfl
  | cons x xs ih => cases rs with | cons r t => rw [R.int_v r, ih t]; rfl
theorem RL.ofInts (xs : List Int) : RL K F (xs.map V.int) xs := by
  induction xs with
  | nil => exact .nil
  | cons x xs ih => exact .cons (.int x) ih
theorem RL.bls {xs : List Bool} (rs : RL K F vs xs) : vs = xs.map V.bl := by
  induction xs generalizing vs with
  | nil => cases rs; rfl
  | cons x xs ih => cases rs with | cons r t => rw [R.bl_v r, ih t]; rfl
theorem RL.strs {xs : List Str} (rs : RL K F vs xs) : vs = xs.map V.str ∧ ∀ x ∈ xs, GS x := by
  induction xs generalizing vs with
  | nil => cases rs; exact ⟨rfl, fun _ h => nomatch h⟩
  | cons x xs ih =>
    cases rs with
    | cons r t =>
      obtain ⟨e, g⟩ := R.str_v r
      obtain ⟨e2, g2⟩ := ih t
      refine ⟨by rw [e, e2]; rfl, fun y hy => ?_⟩
      rcases List.mem_cons.mp hy with rfl | hy
      · exact g
      · exact g2 y hy
theorem RL.ofStrs (xs : List Str) (h : ∀ x ∈ xs, GS x) : RL K F (xs.map V.str) xs := by
  induction xs with
  | nil => exact .nil
  | cons x xs ih => exact .cons (.str x (h x (List.mem_cons_self ..))) (ih fun y hy => h y (List.mem_cons_of_mem _ hy))
end
end

/-! ### how deep a type's data go -/
class Dep (α : Type) [Enc α] where
  n : Nat
  le : ∀ x : α, (Enc.d x).depth ≤ n
instance : Dep Int := ⟨0, fun _ => Nat.le_refl _⟩
instance : Dep Bool := ⟨0, fun _ => Nat.le_refl _⟩
instance : Dep Str := ⟨0, fun _ => Nat.le_refl _⟩
instance {α : Type} [Enc α] [Dep α] : Dep (Option α) := ⟨Dep.n α, fun o => by
  cases o with
  | none => exact Nat.zero_le _
  | some x => exact Dep.le x⟩
theorem depthAll_le {α : Type} [Enc α] [Dep α] : ∀ xs : List α, PyData.depthAll (xs.map Enc.d) ≤ Dep.n α
  | [] => Nat.zero_le _
  | x :: xs => Nat.max_le.mpr ⟨Dep.le x, depthAll_le xs⟩
instance {α : Type} [Enc α] [Dep α] : Dep (List α) := ⟨Dep.n α + 1, fun xs => Nat.succ_le_succ (depthAll_le xs)⟩
instance {α : Type} [Enc α] [Dep α] : Dep (VT α) := ⟨Dep.n α + 1, fun xs => Nat.succ_le_succ (depthAll_le xs.l)⟩
instance {α β : Type} [Enc α] [Enc β] [Dep α] [Dep β] : Dep (α × β) := ⟨max (Dep.n α) (Dep.n β) + 1, fun p => by
  have h1 := Dep.le p.1
  have h2 := Dep.le p.2
  show PyData.depthAll [Enc.d p.1, Enc.d p.2] + 1 ≤ _
  simp only [PyData.depthAll]
  omega⟩
instance {α β γ : Type} [Enc α] [Enc β] [Enc γ] [Dep α] [Dep β] [Dep γ] : Dep (T3 α β γ) := ⟨max (Dep.n α) (max (Dep.n β) (Dep.n γ)) + 1, fun p => by
  have h1 := Dep.le p.a
  have h2 := Dep.le p.b
  have h3 := Dep.le p.c
  show PyData.depthAll [Enc.d p.a, Enc.d p.b, Enc.d p.c] + 1 ≤ _
  simp only [PyData.depthAll]
  omega⟩
instance {α β γ δ : Type} [Enc α] [Enc β] [Enc γ] [Enc δ] [Dep α] [Dep β] [Dep γ] [Dep δ] : Dep (T4 α β γ δ) := ⟨max (Dep.n α) (max (Dep.n β) (max (Dep.n γ) (Dep.n δ))) + 1, fun p => by
  have h1 := Dep.le p.a
  have h2 := Dep.le p.b
  have h3 := Dep.le p.c
  have h4 := Dep.le p.e
  show PyData.depthAll [Enc.d p.a, Enc.d p.b, Enc.d p.c, Enc.d p.e] + 1 ≤ _
  simp only [PyData.depthAll]
  omega⟩
instance {α β γ δ ε : Type} [Enc α] [Enc β] [Enc γ] [Enc δ] [Enc ε] [Dep α] [Dep β] [Dep γ] [Dep δ] [Dep ε] : Dep (T5 α β γ δ ε) := ⟨max (Dep.n α) (max (Dep.n β) (max (Dep.n γ) (max (Dep.n δ) (Dep.n ε)))) + 1, fun p => by
  have h1 := Dep.le p.a
  have h2 := Dep.le p.b
  have h3 := Dep.le p.c
  have h4 := Dep.le p.e
  have h5 := Dep.le p.f
  show PyData.depthAll [Enc.d p.a, Enc.d p.b, Enc.d p.c, Enc.d p.e, Enc.d p.f] + 1 ≤ _
  simp only [PyData.depthAll]
  omega⟩
theorem R.shaped {α : Type} [Enc α] [Dep α] {K : PySem.W.Frag} {F : Hp} {v : V} {x : α} (r : R K F v x) (h : Dep.n α ≤ 64 := by decide) : SeqAt.shaped (Enc.d x) = true :=
  Bool.and_eq_true_iff.mpr ⟨Rp.lay _ _ r, decide_eq_true (Nat.le_trans (Dep.le x) h)⟩
/-- equal, as Python compares -/
def eqD {α : Type} [Enc α] (x y : α) : Bool := PyData.eqv (Enc.d x) (Enc.d y)

/-! ### growth: F is what stays as it is, H all that stands; M may be changed -/
structure Gr (M : Addr → Prop) (F0 H0 F H : Hp) : Prop where
  fh : Same F H
  ff : Same F0 F
  keep : ∀ a o, ¬ M a → H0 a = some o → H a = some o
  there : ∀ a, H0 a ≠ none → H a ≠ none
  new : ∀ a, H0 a ≠ none → F0 a = none → F a = none
abbrev M0 : Addr → Prop := fun _ => False
section
variable {M : Addr → Prop} {F0 H0 F H F' H' : Hp} {p a : Addr} {o : HO} {K : PySem.W.Frag} {xs : List V}
theorem Gr.refl (h : Same F H) : Gr M F H F H := ⟨h, Same.refl _, fun _ _ _ e => e, fun _ e => e, fun _ _ e => e⟩
theorem Gr.trans (g : Gr M F0 H0 F H) (k : Gr M F H F' H') : Gr M F0 H0 F' H' :=
  ⟨k.fh, g.ff.trans k.ff, fun a o n e => k.keep a o n (g.keep a o n e), fun a e => k.there a (g.there a e), fun a e n => k.new a (g.there a e) (g.new a e n)⟩
theorem Gr.of0 (g : Gr M0 F H F' H') : Gr M F H F' H' := ⟨g.fh, g.ff, fun a o _ e => g.keep a o id e, g.there, g.new⟩
theorem Gr.none0 (g : Gr M F0 H0 F H) (h : H a = none) : H0 a = none := by
  cases e : H0 a with
  | none => rfl
  | some o => exact absurd h (g.there a (by rw [e]; simp))
theorem Gr.noneF (g : Gr M F0 H0 F H) (h : H a = none) : F a = none := by
  cases e : F a with
  | none => rfl
  | some o => rw [g.fh a o e] at h; cases h
theorem same_new (h : F p = none) : Same F (upd F p o) := fun b u e => by rw [upd_ne (ne_of_none e h)]; exact e
theorem same_upd2 (h : Same F H) (hp : F p = none) : Same (upd F p o) (upd H p o) := fun b u e => by
  by_cases hb : b = p
  · subst hb; rw [upd_same] at e ⊢; exact e
  · rw [upd_ne hb] at e ⊢; exact h b u e
theorem same_out (h : Same F H) (hp : F p = none) : Same F (upd H p o) := fun b u e => by
  rw [upd_ne (ne_of_none e hp)]
  exact h b u e
/-- a new thing that stays as it is -/
theorem Gr.frz (g : Gr M F0 H0 F H) (h : H p = none) : Gr M F0 H0 (upd F p o) (upd H p o) :=
  ⟨same_upd2 g.fh (g.noneF h), g.ff.trans (same_new (g.noneF h)), fun a u n e => by rw [upd_ne (ne_of_none (g.keep a u n e) h)]; exact g.keep a u n e,
    fun a e => by
      by_cases ha : a = p
      · subst ha; rw [upd_same]; simp
      · rw [upd_ne ha]; exact g.there a e,
    fun a e n => by
      have ha : a ≠ p := fun z => by subst z; exact e (g.none0 h)
      rw [upd_ne ha]; exact g.new a e n⟩
/-- a new thing that may be changed -/
theorem Gr.own (g : Gr M F0 H0 F H) (h : H p = none) : Gr M F0 H0 F (upd H p o) :=
  ⟨same_out g.fh (g.noneF h), g.ff, fun a u n e => by rw [upd_ne (ne_of_none (g.keep a u n e) h)]; exact g.keep a u n e,
    fun a e => by
      by_cases ha : a = p
      · subst ha; rw [upd_same]; simp
      · rw [upd_ne ha]; exact g.there a e, g.new⟩
/-- a thing of ours is changed -/
theorem Gr.mut (g : Gr M F0 H0 F H) (n : F p = none) (n0 : H0 p = none ∨ M p) : Gr M F0 H0 F (upd H p o) :=
  ⟨same_out g.fh n, g.ff, fun a u m e => by
      have ha : a ≠ p := fun z => by
        subst z
        rcases n0 with z | z
        · rw [z] at e; cases e
        · exact m z
      rw [upd_ne ha]; exact g.keep a u m e,
    fun a e => by
      by_cases ha : a = p
      · subst ha; rw [upd_same]; simp
      · rw [upd_ne ha]; exact g.there a e, g.new⟩
/-- a thing of ours stays as it is from now on -/
theorem Gr.freeze (g : Gr M F0 H0 F H) (h : H p = some o) (n0 : H0 p = none) : Gr M F0 H0 (upd F p o) H :=
  ⟨fun b u e => by
      by_cases hb : b = p
      · subst hb; rw [upd_same] at e; cases e; exact h
      · rw [upd_ne hb] at e; exact g.fh b u e,
    fun b u e => by
      by_cases hb : b = p
      · subst hb
        have := g.fh b u (g.ff b u e)
        rw [h] at this; cases this
        exact upd_same
      · rw [upd_ne hb]; exact g.ff b u e, g.keep, g.there,
    fun a e n => by
      have ha : a ≠ p := fun z => by subst z; exact e n0
      rw [upd_ne ha]; exact g.new a e n⟩
theorem Gr.seq (g : Gr M F0 H0 F H) (m : ¬ M a) (h : SqL K H0 a xs) : SqL K H a xs := by
  rcases h with (h | ⟨o, h⟩) | h
  · exact .inl (.inl (g.keep _ _ m h))
  · exact .inl (.inr ⟨o, g.keep _ _ m h⟩)
  · exact .inr h
theorem same_frz (h : H p = some o) (n : F p = none) : Same F (upd F p o) := same_new n
end

/-! ### the makings, step by step -/
def bind2 {α β γ : Type} (o : Option (α × β)) (f : α → β → Option γ) : Option γ := o.bind fun p => f p.1 p.2
def bind3 {α β γ δ : Type} (o : Option (α × β × γ)) (f : α → β → γ → Option δ) : Option δ := o.bind fun p => f p.1 p.2.1 p.2.2
def bind4 {α β γ δ ε : Type} (o : Option (α × β × γ × δ)) (f : α → β → γ → δ → Option ε) : Option ε := o.bind fun p => f p.1 p.2.1 p.2.2.1 p.2.2.2
def bind5 {α β γ δ ε ζ : Type} (o : Option (α × β × γ × δ × ε)) (f : α → β → γ → δ → ε → Option ζ) : Option ζ := o.bind fun p => f p.1 p.2.1 p.2.2.1 p.2.2.2.1 p.2.2.2.2
theorem bnd {α β : Type} {o : Option α} {f : α → Option β} {r : β} (h : Option.bind o f = some r) : ∃ x, o = some x ∧ f x = some r := Option.bind_eq_some_iff.mp h
theorem bnd2 {α β γ : Type} {o : Option (α × β)} {f : α → β → Option γ} {r : γ} (h : bind2 o f = some r) : ∃ x y, o = some (x, y) ∧ f x y = some r :=
  let ⟨p, e, k⟩ := Option.bind_eq_some_iff.mp h
  ⟨p.1, p.2, e, k⟩
theorem bnd3 {α β γ δ : Type} {o : Option (α × β × γ)} {f : α → β → γ → Option δ} {r : δ} (h : bind3 o f = some r) : ∃ x y z, o = some (x, y, z) ∧ f x y z = some r :=
  let ⟨p, e, k⟩ := Option.bind_eq_some_iff.mp h
  ⟨p.1, p.2.1, p.2.2, e, k⟩
theorem bnd4 {α β γ δ ε : Type} {o : Option (α × β × γ × δ)} {f : α → β → γ → δ → Option ε} {r : ε} (h : bind4 o f = some r) : ∃ x y z u, o = some (x, y, z, u) ∧ f x y z u = some r :=
  let ⟨p, e, k⟩ := Option.bind_eq_some_iff.mp h
  ⟨p.1, p.2.1, p.2.2.1, p.2.2.2, e, k⟩
theorem bnd5 {α β γ δ ε ζ : Type} {o : Option (α × β × γ × δ × ε)} {f : α → β → γ → δ → ε → Option ζ} {r : ζ} (h : bind5 o f = some r) : ∃ x y z u t, o = some (x, y, z, u, t) ∧ f x y z u t = some r :=
  let ⟨p, e, k⟩ := Option.bind_eq_some_iff.mp h
  ⟨p.1, p.2.1, p.2.2.1, p.2.2.2.1, p.2.2.2.2, e, k⟩
/-- a loop's end: gone on, or handed back -/
inductive Lp (S R : Type) where
  | go (s : S)
  | ret (r : R)
def bindL {S R T : Type} (o : Option (Lp S R)) (f : S → Option T) (g : R → Option T) : Option T := o.bind fun l => match l with
  | .go s => f s
  | .ret r => g r
theorem ifT {α : Type} {c : Bool} {a b : α} {r : α} (h : c = true) (e : (if c = true then a else b) = r) : a = r := by rw [if_pos h] at e; exact e
theorem ifF {α : Type} {c : Bool} {a b : α} {r : α} (h : c = false) (e : (if c = true then a else b) = r) : b = r := by rw [if_neg (by rw [h]; decide)] at e; exact e
theorem iteB {c : Bool} {A B : Prop} (h1 : c = true → A) (h2 : c = false → B) : if c = true then A else B := by
  cases c with
  | true => exact h1 rfl
  | false => exact h2 rfl
theorem drop_at {α : Type} {xs : List α} {i : Nat} {x : α} (h : xs[i]? = some x) : xs.drop i = x :: xs.drop (i + 1) := by
  obtain ⟨h1, h2⟩ := List.getElem?_eq_some_iff.mp h
  rw [List.drop_eq_getElem_cons h1, h2]
theorem drop_end {α : Type} {xs : List α} {n : Nat} (h : n = xs.length) : xs.drop n = [] := by subst h; exact List.drop_length
end G
/-! My base, part 2: operations of the makings, and their rules. -/
namespace G
open PySem PySem.Spec PyProof.Rows L2 TL

/-! ### ints, truths -/
def eqI (a b : Int) : Bool := decide (V.int a = V.int b)
def neI (a b : Int) : Bool := !decide (V.int a = V.int b)
def eqB (a b : Bool) : Bool := decide (V.bl a = V.bl b)
def neB (a b : Bool) : Bool := !decide (V.bl a = V.bl b)
def eqS (a b : Str) : Bool := decide (V.str a = V.str b)
def neS (a b : Str) : Bool := !decide (V.str a = V.str b)
theorem eqI_iff {a b : Int} : eqI a b = decide (a = b) := by unfold eqI; simp
theorem neI_iff {a b : Int} : neI a b = !decide (a = b) := by unfold neI; simp
theorem eqB_iff {a b : Bool} : eqB a b = decide (a = b) := by unfold eqB; simp
theorem neB_iff {a b : Bool} : neB a b = !decide (a = b) := by unfold neB; simp
theorem eqS_iff {a b : Str} : eqS a b = decide (a = b) := by unfold eqS; simp
theorem neS_iff {a b : Str} : neS a b = !decide (a = b) := by unfold neS; simp
def toI (b : Bool) : Int := if b then 1 else 0
def mulI (a b : Int) : Option Int := if a.natAbs.log2 + b.natAbs.log2 < 1000000 then some (a * b) else none
def divI (a b : Int) : Option Int := if 0 < b ∧ b.natAbs.log2 < 9000 then some (a / b) else none
def modI (a b : Int) : Option Int := if 0 < b then some (a % b) else none
def shlI (a b : Int) : Option Int := if 0 ≤ b ∧ b ≤ 1000000 ∧ a.natAbs < 2 ^ 64 then some (a * 2 ^ b.toNat) else none
def shrI (a b : Int) : Option Int := if 0 ≤ b then some (a / 2 ^ b.toNat) else none
theorem mulI_ok {a b r : Int} (h : mulI a b = some r) : CMulW a b ∧ a * b = r := by
  unfold mulI at h
  split at h
  · exact ⟨by assumption, Option.some.inj h⟩
  · cases h
theorem divI_ok {a b r : Int} (h : divI a b = some r) : CDivW a b ∧ a / b = r := by
  unfold divI at h
  split at h
  · exact ⟨by assumption, Option.some.inj h⟩
  · cases h
theorem modI_ok {a b r : Int} (h : modI a b = some r) : 0 < b ∧ a % b = r := by
  unfold modI at h
  split at h
  · exact ⟨by assumption, Option.some.inj h⟩
  · cases h
theorem shlI_ok {a b r : Int} (h : shlI a b = some r) : CPow a b ∧ a * 2 ^ b.toNat = r := by
  unfold shlI at h
  split at h
  · exact ⟨by assumption, Option.some.inj h⟩
  · cases h
theorem shrI_ok {a b r : Int} (h : shrI a b = some r) : 0 ≤ b ∧ a / 2 ^ b.toNat = r := by
  unfold shrI at h
  split at h
  · exact ⟨by assumption, Option.some.inj h⟩
  · cases h
theorem maxI_eq {i j : Int} : (if j > i then j else i) = max i j := by omega
theorem minI_eq {i j : Int} : (if j < i then j else i) = min i j := by omega

/-! ### texts -/
def sgn (c : Nat) : Str := ⟨#[c]⟩
theorem GS.of {x : Str} (h1 : (tl x).length ≤ sizeLine) (h2 : ∀ c ∈ tl x, c < 0x110000) : GS x := by
  refine ⟨by rw [len_tl]; exact h1, ?_⟩
  show x.cps.all (fun c => decide (c < 0x110000)) = true
  rw [Array.all_eq_true']
  intro c hc
  exact decide_eq_true (h2 c (by simpa [tl] using hc))
theorem GS.mem {x : Str} (g : GS x) : ∀ c ∈ tl x, c < 0x110000 := by
  intro c hc
  have h : x.cps.all (fun c => decide (c < 0x110000)) = true := g.ok
  rw [Array.all_eq_true'] at h
  exact of_decide_eq_true (h c (by simpa [tl] using hc))
theorem GS.tll {x : Str} (g : GS x) : (tl x).length ≤ sizeLine := by rw [← len_tl]; exact g.len
theorem GS.sg {x : Str} {c : Nat} (g : GS x) (h : c ∈ tl x) : GS (sgn c) := GS.of (by show 1 ≤ sizeLine; decide) (fun d hd => by
  have e : d = c := by simpa [tl, sgn] using hd
  rw [e]
  exact g.mem c h)
theorem GS.cut {x : Str} (g : GS x) (lo hi : Option Int) : GS (cutS x lo hi) := GS.of (by
    rw [← len_tl]
    exact Nat.le_trans (cutS_length x lo hi) g.len)
  fun c hc => g.mem c (List.mem_of_mem_drop (List.mem_of_mem_take (show c ∈ ((tl x).drop _).take _ from hc)))
def catS (a b : Str) : Option Str := if a.length + b.length ≤ sizeLine then some (a ++ b) else none
theorem catS_ok {a b r : Str} (h : catS a b = some r) : a.length + b.length ≤ sizeLine ∧ a ++ b = r := by
  unfold catS at h
  split at h
  · exact ⟨by assumption, Option.some.inj h⟩
  · cases h
theorem GS.cat {a b r : Str} (ga : GS a) (gb : GS b) (h : catS a b = some r) : GS r := by
  obtain ⟨h1, rfl⟩ := catS_ok h
  refine GS.of ?_ fun c hc => ?_
  · rw [tl_append, List.length_append, ← len_tl, ← len_tl]
    exact h1
  · rw [tl_append] at hc
    rcases List.mem_append.mp hc with k | k
    · exact ga.mem c k
    · exact gb.mem c k
/-- the sign at a place -/
def codeAt (x : Str) (i : Int) : Option Nat := atI (tl x) i
theorem codeAt_mem {x : Str} {i : Int} {c : Nat} (h : codeAt x i = some c) : c ∈ tl x := by
  unfold codeAt atI at h
  cases e : ixN (tl x).length i with
  | none => rw [e] at h; cases h
  | some j => rw [e] at h; exact List.mem_of_getElem? h
def mulS (x : Str) (n : Int) : Option Str := if -(2 ^ 63 : Int) ≤ n ∧ n ≤ 16777216 ∧ x.length * n.toNat ≤ 16777216 then some (Txt.mul x n) else none
theorem mulS_ok {x r : Str} {n : Int} (h : mulS x n = some r) : MulOk x n ∧ Txt.mul x n = r := by
  unfold mulS at h
  split at h
  · rename_i q
    exact ⟨mulOk_of x.length n.toNat (Nat.le_refl _) (by omega) q.1 (by omega) q.2.2, Option.some.inj h⟩
  · cases h
theorem foldl_app (cs : Array Nat) : ∀ (k : Nat) (acc : Array Nat), ((List.replicate k cs).foldl (· ++ ·) acc).toList = acc.toList ++ (List.replicate k cs.toList).flatten
  | 0, acc => by simp
  | k + 1, acc => by
    rw [List.replicate_succ, List.foldl_cons, foldl_app cs k, List.replicate_succ, List.flatten_cons, Array.toList_append, List.append_assoc]
theorem tl_mul (x : Str) (n : Int) : tl (Txt.mul x n) = (List.replicate n.toNat (tl x)).flatten := by
  unfold Txt.mul
  split
  · have e : n.toNat = 0 := by omega
    rw [e]
    rfl
  · split
    · rename_i h1 h2
      rcases Bool.or_eq_true_iff.mp h2 with h | h
      · have e : n = 1 := eq_of_beq h
        subst e
        show tl x = [tl x].flatten
        simp
      · have e : x.length = 0 := eq_of_beq h
        have e2 : tl x = [] := List.eq_nil_of_length_eq_zero (by rw [← len_tl]; exact e)
        rw [e2]
        simp
    · show ((List.replicate n.toNat x.cps).foldl (· ++ ·) #[]).toList = _
      rw [foldl_app]
      rfl
theorem GS.mul {x r : Str} {n : Int} (g : GS x) (h : mulS x n = some r) : GS r := by
  have h0 := h
  unfold mulS at h0
  split at h0
  · rename_i q
    obtain ⟨_, rfl⟩ := mulS_ok h
    refine GS.of ?_ fun c hc => ?_
    · rw [tl_mul, List.length_flatten, List.map_replicate, List.sum_replicate_nat, ← len_tl, sizeLine_eq, Nat.mul_comm]
      exact q.2.2
    · rw [tl_mul] at hc
      obtain ⟨l, hl, hc⟩ := List.mem_flatten.mp hc
      rw [(List.mem_replicate.mp hl).2] at hc
      exact g.mem c hc
  · cases h0
def joinS (sep : Str) (ys : List Str) : Option Str := if (ys.map (·.length)).sum + ys.length * sep.length ≤ 16777216 then some (Txt.join sep ys) else none
theorem joinS_ok {sep r : Str} {ys : List Str} (h : joinS sep ys = some r) : (ys.map (·.length)).sum + ys.length * sep.length ≤ 16777216 ∧ Txt.join sep ys = r := by
  unfold joinS at h
  split at h
  · exact ⟨by assumption, Option.some.inj h⟩
  · cases h
theorem tl_joinS (sep : Str) (ys : List Str) : tl (Txt.join sep ys) = joinL (tl sep) (ys.map tl) := by
  have e : Txt.join sep ys = Str.join sep ys := by
    unfold Txt.join; exact StrLaws.glued_eq_join sep ys
  rw [e, tl_join]
end G
/-! My base, part 3: rules. -/
namespace G
open PySem PySem.Spec PyProof.Rows L2 TL

section
variable {X : Cx}
theorem CallR.imp {f : Value} {r r' : List V → Hp → VK → Prop} (h : CallR X f r) (k : ∀ xs H Q, r' xs H Q → r xs H Q) : CallR X f r' :=
  fun pins s σ H xs us Q I rx q => h pins s σ H xs us Q I rx (k _ _ _ q)
theorem OpR.imp {f : Value → Value → Sem Value} {r r' : R2} (h : OpR X f r) (k : ∀ x y H Q, r' x y H Q → r x y H Q) : OpR X f r' :=
  fun pins s σ H x y v u Q I rx ry q => h pins s σ H x y v u Q I rx ry (k _ _ _ _ q)
/-- int(a truth) -/
theorem call_toI : CallR X (.type "int") (fun xs H Q => ∃ k, xs = [.bl k] ∧ Q (.int (toI k)) H) := CallR.imp call_int1 fun xs H Q ⟨k, e, q⟩ => .inr ⟨k, e, q⟩
/-- len(a list or tuple), told -/
theorem call_lenL : CallR X (.builtin "len") (fun xs H Q => ∃ p ys n, xs = [.ref p] ∧ (SqL X.K H p ys ∨ SqT X.K H p ys) ∧ ys.length = n ∧ Q (.int (n : Nat)) H) :=
  CallR.imp call_len_seq fun xs H Q ⟨p, ys, n, e, h, e2, q⟩ => ⟨p, ys, e, h, by rw [e2]; exact q⟩
/-- is None, told -/
theorem op_isO : OpR X (compareOp .Is) (fun x y H Q => ∃ b, y = .non ∧ decide (x = .non) = b ∧ Q (.bl b) H) := OpR.imp op_isN fun x y H Q ⟨b, e, e2, q⟩ => ⟨e, by rw [e2]; exact q⟩
theorem op_notO : OpR X (compareOp .IsNot) (fun x y H Q => ∃ b, y = .non ∧ decide (x = .non) = b ∧ Q (.bl (!b)) H) := OpR.imp op_notN fun x y H Q ⟨b, e, e2, q⟩ => ⟨e, by rw [e2]; exact q⟩
theorem op_mulS : OpR X (binaryOp .Mult) (fun x y H Q => ∃ z n, x = .str z ∧ y = .int n ∧ MulOk z n ∧ Q (.str (Txt.mul z n)) H) := by
  intro pins s σ H x y v u Q I rx ry h
  obtain ⟨z, n, rfl, rfl, ok, q⟩ := h
  obtain ⟨t, rfl⟩ := rx
  obtain ⟨t', rfl⟩ := ry
  exact SB.mul ok fun t' k => ⟨.str _, H, I.tok k, ⟨t', rfl⟩, q⟩
/-- xs + ys, lists that are read -/
def rCatL (K : PySem.W.Frag) : R2 := fun x y H Q => ∃ l b xs zs, x = .ref l ∧ y = .ref b ∧ SqL K H l xs ∧ SqL K H b zs ∧ xs.length + zs.length ≤ sizeLine ∧ ∀ p, H p = none → Q (.ref p) (upd H p (.lst (xs ++ zs)))
theorem op_catL : OpR X (binaryOp .Add) (rCatL X.K) := by
  intro pins s σ H x y v u Q I rx ry h
  obtain ⟨l, b, xs, zs, rfl, rfl, hH, hB, hz, q⟩ := h
  cases rx
  cases ry
  obtain ⟨its, r, p1, hl⟩ := I.list hH
  obtain ⟨its2, r2, p2, hl2⟩ := I.list hB
  obtain ⟨⟨cls, dd, data, sl⟩, ho, hc, n, hd⟩ := p1.isList
  obtain ⟨⟨cls2, dd2, data2, sl2⟩, ho2, hc2, n2, hd2⟩ := p2.isList
  simp only at hc hd hc2 hd2
  subst hc hd hc2 hd2
  have ea : its.toArray ++ its2.toArray = (its ++ its2).toArray := by simp
  have e1 := r.length
  have e2 := r2.length
  refine concat_meets ⟨_, ho, rfl⟩ ⟨_, ho2, rfl⟩ noFill_list_add seq_list_add PySem.F.slot_list_add PySem.F.entry_list_add (PySem.F.args_list_add_2 _ _) (PyProof.Rows.list_addW l b its.toArray its2.toArray n n2 dd dd2 sl sl2 (by simp; omega)) ⟨ho, ho2, ?_⟩
  rw [ea]
  exact ⟨.ref _, _, I.lnew (t' := s.toks) (r.append r2) (by rw [List.length_append]; omega), rfl, q _ I.fresh⟩
end

/-! ### parts of an expression, closed: what they come to, whatever follows -/
section
variable {M : Addr → Prop} {F H : Hp} {σ : L2.St} {ta tb tc : TE} {Q : VK} {a c k : Bool}
/-- t comes to the truth c -/
def EvB (M : Addr → Prop) (F H : Hp) (t : VK → Prop) (c : Bool) : Prop := ∀ Q : VK, (∀ F' H', Gr M F H F' H' → Q (.bl c) H') → t Q
def EvT (M : Addr → Prop) (F H : Hp) (t : (Bool → Hp → Prop) → Prop) (c : Bool) : Prop := ∀ Q : Bool → Hp → Prop, (∀ F' H', Gr M F H F' H' → Q c H') → t Q
theorem andV_g (h1 : EvB M F H (fun Q => ta σ H Q) a) (h2 : a = true → ∀ F1 H1, Gr M F H F1 H1 → EvB M F1 H1 (fun Q => tb σ H1 Q) c) (h3 : a = false → c = false)
    (q : ∀ F' H', Gr M F H F' H' → Q (.bl c) H') : tAndV ta tb σ H Q := h1 _ fun F1 H1 g1 => ⟨a, rfl, by
  cases e : a with
  | true => exact iteT (h2 e F1 H1 g1 _ fun F2 H2 g2 => q F2 H2 (g1.trans g2))
  | false =>
    have ec := h3 e
    subst ec
    exact iteF (q F1 H1 g1)⟩
theorem orV_g (h1 : EvB M F H (fun Q => ta σ H Q) a) (h2 : a = false → ∀ F1 H1, Gr M F H F1 H1 → EvB M F1 H1 (fun Q => tb σ H1 Q) c) (h3 : a = true → c = true)
    (q : ∀ F' H', Gr M F H F' H' → Q (.bl c) H') : tOrV ta tb σ H Q := h1 _ fun F1 H1 g1 => ⟨a, rfl, by
  cases e : a with
  | false => exact iteF (h2 e F1 H1 g1 _ fun F2 H2 g2 => q F2 H2 (g1.trans g2))
  | true =>
    have ec := h3 e
    subst ec
    exact iteT (q F1 H1 g1)⟩
theorem andT_g {ta tb : TT} {Q : Bool → Hp → Prop} (h1 : EvT M F H (fun Q => ta σ H Q) a) (h2 : a = true → ∀ F1 H1, Gr M F H F1 H1 → EvT M F1 H1 (fun Q => tb σ H1 Q) c) (h3 : a = false → c = false)
    (q : ∀ F' H', Gr M F H F' H' → Q c H') : tAnd ta tb σ H Q := h1 _ fun F1 H1 g1 => by
  cases e : a with
  | true => exact iteT (h2 e F1 H1 g1 _ fun F2 H2 g2 => q F2 H2 (g1.trans g2))
  | false =>
    have ec := h3 e
    subst ec
    exact iteF (q F1 H1 g1)
theorem orT_g {ta tb : TT} {Q : Bool → Hp → Prop} (h1 : EvT M F H (fun Q => ta σ H Q) a) (h2 : a = false → ∀ F1 H1, Gr M F H F1 H1 → EvT M F1 H1 (fun Q => tb σ H1 Q) c) (h3 : a = true → c = true)
    (q : ∀ F' H', Gr M F H F' H' → Q c H') : tOr ta tb σ H Q := h1 _ fun F1 H1 g1 => by
  cases e : a with
  | false => exact iteF (h2 e F1 H1 g1 _ fun F2 H2 g2 => q F2 H2 (g1.trans g2))
  | true =>
    have ec := h3 e
    subst ec
    exact iteT (q F1 H1 g1)
/-- a < b < c -/
theorem chainV_g {r r' : R2} (h1 : EvB M F H (fun Q => ta σ H fun x H1 => tb σ H1 fun y H2 => r x y H2 Q) a) (h : tChain r r' ta tb tc σ H Q) : tChain r r' ta tb tc σ H Q := h
/-- e if t else e': it comes to what P says -/
theorem ifE_g {tt : TT} {P : V → Hp → Hp → Prop} (h1 : EvT M F H (fun Q => tt σ H Q) a)
    (h2 : a = true → ∀ F1 H1, Gr M F H F1 H1 → ∀ Q : VK, (∀ v F' H', Gr M F1 H1 F' H' → P v F' H' → Q v H') → ta σ H1 Q)
    (h3 : a = false → ∀ F1 H1, Gr M F H F1 H1 → ∀ Q : VK, (∀ v F' H', Gr M F1 H1 F' H' → P v F' H' → Q v H') → tb σ H1 Q)
    (q : ∀ v F' H', Gr M F H F' H' → P v F' H' → Q v H') : tIf tt ta tb σ H Q := h1 _ fun F1 H1 g1 => by
  cases e : a with
  | true => exact iteT (h2 e F1 H1 g1 _ fun v F2 H2 g2 => q v F2 H2 (g1.trans g2))
  | false => exact iteF (h3 e F1 H1 g1 _ fun v F2 H2 g2 => q v F2 H2 (g1.trans g2))
end

/-! ### peeling a statement -/
section
variable {D : Ends} {σ : L2.St} {H : Hp} {t u : TS} {te : TE} {g : TG} {c : TT}
theorem p_seq (h : t { D with nx := u D } σ H) : tSeq t u D σ H := h
theorem p_asg (h : te σ H (fun x H1 => g x σ H1 D.nx)) : tAsg te g D σ H := h
theorem p_ret (h : te σ H D.rt) : tRet te D σ H := h
theorem p_if (h : c σ H (fun b H1 => if b = true then t D σ H1 else u D σ H1)) : tIfS c t u D σ H := h
theorem p_drop (h : te σ H (fun _ H1 => D.nx σ H1)) : tDrop te D σ H := h
/-- a statement, then the rest, with a word between them -/
def tCut (t u : TS) : TS := fun D σ H => ∃ Mid : L2.St → Hp → Prop, t { D with nx := Mid } σ H ∧ ∀ σ' H', Mid σ' H' → u D σ' H'
theorem pss_cut {X : Cx} {st : Stmt} {rest : List Stmt} (h1 : PS X st t) (h2 : PSs X rest u) : PSs X (st :: rest) (tCut t u) := by
  refine ⟨fun pins s σ H D I h => ?_⟩
  obtain ⟨Mid, hm, hu⟩ := h
  refine wpAny_execs_cons (thn (h1.run pins s σ H { D with nx := Mid } I hm) fun f s1 q => ?_)
  cases f with
  | next =>
    obtain ⟨σ', H', I', q⟩ := q
    exact h2.run pins s1 σ' H' D I' (hu σ' H' q)
  | ret v => exact q
  | brk => exact q
  | cont => exact q
end

/-! ### a call by names alone -/
section
variable {X : Cx} {CX : CXT} {k : Nat} {f : Addr} {fd : FuncData} {ps ks : List Str} {sp : Sp} {E : XK} {x : Str} {p pos : Pos} {kws : List Keyword} {tk : TA} {g : List Value → List Value → List Value} {gV : List V → List V → List V}
theorem pe_callK0 (F : FnOk X.prog X.w X.K X.mg X.base CX k f fd ps sp) (hr : Room k X.A) (hg : Gl X x) (hm : X.mg x = some (.ref f)) (hk : PySem.W.keepIn X.K (.ref f) = true) (hb : KBinds X.K fd ps ks g gV) (hx : Passes CX X E)
    (hkw : PK X kws tk) (hall : (backToKw pos (keywordEach kws X.env)).all (·.1.isSome) = true := by rfl) (hks : (backToKw pos (keywordEach kws X.env)).filterMap (·.1) = ks := by rfl)
    (hdb : (x == ("__debug__" : Str)) = false := by decide)
    (hpl : ((backTo pos (starEach [] X.env)).any (·.1) || (backToKw pos (keywordEach kws X.env)).any (·.1.isNone)) = false := by rfl) :
    PE X (.Call (.Name x p) [] kws pos) (tCallK sp gV E tNil tk) := by
  refine ⟨fun pins s σ H Q I h => ?_⟩
  refine wpAny_Call_Name_kw (ld_glob I hg hm ?_ hdb)
  refine PySem.W.callWith_KW0 (h₀ := X.base) I.ok.mod.kin hk hall ?_ hpl
  refine thn (hkw.run pos pins s σ H _ I h) fun ws s2 ⟨zs, H2, I2, rz, q2⟩ => ⟨I2.kIn, ?_⟩
  rw [hks]
  exact run_fnk F hr hb hx I2 .nil rz q2
end

/-! ### texts kept in a written table -/
def dgetS (kvs : List (Str × Str)) (k d : Str) : Str := ((kvs.find? fun kv => decide (kv.1 = k)).map (·.2)).getD d
def kvS (kvs : List (Str × Str)) : List (Key × V) := kvs.map fun kv => (Sum.inr kv.1, V.str kv.2)
theorem valS (k : Str) : ∀ kvs : List (Str × Str), valV (kvS kvs) (Sum.inr k) = ((kvs.find? fun kv => decide (kv.1 = k)).map (·.2)).map V.str
  | [] => rfl
  | kv :: r => by
    unfold valV kvS
    rw [List.map_cons, List.find?_cons, List.find?_cons]
    by_cases h : kv.1 = k
    · have h' : (Sum.inr kv.1 : Key) = Sum.inr k := by rw [h]
      simp only [decide_eq_true h, decide_eq_true h', Option.map_some]
    · have h' : ¬ (Sum.inr kv.1 : Key) = Sum.inr k := fun e => h (Sum.inr.inj e)
      simp only [decide_eq_false h, decide_eq_false h']
      exact valS k r
theorem rd_dgets {ty tx : TE} {σ : L2.St} {H : Hp} {Q : VK} {k d : Str} (trs : List (TE × TE)) (kvs : List (Str × Str)) (he : trs = kvs.map fun kv => (tC (.str kv.1), tC (.str kv.2))) (h15 : kvs.length ≤ 15) (hm : mergeK [] (kvS kvs) = kvS kvs)
    (hy : ∀ H1 Q', Q' (.str k) H1 → ty σ H1 Q') (hx : ∀ H1 Q', Q' (.str d) H1 → tx σ H1 Q') (q : ∀ p, H p = none → Q (.str (dgetS kvs k d)) (upd H p (.dK (kvS kvs)))) : tDGet2 (tDisp trs) ty tx σ H Q := by
  intro p hp
  have walk : ∀ (l : List (Str × Str)) (R : List (V × V) → Hp → Prop) (H1 : Hp), R (l.map fun kv => (V.str kv.1, V.str kv.2)) H1 → tPairs (l.map fun kv => (tC (.str kv.1), tC (.str kv.2))) σ H1 R := by
    intro l
    induction l with
    | nil => intro R H1 h; exact h
    | cons kv l ih => intro R H1 h; exact ih (fun ps H3 => R ((V.str kv.1, V.str kv.2) :: ps) H3) H1 h
  rw [he]
  refine walk kvs _ _ ⟨upd_same, kvS kvs, ?_, ?_, ?_⟩
  · unfold kvS
    rw [List.map_map]
    rfl
  · unfold kvS
    rw [List.length_map]
    exact h15
  · rw [hm, upd_upd]
    refine ⟨p, rfl, .inl ⟨_, .inl upd_same⟩, hy _ _ (hx _ _ ⟨_, DGet.k (k := Sum.inr k) upd_same, ?_⟩)⟩
    rw [valS]
    have e : (((kvs.find? fun kv => decide (kv.1 = k)).map (·.2)).map V.str).getD (.str d) = .str (dgetS kvs k d) := by
      unfold dgetS
      cases (kvs.find? fun kv => decide (kv.1 = k)) <;> rfl
    rw [e]
    exact q p hp
theorem GS.dg {kvs : List (Str × Str)} {k d : Str} (h : ∀ kv ∈ kvs, GS kv.2) (hd : GS d) : GS (dgetS kvs k d) := by
  unfold dgetS
  cases e : (kvs.find? fun kv => decide (kv.1 = k)) with
  | none => exact hd
  | some kv => exact h kv (List.mem_of_find?_eq_some e)
end G
/-! My base, part 4: lists of one's own, the bag. -/
namespace G
open PySem PySem.Spec PyProof.Rows L2 TL

/-- a list of one's own at p: made behind the entry (H0), not among what stays (F) -/
structure Ow (H0 F H : Hp) (p : Addr) (ws : List V) : Prop where
  h : H p = some (.lst ws)
  nF : F p = none
  n0 : H0 p = none
section
variable {M : Addr → Prop} {F0 H0 F H F' H' : Hp} {p q : Addr} {o : HO} {K : PySem.W.Frag} {xs ws us : List V}
theorem Ow.new (g : Gr M F0 H0 F H) (hp : H p = none) : Ow H0 F (upd H p (.lst ws)) p ws := ⟨upd_same, g.noneF hp, g.none0 hp⟩
theorem Ow.frz (w : Ow H0 F H p ws) (hq : H q = none) : Ow H0 (upd F q o) (upd H q o) p ws :=
  have ne := ne_of_none w.h hq
  ⟨(upd_ne ne).trans w.h, (upd_ne ne).trans w.nF, w.n0⟩
theorem Ow.own (w : Ow H0 F H p ws) (hq : H q = none) : Ow H0 F (upd H q o) p ws :=
  have ne := ne_of_none w.h hq
  ⟨(upd_ne ne).trans w.h, w.nF, w.n0⟩
theorem Ow.put (w : Ow H0 F H p ws) : Ow H0 F (upd H p (.lst us)) p us := ⟨upd_same, w.nF, w.n0⟩
theorem Ow.other (w : Ow H0 F H p ws) (ne : p ≠ q) : Ow H0 F (upd H q o) p ws := ⟨(upd_ne ne).trans w.h, w.nF, w.n0⟩
theorem Ow.ne (w : Ow H0 F H p ws) (hq : H q = none) : p ≠ q := ne_of_none w.h hq
theorem Ow.gr (w : Ow H0 F H p ws) (g : Gr M F H F' H') (m : ¬ M p) : Ow H0 F' H' p ws :=
  ⟨g.keep _ _ m w.h, g.new p (by rw [w.h]; simp) w.nF, w.n0⟩
theorem Ow.gr0 (w : Ow H0 F H p ws) (g : Gr M0 F H F' H') : Ow H0 F' H' p ws := w.gr g id
theorem Ow.fz (w : Ow H0 F H p ws) (ne : p ≠ q) : Ow H0 (upd F q o) H p ws := ⟨w.h, (upd_ne ne).trans w.nF, w.n0⟩
theorem Gr.put (g : Gr M F0 H0 F H) (w : Ow H0 F H p ws) : Gr M F0 H0 F (upd H p o) := g.mut w.nF (.inl w.n0)
theorem Gr.fz (g : Gr M F0 H0 F H) (w : Ow H0 F H p ws) : Gr M F0 H0 (upd F p (.lst ws)) H := g.freeze w.h w.n0
theorem Ow.sq (w : Ow H0 F H p ws) : SqL K H p ws := .inl (.inl w.h)
theorem Ow.sf (w : Ow H0 F H p ws) : Same F (upd F p (.lst ws)) := same_new w.nF
theorem fzS : SqL K (upd F p (.lst ws)) p ws := .inl (.inl upd_same)
theorem fzT : SqT K (upd F p (.tup ws)) p ws := .inl (.inl upd_same)
end

/-- the bag of a law: its cells, which is next, the seed, how many were stirred -/
structure Bag where
  cells : List Int
  at_ : Nat
  seed : Int
  cnt : Int
structure BagOk (b : Bag) : Prop where
  lo : 0 ≤ b.seed
  hi : b.seed < 2 ^ 31
abbrev Bc (B C : Addr) : Addr → Prop := fun a => a = B ∨ a = C
structure BagAt (F H : Hp) (B C : Addr) (b : Bag) : Prop where
  hB : H B = some (.lst [.ref C, .int (b.at_ : Nat), .int b.seed, .int b.cnt])
  hC : H C = some (.lst (b.cells.map V.int))
  ne : B ≠ C
  fB : F B = none
  fC : F C = none
section
variable {M : Addr → Prop} {F0 H0 F H F' H' : Hp} {p q B C : Addr} {o : HO} {b b' : Bag} {ws : List V}
theorem BagAt.frz (a : BagAt F H B C b) (hq : H q = none) : BagAt (upd F q o) (upd H q o) B C b :=
  have n1 := ne_of_none a.hB hq
  have n2 := ne_of_none a.hC hq
  ⟨(upd_ne n1).trans a.hB, (upd_ne n2).trans a.hC, a.ne, (upd_ne n1).trans a.fB, (upd_ne n2).trans a.fC⟩
theorem BagAt.own (a : BagAt F H B C b) (hq : H q = none) : BagAt F (upd H q o) B C b :=
  have n1 := ne_of_none a.hB hq
  have n2 := ne_of_none a.hC hq
  ⟨(upd_ne n1).trans a.hB, (upd_ne n2).trans a.hC, a.ne, a.fB, a.fC⟩
theorem BagAt.nb (a : BagAt F H B C b) (hq : H q = none) : ¬ Bc B C q := fun z => by
  rcases z with z | z
  · exact ne_of_none a.hB hq z.symm
  · exact ne_of_none a.hC hq z.symm
theorem BagAt.other (a : BagAt F H B C b) (m : ¬ Bc B C q) : BagAt F (upd H q o) B C b :=
  have n1 : B ≠ q := fun z => m (.inl z.symm)
  have n2 : C ≠ q := fun z => m (.inr z.symm)
  ⟨(upd_ne n1).trans a.hB, (upd_ne n2).trans a.hC, a.ne, a.fB, a.fC⟩
theorem BagAt.fz (a : BagAt F H B C b) (m : ¬ Bc B C q) : BagAt (upd F q o) H B C b :=
  have n1 : B ≠ q := fun z => m (.inl z.symm)
  have n2 : C ≠ q := fun z => m (.inr z.symm)
  ⟨a.hB, a.hC, a.ne, (upd_ne n1).trans a.fB, (upd_ne n2).trans a.fC⟩
theorem BagAt.gr0 (a : BagAt F H B C b) (g : Gr M0 F H F' H') : BagAt F' H' B C b :=
  ⟨g.keep _ _ id a.hB, g.keep _ _ id a.hC, a.ne, g.new _ (by rw [a.hB]; simp) a.fB, g.new _ (by rw [a.hC]; simp) a.fC⟩
/-- a promise over the whole heap as what stays: the caller's own part stays apart -/
theorem Gr.apart (g : Gr M F0 H0 F H) (k : Gr M0 H H F' H') : Gr M F0 H0 F H' :=
  ⟨g.fh.trans fun a o e => k.keep a o id e, g.ff, fun a o m e => k.keep a o id (g.keep a o m e), fun a e => k.there a (g.there a e), g.new⟩
theorem Ow.apart (w : Ow H0 F H p ws) (k : Gr M0 H H F' H') : Ow H0 F H' p ws := ⟨k.keep _ _ id w.h, w.nF, w.n0⟩
theorem BagAt.apart (a : BagAt F H B C b) (k : Gr M0 H H F' H') : BagAt F H' B C b := ⟨k.keep _ _ id a.hB, k.keep _ _ id a.hC, a.ne, a.fB, a.fC⟩
end
end G
namespace G
open PySem PySem.Spec PyProof.Rows L2 TL
/-! ### loops' ends in the makings -/
def lpK {S R T : Type} (l : Lp S R) (f : S → Option T) (g : R → Option T) : Option T := match l with
  | .go s => f s
  | .ret r => g r
def bindL0 {R T : Type} (o : Option (Lp Unit R)) (f : Option T) (g : R → Option T) : Option T := o.bind fun l => lpK l (fun _ => f) g
def bindL1 {α R T : Type} (o : Option (Lp α R)) (f : α → Option T) (g : R → Option T) : Option T := o.bind fun l => lpK l f g
def bindL2 {α β R T : Type} (o : Option (Lp (α × β) R)) (f : α → β → Option T) (g : R → Option T) : Option T := o.bind fun l => lpK l (fun s => f s.1 s.2) g
def bindL3 {α β γ R T : Type} (o : Option (Lp (α × β × γ) R)) (f : α → β → γ → Option T) (g : R → Option T) : Option T := o.bind fun l => lpK l (fun s => f s.1 s.2.1 s.2.2) g
def bindL4 {α β γ δ R T : Type} (o : Option (Lp (α × β × γ × δ) R)) (f : α → β → γ → δ → Option T) (g : R → Option T) : Option T := o.bind fun l => lpK l (fun s => f s.1 s.2.1 s.2.2.1 s.2.2.2) g
section
variable {α β γ δ R T : Type} {g : R → Option T} {r : R} {t : T}
theorem bndL0 {o : Option (Lp Unit R)} {f : Option T} (h : bindL0 o f g = some t) : ∃ l, o = some l ∧ lpK l (fun _ => f) g = some t := Option.bind_eq_some_iff.mp h
theorem bndL1 {o : Option (Lp α R)} {f : α → Option T} (h : bindL1 o f g = some t) : ∃ l, o = some l ∧ lpK l f g = some t := Option.bind_eq_some_iff.mp h
theorem bndL2 {o : Option (Lp (α × β) R)} {f : α → β → Option T} (h : bindL2 o f g = some t) : ∃ l, o = some l ∧ lpK l (fun s => f s.1 s.2) g = some t := Option.bind_eq_some_iff.mp h
theorem bndL3 {o : Option (Lp (α × β × γ) R)} {f : α → β → γ → Option T} (h : bindL3 o f g = some t) : ∃ l, o = some l ∧ lpK l (fun s => f s.1 s.2.1 s.2.2) g = some t := Option.bind_eq_some_iff.mp h
theorem bndL4 {o : Option (Lp (α × β × γ × δ) R)} {f : α → β → γ → δ → Option T} (h : bindL4 o f g = some t) : ∃ l, o = some l ∧ lpK l (fun s => f s.1 s.2.1 s.2.2.1 s.2.2.2) g = some t := Option.bind_eq_some_iff.mp h
theorem bgo0 {f : Option T} (h : lpK (.go ()) (fun _ => f) g = some t) : f = some t := h
theorem bgo1 {f : α → Option T} {a : α} (h : lpK (.go a) f g = some t) : f a = some t := h
theorem bgo2 {f : α → β → Option T} {a : α} {b : β} (h : lpK (.go (a, b)) (fun s => f s.1 s.2) g = some t) : f a b = some t := h
theorem bgo3 {f : α → β → γ → Option T} {a : α} {b : β} {c : γ} (h : lpK (.go (a, b, c)) (fun s => f s.1 s.2.1 s.2.2) g = some t) : f a b c = some t := h
theorem bgo4 {f : α → β → γ → δ → Option T} {a : α} {b : β} {c : γ} {d : δ} (h : lpK (.go (a, b, c, d)) (fun s => f s.1 s.2.1 s.2.2.1 s.2.2.2) g = some t) : f a b c d = some t := h
theorem bret {S : Type} {f : S → Option T} (h : lpK (.ret r) f g = some t) : g r = some t := h
end
/-- ranges -/
def rangeL (lo : Int) (n : Nat) : List Int := (List.range n).map fun k => lo + (k : Nat)
theorem rangeL_at {lo : Int} {n i : Nat} (h : i < n) : (rangeL lo n)[i]? = some (lo + (i : Nat)) := by
  unfold rangeL
  rw [List.getElem?_map, List.getElem?_range h]
  rfl
theorem rangeL_len (lo : Int) (n : Nat) : (rangeL lo n).length = n := by unfold rangeL; simp
def rangeO (lo hi : Int) : Option (List Int) := if (-(2 ^ 62) ≤ lo ∧ lo < 2 ^ 62 ∧ -(2 ^ 62) ≤ hi ∧ hi < 2 ^ 62) ∧ (hi - lo).toNat ≤ sizeLine then some (rangeL lo (hi - lo).toNat) else none
theorem rangeO_ok {lo hi : Int} {l : List Int} (h : rangeO lo hi = some l) : ((-(2 ^ 62) ≤ lo ∧ lo < 2 ^ 62 ∧ -(2 ^ 62) ≤ hi ∧ hi < 2 ^ 62) ∧ (hi - lo).toNat ≤ sizeLine) ∧ rangeL lo (hi - lo).toNat = l := by
  unfold rangeO at h
  split at h
  · exact ⟨by assumption, Option.some.inj h⟩
  · cases h
def appL {α : Type} (xs : List α) (x : α) : Option (List α) := if xs.length < sizeLine then some (xs ++ [x]) else none
theorem appL_ok {α : Type} {xs r : List α} {x : α} (h : appL xs x = some r) : xs.length < sizeLine ∧ xs ++ [x] = r := by
  unfold appL at h
  split at h
  · exact ⟨by assumption, Option.some.inj h⟩
  · cases h
def conL {α : Type} (xs ys : List α) : Option (List α) := if xs.length + ys.length ≤ sizeLine then some (xs ++ ys) else none
theorem conL_ok {α : Type} {xs ys r : List α} (h : conL xs ys = some r) : xs.length + ys.length ≤ sizeLine ∧ xs ++ ys = r := by
  unfold conL at h
  split at h
  · exact ⟨by assumption, Option.some.inj h⟩
  · cases h
def cutL {α : Type} (xs : List α) (lo hi : Option Int) : List α := (xs.drop (HT.sIx xs.length 0 lo)).take (HT.sIx xs.length xs.length hi - HT.sIx xs.length 0 lo)
theorem str_at {x : Str} {i c : Nat} (h : x.cps[i]? = some c) : (tl x)[i]? = some c := by simpa [tl] using h
theorem str_size {x : Str} : x.cps.size = (tl x).length := by simp [tl]
theorem lt_line {a i n : Nat} (h : a ≤ i) (h2 : i < n) (h3 : n ≤ sizeLine) : a < sizeLine := by omega
theorem snoc_rest {α : Type} {ds rest res : List α} {x : α} (h : ds ++ (x :: rest) = res) : (ds ++ [x]) ++ rest = res := by rw [← h, List.append_assoc]; rfl
theorem sjoin {α : Type} {a b : α} (h : some a = some b) : a = b := Option.some.inj h
end G
/-! My base, part 5: more peeling, walks over texts, lists' operations. -/
namespace G
open PySem PySem.Spec PyProof.Rows L2 TL

section
variable {D : Ends} {σ : L2.St} {H : Hp} {t u : TS} {te : TE} {g : TG} {c : TT} {wi : TI} {i : Nat} {v : V} {k : L2.St → Hp → Prop}
theorem p_next (h : D.nx σ H) : tNext D σ H := h
theorem p_cont (h : D.ct σ H) : tCont D σ H := h
theorem p_brk (h : D.bk σ H) : tBreak D σ H := h
theorem p_name (h : k (σ.set i (some v)) H) : gName i v σ H k := h
theorem p_nm {v' : V} (e : v = v') (h : k (σ.set i (some v')) H) : gName i v σ H k := by subst e; exact h
theorem p_nx {f : L2.St → Hp → Prop} {r : VK} {bk ct : L2.St → Hp → Prop} (h : f σ H) : (Ends.mk f r bk ct).nx σ H := h
theorem p_yes {A B : Hp → Prop} (h : A H) : tYes σ H (fun b H3 => if b = true then A H3 else B H3) := h
theorem p_for (h : tFor wi g t D σ H) : tFor wi g t D σ H := h
theorem p_id (h : t D σ H) : t D σ H := h
end
theorem pjoin {α β : Type} {a c : α} {b d : β} (h : some (a, b) = some (c, d)) : a = c ∧ b = d := by
  injection h with h
  injection h with h1 h2
  exact ⟨h1, h2⟩
theorem pjoin3 {α β γ : Type} {a a' : α} {b b' : β} {c c' : γ} (h : some (a, b, c) = some (a', b', c')) : a = a' ∧ b = b' ∧ c = c' := by
  injection h with h
  injection h with h1 h2
  injection h2 with h2 h3
  exact ⟨h1, h2, h3⟩
theorem pjoin4 {α β γ δ : Type} {a a' : α} {b b' : β} {c c' : γ} {d d' : δ} (h : some (a, b, c, d) = some (a', b', c', d')) : a = a' ∧ b = b' ∧ c = c' ∧ d = d' := by
  injection h with h
  injection h with h1 h2
  injection h2 with h2 h3
  injection h3 with h3 h4
  exact ⟨h1, h2, h3, h4⟩
theorem pjoin5 {α β γ δ ε : Type} {a a' : α} {b b' : β} {c c' : γ} {d d' : δ} {e e' : ε} (h : some (a, b, c, d, e) = some (a', b', c', d', e')) : a = a' ∧ b = b' ∧ c = c' ∧ d = d' ∧ e = e' := by
  injection h with h
  injection h with h1 h2
  injection h2 with h2 h3
  injection h3 with h3 h4
  injection h4 with h4 h5
  exact ⟨h1, h2, h3, h4, h5⟩

/-! ### parts whose value is told -/
def tVal (t : TE) : TE := fun σ H Q => ∃ v, (∀ Q' : VK, Q' v H → t σ H Q') ∧ Q v H
def tValT (t : TT) : TT := fun σ H Q => ∃ b, (∀ Q' : Bool → Hp → Prop, Q' b H → t σ H Q') ∧ Q b H
section
variable {X : Cx}
theorem pe_val {e : Expr} {t : TE} (h : PE X e t) : PE X e (tVal t) := ⟨fun pins s σ H Q I q => by
  obtain ⟨v, k, q⟩ := q
  exact h.run pins s σ H Q I (k Q q)⟩
theorem pt_valT {e : Expr} {t : TT} (h : PT X e t) : PT X e (tValT t) := ⟨fun pins s σ H Q I q => by
  obtain ⟨v, k, q⟩ := q
  exact h.run pins s σ H Q I (k Q q)⟩
end
section
variable {a b : Bool} {H : Hp}
theorem qTv {Q : VK} (h : a = true) (q : Q (.bl (a && b)) H) : Q (.bl b) H := by subst h; exact q
theorem qFv {Q : VK} (h : a = false) (q : Q (.bl (a && b)) H) : Q (.bl false) H := by subst h; exact q
theorem qTb {Q : Bool → Hp → Prop} (h : a = true) (q : Q (a && b) H) : Q b H := by subst h; exact q
theorem qFb {Q : Bool → Hp → Prop} (h : a = false) (q : Q (a && b) H) : Q false H := by subst h; exact q
end
section
variable {F H : Hp} {σ : L2.St} {ta tb : TE} {Q : VK} {a b : Bool}
theorem andV_t (h1 : EvB M0 F H (fun Q => ta σ H Q) a) (h2 : a = true → ∀ F1 H1, Gr M0 F H F1 H1 → EvB M0 F1 H1 (fun Q => tb σ H1 Q) b)
    (q : ∀ F' H', Gr M0 F H F' H' → Q (.bl (a && b)) H') : tAndV ta tb σ H Q :=
  andV_g (c := a && b) h1 (fun e F1 H1 g => by rw [e]; exact h2 e F1 H1 g) (fun e => by rw [e]; rfl) q
theorem orV_t (h1 : EvB M0 F H (fun Q => ta σ H Q) a) (h2 : a = false → ∀ F1 H1, Gr M0 F H F1 H1 → EvB M0 F1 H1 (fun Q => tb σ H1 Q) b)
    (q : ∀ F' H', Gr M0 F H F' H' → Q (.bl (a || b)) H') : tOrV ta tb σ H Q :=
  orV_g (c := a || b) h1 (fun e F1 H1 g => by rw [e]; exact h2 e F1 H1 g) (fun e => by rw [e]; rfl) q
theorem andT_t {ta tb : TT} {Q : Bool → Hp → Prop} (h1 : EvT M0 F H (fun Q => ta σ H Q) a) (h2 : a = true → ∀ F1 H1, Gr M0 F H F1 H1 → EvT M0 F1 H1 (fun Q => tb σ H1 Q) b)
    (q : ∀ F' H', Gr M0 F H F' H' → Q (a && b) H') : tAnd ta tb σ H Q :=
  andT_g (c := a && b) h1 (fun e F1 H1 g => by rw [e]; exact h2 e F1 H1 g) (fun e => by rw [e]; rfl) q
theorem orT_t {ta tb : TT} {Q : Bool → Hp → Prop} (h1 : EvT M0 F H (fun Q => ta σ H Q) a) (h2 : a = false → ∀ F1 H1, Gr M0 F H F1 H1 → EvT M0 F1 H1 (fun Q => tb σ H1 Q) b)
    (q : ∀ F' H', Gr M0 F H F' H' → Q (a || b) H') : tOr ta tb σ H Q :=
  orT_g (c := a || b) h1 (fun e F1 H1 g => by rw [e]; exact h2 e F1 H1 g) (fun e => by rw [e]; rfl) q
end

/-! ### e if c else e', behind its test -/
section
variable {M : Addr → Prop} {F H : Hp} {σ : L2.St} {ta tb : TE} {Q : VK} {c : Bool}
theorem ifJ {P : V → Hp → Hp → Prop} (h2 : c = true → ∀ Q : VK, (∀ v F' H', Gr M F H F' H' → P v F' H' → Q v H') → ta σ H Q)
    (h3 : c = false → ∀ Q : VK, (∀ v F' H', Gr M F H F' H' → P v F' H' → Q v H') → tb σ H Q)
    (q : ∀ v F' H', Gr M F H F' H' → P v F' H' → Q v H') : if c = true then ta σ H Q else tb σ H Q := by
  cases e : c with
  | true => exact iteT (h2 e Q q)
  | false => exact iteF (h3 e Q q)
end

section
variable {M : Addr → Prop} {F H : Hp} {σ : L2.St} {tb : TE} {ub : TT} {Q : VK} {U : Bool → Hp → Prop} {a c : Bool} {P : Hp → Hp → Prop}
theorem andJV (h2 : a = true → ∀ Q : VK, (∀ F' H', Gr M F H F' H' → P F' H' → Q (.bl c) H') → tb σ H Q) (h3 : a = false → c = false ∧ P F H) (fh : Same F H)
    (q : ∀ F' H', Gr M F H F' H' → P F' H' → Q (.bl c) H') : if a = true then tb σ H Q else Q (.bl false) H := by
  cases e : a with
  | true => exact iteT (h2 e Q q)
  | false =>
    obtain ⟨ec, p⟩ := h3 e
    subst ec
    exact iteF (q _ _ (Gr.refl fh) p)
theorem orJV (h2 : a = false → ∀ Q : VK, (∀ F' H', Gr M F H F' H' → P F' H' → Q (.bl c) H') → tb σ H Q) (h3 : a = true → c = true ∧ P F H) (fh : Same F H)
    (q : ∀ F' H', Gr M F H F' H' → P F' H' → Q (.bl c) H') : if a = true then Q (.bl true) H else tb σ H Q := by
  cases e : a with
  | false => exact iteF (h2 e Q q)
  | true =>
    obtain ⟨ec, p⟩ := h3 e
    subst ec
    exact iteT (q _ _ (Gr.refl fh) p)
theorem andJT (h2 : a = true → ∀ U : Bool → Hp → Prop, (∀ F' H', Gr M F H F' H' → P F' H' → U c H') → ub σ H U) (h3 : a = false → c = false ∧ P F H) (fh : Same F H)
    (q : ∀ F' H', Gr M F H F' H' → P F' H' → U c H') : if a = true then ub σ H U else U false H := by
  cases e : a with
  | true => exact iteT (h2 e U q)
  | false =>
    obtain ⟨ec, p⟩ := h3 e
    subst ec
    exact iteF (q _ _ (Gr.refl fh) p)
theorem orJT (h2 : a = false → ∀ U : Bool → Hp → Prop, (∀ F' H', Gr M F H F' H' → P F' H' → U c H') → ub σ H U) (h3 : a = true → c = true ∧ P F H) (fh : Same F H)
    (q : ∀ F' H', Gr M F H F' H' → P F' H' → U c H') : if a = true then U true H else ub σ H U := by
  cases e : a with
  | false => exact iteF (h2 e U q)
  | true =>
    obtain ⟨ec, p⟩ := h3 e
    subst ec
    exact iteT (q _ _ (Gr.refl fh) p)
end
theorem qOv {a b : Bool} {H : Hp} {Q : VK} (h : a = false) (q : Q (.bl (a || b)) H) : Q (.bl b) H := by subst h; exact q
theorem qOb {a b : Bool} {H : Hp} {Q : Bool → Hp → Prop} (h : a = false) (q : Q (a || b) H) : Q b H := by subst h; exact q
theorem anF {a b : Bool} (h : a = false) : (a && b) = false := by rw [h]; rfl
theorem orTt {a b : Bool} (h : a = true) : (a || b) = true := by rw [h]; rfl
theorem ifTr {c : Bool} {A B : Prop} (h : c = true) (q : A) : if c = true then A else B := by rw [if_pos h]; exact q
theorem ifFr {c : Bool} {A B : Prop} (h : c = false) (q : B) : if c = true then A else B := by rw [if_neg (by rw [h]; decide)]; exact q

/-! ### None -/
class NN (α : Type) [Enc α] : Prop where
  ne : ∀ x : α, Enc.d x ≠ .none
instance : NN Int := ⟨fun _ => nofun⟩
instance : NN Bool := ⟨fun _ => nofun⟩
instance : NN Str := ⟨fun _ => nofun⟩
instance {α : Type} [Enc α] : NN (List α) := ⟨fun _ => nofun⟩
instance {α : Type} [Enc α] : NN (VT α) := ⟨fun _ => nofun⟩
instance {α β : Type} [Enc α] [Enc β] : NN (α × β) := ⟨fun _ => nofun⟩
instance {α β γ : Type} [Enc α] [Enc β] [Enc γ] : NN (T3 α β γ) := ⟨fun _ => nofun⟩
instance {α β γ δ : Type} [Enc α] [Enc β] [Enc γ] [Enc δ] : NN (T4 α β γ δ) := ⟨fun _ => nofun⟩
instance {α β γ δ ε : Type} [Enc α] [Enc β] [Enc γ] [Enc δ] [Enc ε] : NN (T5 α β γ δ ε) := ⟨fun _ => nofun⟩
theorem isN_eq {α : Type} [Enc α] [NN α] {K : PySem.W.Frag} {F : Hp} {v : V} {o : Option α} (r : R K F v o) : decide (v = .non) = o.isNone := by
  cases o with
  | none =>
    have e := R.non_v r
    subst e
    rfl
  | some x =>
    have r' : Rp K F v (Enc.d x) := r
    have h : v ≠ .non := fun e => by
      subst e
      have n := NN.ne x
      revert r' n
      generalize Enc.d x = d
      intro r' n
      cases r'
      exact n rfl
    exact decide_eq_false h

/-! ### walks over texts -/
theorem str_lt {x : Str} {i c : Nat} (h : x.cps[i]? = some c) : i < x.cps.size := (Array.getElem?_eq_some_iff.mp h).1
theorem for_str {z : Str} {g : TG} {tb : TS} {D : Ends} {σ : L2.St} {H : Hp} (Pv : Nat → L2.St → Hp → Prop) (h0 : Pv 0 σ H)
    (hs : ∀ i c σ H, z.cps[i]? = some c → Pv i σ H → g (.str (sgn c)) σ H fun σ2 H2 => tb { D with nx := Pv (i + 1), ct := Pv (i + 1), bk := D.nx } σ2 H2) (hd : ∀ σ H, Pv z.cps.size σ H → D.nx σ H) :
    ∃ W : Nat → Nat → L2.St → Hp → Prop, (∃ m, W 0 m σ H) ∧ ∀ i m σ H, W i m σ H →
      ((Its z).stop i H ∧ D.nx σ H) ∨ ((Its z).go i H ∧ ∃ N : L2.St → Hp → Prop, (∀ σ' H', N σ' H' → ∃ m', m' < m ∧ W (i + 1) m' σ' H') ∧ ∀ x H', (Its z).yld i H x H' → g x σ H' fun σ2 H2 => tb { D with nx := N, ct := N, bk := D.nx } σ2 H2) :=
  for_it walk_str Pv h0 (fun _ _ _ _ _ => trivial) (fun i x σ H H' _ p y => by
    obtain ⟨rfl, c, hc, rfl⟩ := y
    exact hs i c σ _ hc p) hd
theorem lc_str {z : Str} {g : TG} {tt : TT} {te : TE} {vs : List Nat} {σ : L2.St} {H1 : Hp} {D : Addr} {Qd : Hp → Prop} (Pv : Nat → Hp → Prop) (h0 : Pv 0 (upd H1 D (.lst [])))
    (hs : ∀ i c H, z.cps[i]? = some c → Pv i H → g (.str (sgn c)) (wipe σ vs) H fun σ2 H2 => wipe σ2 vs = wipe σ vs ∧ tt σ2 H2 fun b H3 =>
      if b = true then te σ2 H3 fun y H4 => ∃ acc, H4 D = some (.lst acc) ∧ acc.length < sizeLine ∧ Pv (i + 1) (upd H4 D (.lst (acc ++ [y]))) else Pv (i + 1) H3) (hd : ∀ H, Pv z.cps.size H → Qd H) :
    ∃ W : Nat → Nat → Hp → Prop, (∃ m, W 0 m (upd H1 D (.lst []))) ∧ ∀ i m H, W i m H →
      ((Its z).stop i H ∧ Qd H) ∨ ((Its z).go i H ∧ ∃ Nx : Hp → Prop, (∀ H', Nx H' → ∃ m', m' < m ∧ W (i + 1) m' H') ∧ ∀ x H', (Its z).yld i H x H' → g x (wipe σ vs) H' fun σ2 H2 => wipe σ2 vs = wipe σ vs ∧ tt σ2 H2 fun b H3 =>
        if b = true then te σ2 H3 fun y H4 => ∃ acc, H4 D = some (.lst acc) ∧ acc.length < sizeLine ∧ Nx (upd H4 D (.lst (acc ++ [y]))) else Nx H3) :=
  lc_it walk_str Pv h0 (fun _ _ _ _ => trivial) (fun i x H H' _ p y => by
    obtain ⟨rfl, c, hc, rfl⟩ := y
    exact hs i c _ hc p) hd

/-! ### ranges from nought, lists -/
def rangeO1 (hi : Int) : Option (List Int) := if (-(2 ^ 62) ≤ hi ∧ hi < 2 ^ 62) ∧ hi.toNat ≤ sizeLine then some (rangeL 0 hi.toNat) else none
theorem rangeO1_ok {hi : Int} {l : List Int} (h : rangeO1 hi = some l) : ((-(2 ^ 62) ≤ hi ∧ hi < 2 ^ 62) ∧ hi.toNat ≤ sizeLine) ∧ rangeL 0 hi.toNat = l := by
  unfold rangeO1 at h
  split at h
  · exact ⟨by assumption, Option.some.inj h⟩
  · cases h
def setL {α : Type} (xs : List α) (i : Int) (x : α) : Option (List α) := (ixN xs.length i).map fun j => xs.set j x
theorem setL_ok {α : Type} {xs r : List α} {i : Int} {x : α} (h : setL xs i x = some r) : ∃ j, ixN xs.length i = some j ∧ xs.set j x = r := by
  unfold setL at h
  cases e : ixN xs.length i with
  | none => rw [e] at h; cases h
  | some j =>
    rw [e] at h
    exact ⟨j, rfl, Option.some.inj h⟩
/-- sorted whole numbers -/
def sortI (xs : List Int) : List Int := xs.mergeSort fun a b => decide (a ≤ b)
theorem sortI_perm (xs : List Int) : (sortI xs).Perm xs := List.mergeSort_perm _ _
theorem sortI_sorted (xs : List Int) : (sortI xs).Pairwise (· ≤ ·) := by
  have h := List.pairwise_mergeSort (le := fun a b : Int => decide (a ≤ b)) (fun a b c h1 h2 => decide_eq_true (Int.le_trans (of_decide_eq_true h1) (of_decide_eq_true h2)))
    (fun a b => by
      rcases Int.le_total a b with h | h
      · rw [decide_eq_true h]; rfl
      · rw [decide_eq_true h, Bool.or_true]) xs
  exact h.imp fun h => of_decide_eq_true h
theorem sortI_len (xs : List Int) : (sortI xs).length = xs.length := (sortI_perm xs).length_eq
theorem sorted_uniq : ∀ {xs ys : List Int}, xs.Perm ys → xs.Pairwise (· ≤ ·) → ys.Pairwise (· ≤ ·) → xs = ys
  | xs, ys, h, h1, h2 => h.eq_of_pairwise (le := (· ≤ ·)) (fun a b _ _ h3 h4 => Int.le_antisymm h3 h4) h1 h2
theorem sortI_uniq {ns ys : List Int} (h : ys.Perm ns) (h2 : ys.Pairwise (· ≤ ·)) : sortI ns = ys :=
  sorted_uniq ((sortI_perm ns).trans h.symm) (sortI_sorted ns) h2

/-! ### texts: what is stripped, joined -/
theorem GS.sub {x y : Str} (g : GS x) (h : ∀ c ∈ tl y, c ∈ tl x) (hl : (tl y).length ≤ (tl x).length) : GS y := GS.of (Nat.le_trans hl g.tll) fun c hc => g.mem c (h c hc)
theorem GS.join {sep r : Str} {ys : List Str} (gs : GS sep) (gy : ∀ y ∈ ys, GS y) (h : joinS sep ys = some r) : GS r := by
  obtain ⟨h1, rfl⟩ := joinS_ok h
  refine GS.of ?_ fun c hc => ?_
  · rw [← len_tl]
    have e : Txt.join sep ys = Str.join sep ys := by unfold Txt.join; exact StrLaws.glued_eq_join sep ys
    rw [e]
    refine Nat.le_trans (StrLaws.join_length_le sep ys) ?_
    rw [sizeLine_eq]
    exact h1
  · rw [tl_joinS] at hc
    have mem : ∀ (l : List (List Nat)), c ∈ joinL (tl sep) l → c ∈ tl sep ∨ ∃ p ∈ l, c ∈ p := by
      intro l
      induction l with
      | nil => intro h; cases h
      | cons p r ih =>
        cases r with
        | nil => intro h; exact .inr ⟨p, List.mem_singleton.mpr rfl, h⟩
        | cons q r =>
          intro h
          rcases List.mem_append.mp (show c ∈ p ++ (tl sep ++ joinL (tl sep) (q :: r)) from h) with h | h
          · exact .inr ⟨p, List.mem_cons_self .., h⟩
          · rcases List.mem_append.mp h with h | h
            · exact .inl h
            · rcases ih h with h | ⟨p', hp, h⟩
              · exact .inl h
              · exact .inr ⟨p', List.mem_cons_of_mem _ hp, h⟩
    rcases mem _ hc with h | ⟨p, hp, h⟩
    · exact gs.mem c h
    · obtain ⟨y, hy, rfl⟩ := List.mem_map.mp hp
      exact (gy y hy).mem c h
theorem GS.strip {x : Str} (g : GS x) (y : Str) : GS (Txt.stripChars x y) := by
  unfold Txt.stripChars Txt.stripBy
  split
  · exact g
  · have e : ∀ i j, tl (Builtin.Str.strSub x i j) = ((tl x).take j).drop i := fun i j => by
      show (x.cps.extract i j).toList = _
      rw [List.drop_take]
      simp [tl]
    refine g.sub (fun c hc => ?_) ?_
    · unfold stripped at hc
      rw [e] at hc
      exact List.mem_of_mem_take (List.mem_of_mem_drop hc)
    · unfold stripped
      rw [e, List.length_drop, List.length_take]
      omega
end G
/-! My base, part 6: defs by data. -/
namespace G
open PySem PySem.Spec PyProof.Rows L2 TL
abbrev FnP (K : PySem.W.Frag) (x : Str) (st : Stmt) (f : Addr) (fd : FuncData) : Prop := FunD K x x (defArgs st) (defBody st) (defScope st) [] [] f fd
section
variable {P : Program} {w : World} {K : PySem.W.Frag} {mg : Str → Option Value} {base : Heap} {x qual : Str} {params : Arguments} {body : List Stmt} {scope : Scope} {f : Addr} {fd : FuncData}
theorem fd_ok {N ps : List Str} {k : Nat} {sp : Sp} (F : FunD K x qual params body scope [] [] f fd) (S : FnScope N ps scope) (len : ∀ vs H Q E, sp vs H Q E → vs.length = ps.length)
    (hbody : ∀ (cdv : Value) (A : Around) (outer : List Env) (s : Shared) (H : Hp) (vs : List V) (Q : VK) (E : XK), Room k (A.deeper (envOfC qual scope s.heap.objs.size f cdv)) → sp vs H Q E →
      ∃ t, PSs (cxOf CX0 P w K mg base N qual scope f cdv A outer s H E).nox body t ∧ t { nx := fun _ H' => Q .non H', rt := Q } (start N vs) H) : FnOk P w K mg base CX0 (k + 1) f fd ps sp :=
  FunD.ok F S len fun cdv A outer s H vs Q E hr hsp =>
    let ⟨t, h, q⟩ := hbody cdv A outer s H vs Q E hr hsp
    ⟨t, h.nox, q⟩
theorem fd_plain (F : FunD K x qual params body scope [] [] f fd) : ∃ kV doc pm an cdv ct, fd = PySem.W.fnOf x qual params body scope .none kV doc pm an cdv ct := by
  obtain ⟨oc, od, dV, kV, doc, pm, an, cdv, ct, osl, rfl, lk, hcd, hD, hK⟩ := F.ex
  rcases hD with ⟨_, rfl⟩ | ⟨e, _⟩
  · exact ⟨kV, doc, pm, an, cdv, ct, rfl⟩
  · exact absurd rfl e
end
end G
/-! My base, part 7: a text turned round. -/
namespace G
open PySem PySem.Spec PyProof.Rows L2 TL
def revS (x : Str) : Str := ⟨(tl x).reverse.toArray⟩
theorem tl_revS (x : Str) : tl (revS x) = (tl x).reverse := by unfold revS tl; simp
theorem revS_len (x : Str) : (revS x).length = x.length := by rw [len_tl, tl_revS, List.length_reverse, ← len_tl]
theorem GS.rev {x : Str} (g : GS x) : GS (revS x) := g.sub (fun c hc => by rw [tl_revS] at hc; exact List.mem_reverse.mp hc) (by rw [tl_revS, List.length_reverse]; exact Nat.le_refl _)
theorem rev_pick (z : Str) : (⟨((Builtin.Str.strSliceIndices none none (-1) z.length).filterMap (z.cps[·]?)).toArray⟩ : Str) = revS z := by
  have h := step_rev_list z default
  unfold Txt.sliceBy slicePicked at h
  rw [if_neg (by intro h; exact absurd (Bool.and_eq_true_iff.mp h).1 (by decide))] at h
  unfold revS
  have e2 : (tl z).reverse = (List.range z.length).map fun k => z.cps.getD (z.length - 1 - k) 0 := by
    refine List.ext_getElem (by rw [List.length_reverse, List.length_map, List.length_range, ← len_tl]) fun i h1 h2 => ?_
    rw [List.getElem_reverse, List.getElem_map, List.getElem_range]
    have hi : i < z.length := by rw [List.length_reverse, ← len_tl] at h1; exact h1
    have hz : z.cps.size = z.length := rfl
    simp only [tl, Array.getElem_toList, Array.length_toList]
    rw [Array.getD, dif_pos (show z.length - 1 - i < z.cps.size by omega)]
    rfl
  rw [e2, ← h]
  rfl
def tRevS (te : TE) : TE := fun σ H Q => te σ H fun x H1 => ∃ z, x = .str z ∧ z.length ≤ sizeLine ∧ Q (.str (revS z)) H1
theorem pe_revS {X : Cx} {e : Expr} {te : TE} {k : Nat} {p1 p2 p3 pos : Pos} (he : PE X e te) : PE X (.Subscript e (.Slice none none (some (.UnaryOp .USub (.Constant (.int 1) k p1) p2)) p3) pos) (tRevS te) := by
  refine ⟨fun pins s σ H Q I h => ?_⟩
  refine Subscript_ (thn (he.run pins s σ H _ I h) fun v s1 ⟨x, H1, I1, r1, q1⟩ => ?_)
  obtain ⟨z, ex, hz, q⟩ := q1
  subst ex
  obtain ⟨t, rfl⟩ := r1
  have hst : PO X (some (.UnaryOp .USub (.Constant (.int 1) k p1) p2)) (tPart (tUn (rU fun i => .int (-i)) (tC (.int 1)))) := po_some (pe_un un_neg pe_int)
  refine wpAny_Slice (thn (po_none.run pins s1 σ H1 (fun o H2 => o = none ∧ H2 = H1) I1 ⟨rfl, rfl⟩) fun vl s2 ⟨l, H2, I2, pl, el, e2⟩ => ?_)
  subst el e2
  refine thn (po_none.run pins s2 σ H2 (fun o H3 => o = none ∧ H3 = H2) I2 ⟨rfl, rfl⟩) fun vu s3 ⟨u, H3, I3, pu, eu, e3⟩ => ?_
  subst eu e3
  refine thn (hst.run pins s3 σ H3 (fun o H4 => o = some (-1) ∧ H4 = H3) I3 ⟨1, rfl, -1, rfl, rfl, rfl⟩) fun vs s4 ⟨o, H4, I4, ps, eo, e4⟩ => ?_
  subst eo e4
  have I5 : Inv X pins σ H4 { s4 with heap := s4.heap.push { cls := .type "slice", data := .fields #[vl, vu, vs] } } := I4.kept (t' := s4.toks) fun b ob q => Heap.get?_push_of_some _ q
  cases pl
  cases pu
  cases ps with | int _ t2 => ?_
  show wpAny (model X.prog X.w) X.A (subscriptTail e (.Slice none none (some (.UnaryOp .USub (.Constant (.int 1) k p1) p2)) p3) (.str z t) (.ref s4.heap.objs.size)) (EP X pins σ Q) X.xe { s4 with heap := s4.heap.push { cls := .type "slice", data := .fields #[.none, .none, .int (-1) t2] } }
  refine tail_any (ops := [.str z t, .ref s4.heap.objs.size]) (typeIs_str _ _ _) F.slot_str_getitem.lookup ?_ (by with_unfolding_all rfl)
  obtain ⟨os, hos, hcs, hds⟩ := Heap.IsSliceOf.new s4.heap Value.none Value.none (Value.int (-1) t2)
  refine wpAny_getItem_str_slice (l := none) (u := none) (st := some (-1, t2)) ⟨os, hos, hcs, hds⟩ rfl ?_
  have e1 : sliceMade z t none none (some (-1, t2)) = .str (revS z) := by
    unfold sliceMade
    rw [if_neg (by intro h; exact absurd (show ((-1 : Int) == 1) = true from (Bool.and_eq_true_iff.mp h).1) (by decide))]
    exact congrArg Made.str (rev_pick z)
  rw [e1]
  have hl : (revS z).length ≤ sizeLine := by rw [revS_len]; exact hz
  exact ⟨hl, .str _, _, I5.tok _, ⟨_, rfl⟩, q⟩
end G
/-! My base, part 8: which type a thing is of; alike. -/
namespace G
open PySem PySem.Spec PyProof.Rows L2 TL
def tyD : PyData → String
  | .none => "NoneType"
  | .bool _ => "bool"
  | .int _ => "int"
  | .str _ => "str"
  | .list _ => "list"
  | .tuple _ => "tuple"
  | .dict _ => "dict"
def isSq (d : PyData) : Bool := tyD d == "list" || tyD d == "tuple"
section
variable {K : PySem.W.Frag} {F H : Hp} {v : V} {d : PyData} {a : Addr} {xs : List V}
theorem SqL.ty (h : SqL K H a xs) : TyX K H (.ref a) (.type "list") := by
  rcases h with (h | ⟨o, h⟩) | ⟨o, its, n, e, c, _⟩
  · exact .base (.lst h)
  · exact .base (.frz h)
  · exact .kList e c
theorem SqT.ty (h : SqT K H a xs) : TyX K H (.ref a) (.type "tuple") := by
  rcases h with (h | ⟨o, h⟩) | ⟨o, its, n, e, c, _⟩
  · exact .base (.tup h)
  · exact .fTuple h
  · exact .kTuple e c
theorem Rp.ty (h : Rp K H v d) : TyX K H v (.type (tyD d)) := by
  cases h with
  | non => exact .base .non
  | bl b => exact .base (.bl b)
  | int i => exact .base (.int i)
  | str x _ => exact .base (.str x)
  | lst hs _ _ => exact SqL.ty hs
  | tup hs _ _ => exact SqT.ty hs
/-- the six kinds -/
def Knd (s : String) : Prop := s = "NoneType" ∨ s = "bool" ∨ s = "int" ∨ s = "str" ∨ s = "list" ∨ s = "tuple"
theorem Rp.knd (h : Rp K H v d) : Knd (tyD d) := by
  cases h with
  | non => exact .inl rfl
  | bl _ => exact .inr (.inl rfl)
  | int _ => exact .inr (.inr (.inl rfl))
  | str _ _ => exact .inr (.inr (.inr (.inl rfl)))
  | lst _ _ _ => exact .inr (.inr (.inr (.inr (.inl rfl))))
  | tup _ _ _ => exact .inr (.inr (.inr (.inr (.inr rfl))))
theorem kit_two (s : String) (b c : Bool) (h1 : kitB s "list" = some b) (h2 : kitB s "tuple" = some c) : PySem.W.kitAny K (.type s) [.type "list", .type "tuple"] = some (b || c) := by
  refine kitAny_cons (b := b) (kit_ty h1) (fun hb => ?_) (fun hb => by rw [hb]; rfl)
  refine kitAny_cons (b := c) (kit_ty h2) (fun hc => ?_) (fun hc => by rw [hc, Bool.or_true])
  rw [hb, hc]
  exact kitAny_nil
theorem kit_lt {s : String} (h : Knd s) : PySem.W.kitAny K (.type s) [.type "list", .type "tuple"] = some (s == "list" || s == "tuple") := by
  rcases h with rfl | rfl | rfl | rfl | rfl | rfl <;> exact kit_two _ _ _ (by decide +kernel) (by decide +kernel)
theorem kit_one {s : String} (h : Knd s) (t : String) (ht : t = "list" ∨ t = "bool" ∨ t = "str") : PySem.W.kitOne K (.type s) (.type t) = some (s == t) := by
  rcases ht with rfl | rfl | rfl <;> rcases h with rfl | rfl | rfl | rfl | rfl | rfl <;> exact kit_ty (by decide +kernel)
theorem kit_int {s : String} (h : Knd s) : PySem.W.kitOne K (.type s) (.type "int") = some (s == "int" || s == "bool") := by
  rcases h with rfl | rfl | rfl | rfl | rfl | rfl <;> exact kit_ty (by decide +kernel)
end
/-- no value of the data is deeper than n -/
theorem depth_list {n : Nat} {ds : List PyData} (h : PyData.depthAll ds + 1 ≤ n + 1) {d : PyData} (hd : d ∈ ds) : d.depth ≤ n := by
  have : ∀ (l : List PyData), d ∈ l → d.depth ≤ PyData.depthAll l := by
    intro l
    induction l with
    | nil => intro h; cases h
    | cons x l ih =>
      intro h
      simp only [PyData.depthAll]
      rcases List.mem_cons.mp h with rfl | h
      · omega
      · have := ih h
        omega
  have := this ds hd
  omega
def sp_alike (n : Nat) (K : PySem.W.Frag) : Sp := fun vs H Q _ => ∃ (v1 v2 : V) (d : PyData), vs = [v1, v2] ∧ Rp K H v1 d ∧ Rp K H v2 d ∧ d.depth ≤ n ∧ (∀ F' H', Gr M0 H H F' H' → Q (.bl true) H')
theorem al_sc {K : PySem.W.Frag} {H : Hp} {v1 v2 : V} {d : PyData} (r1 : Rp K H v1 d) (r2 : Rp K H v2 d) (hc : (tyD d == "list" || tyD d == "tuple") = false) : v1 = v2 ∧ scal v1 v2 = true := by
  cases r1 with
  | non => cases r2; exact ⟨rfl, rfl⟩
  | bl b => cases r2; exact ⟨rfl, rfl⟩
  | int i => cases r2; exact ⟨rfl, rfl⟩
  | str x _ => cases r2; exact ⟨rfl, rfl⟩
  | lst h1 h2 h3 => exact absurd hc (by simp [tyD])
  | tup h1 h2 h3 => exact absurd hc (by simp [tyD])
theorem ix_go {K : PySem.W.Frag} {H : Hp} {p : Addr} {xs : List V} {i : Nat} {v : V} {Q : VK} (h : SqL K H p xs ∨ SqT K H p xs) (e : xs[i]? = some v) (q : Q v H) : rIx K (.ref p) (.int (0 + (i : Nat))) H Q := by
  have ha : atI xs (0 + (i : Nat)) = some v := by rw [Int.zero_add]; exact atI_nat e
  rcases h with h | h
  · exact .inl ⟨p, xs, _, v, rfl, rfl, h, ha, q⟩
  · exact .inr (.inl ⟨p, xs, _, v, rfl, rfl, h, ha, q⟩)
theorem sq_up {K : PySem.W.Frag} {H H' : Hp} {p : Addr} {xs : List V} (h : SqL K H p xs ∨ SqT K H p xs) (e : Same H H') : SqL K H' p xs ∨ SqT K H' p xs := by
  rcases h with h | h
  · exact .inl (e.seq h)
  · exact .inr (SqT_mono e h)
def spA : Nat → PySem.W.Frag → Sp
  | 0, _ => fun _ _ _ _ => False
  | n + 1, K => sp_alike n K
theorem al_sq {K : PySem.W.Frag} {H : Hp} {v1 v2 : V} {d : PyData} {n : Nat} (r1 : Rp K H v1 d) (r2 : Rp K H v2 d) (hc : (tyD d == "list" || tyD d == "tuple") = true) (hd : d.depth ≤ n) :
    ∃ a1 ws1 a2 ws2 ds m, v1 = .ref a1 ∧ v2 = .ref a2 ∧ (SqL K H a1 ws1 ∨ SqT K H a1 ws1) ∧ (SqL K H a2 ws2 ∨ SqT K H a2 ws2) ∧ ws1.length ≤ sizeLine ∧ ws2.length ≤ sizeLine ∧ RpA K H ws1 ds ∧ RpA K H ws2 ds ∧ n = m + 1 ∧ ∀ d ∈ ds, d.depth ≤ m := by
  cases r1 with
  | non => exact absurd hc (by decide)
  | bl b => exact absurd hc (by simp [tyD])
  | int i => exact absurd hc (by simp [tyD])
  | str x _ => exact absurd hc (by simp [tyD])
  | lst h1 h2 h3 =>
    cases r2 with
    | lst k1 k2 k3 =>
      cases n with
      | zero => exact absurd hd (Nat.not_succ_le_zero _)
      | succ m => exact ⟨_, _, _, _, _, m, rfl, rfl, .inl h1, .inl k1, h2, k2, h3, k3, rfl, fun d hd2 => depth_list hd hd2⟩
  | tup h1 h2 h3 =>
    cases r2 with
    | tup k1 k2 k3 =>
      cases n with
      | zero => exact absurd hd (Nat.not_succ_le_zero _)
      | succ m => exact ⟨_, _, _, _, _, m, rfl, rfl, .inr h1, .inr k1, h2, k2, h3, k3, rfl, fun d hd2 => depth_list hd hd2⟩
theorem R.of_eq {α : Type} [Enc α] {K : PySem.W.Frag} {F : Hp} {v : V} {x y : α} (h : x = y) (r : R K F v y) : R K F v x := by rw [h]; exact r
theorem retQ {e : Bool} {Q : VK} {H : Hp} (h : e = true) (q : Q (.bl true) H) : Q (.bl e) H := by rw [h]; exact q
def m_l_alike {α : Type} [DecidableEq α] (x y : α) : Option Bool := if x = y then some true else none
theorem alike_ok {α : Type} [DecidableEq α] {x y : α} {r : Bool} (h : m_l_alike x y = some r) : x = y ∧ true = r := by
  unfold m_l_alike at h
  split at h
  · exact ⟨by assumption, Option.some.inj h⟩
  · cases h
theorem op_powW {X : Cx} : OpR X (binaryOp .Pow) (rI (fun i j => 0 ≤ j ∧ (Builtin.Int.intBits i : Int) * j ≤ 2 ^ 27) fun i j => .int (i ^ j.toNat)) := opI fun _ _ _ _ _ _ _ hc q => pow_int hc.1 hc.2 q
end G
/-! My base, part 9: parts of a text. -/
namespace G
open PySem PySem.Spec PyProof.Rows L2 TL
theorem GS.sub_ {x : Str} (g : GS x) (i j : Nat) : GS (Builtin.Str.strSub x i j) := by
  have e : tl (Builtin.Str.strSub x i j) = ((tl x).take j).drop i := by
    show (x.cps.extract i j).toList = _
    rw [List.drop_take]
    simp [tl]
  refine g.sub (fun c hc => ?_) ?_
  · rw [e] at hc
    exact List.mem_of_mem_take (List.mem_of_mem_drop hc)
  · rw [e, List.length_drop, List.length_take]
    omega
theorem GS.empty : GS Str.empty := ⟨Nat.zero_le _, by decide +kernel⟩
theorem GS.part {x y : Str} (gx : GS x) (gy : GS y) : GS (Txt.partition x y).1 ∧ GS (Txt.partition x y).2.1 ∧ GS (Txt.partition x y).2.2 := by
  unfold Txt.partition
  split
  · exact ⟨gx.sub_ _ _, gy, gx.sub_ _ _⟩
  · exact ⟨gx, .empty, .empty⟩
def partS (x y : Str) : T3 Str Str Str := ⟨(Txt.partition x y).1, (Txt.partition x y).2.1, (Txt.partition x y).2.2⟩
theorem lpgo {S R T : Type} {s : S} {f : S → Option T} {g : R → Option T} {t : T} (h : lpK (.go s) f g = some t) : f s = some t := h
end G
/-! My base, part 10: sorted(set(a list of whole numbers)). -/
namespace G
open PySem PySem.Spec PyProof.Rows L2 TL
section
variable {P : Program} {w : World} {A : Around} {E : Value → Shared → Prop} {s : Shared}
/-- the empty set, as it is laid -/
abbrev newS (w : World) : Obj := { cls := .type "set", dict := none, data := .set #[] 0 (.fresh 0 0 (!w.params.followText "set-order")) }
theorem set_of_list {l : Addr} {xs : Array Value} (ks : List Int) {Q : Value → Shared → Prop} (hh : A.handled = none) (hl : s.heap.IsList l xs) (hk : IntsAre xs.toList ks) (hb : ks.length + 1 < scanBound)
    (hq : ∀ (h' : Heap) (tk c : Nat), SetR w h' s.heap.objs.size (fun j => decide (j ∈ ks)) c → c ≤ ks.length → (∀ b o, s.heap.get? b = some o → h'.get? b = some o) → Q (.ref s.heap.objs.size) { s with heap := h', toks := tk }) :
    wpAny (model P w) A (call (.type "set") [.ref l]) Q E s := by
  have hsz : xs.size = ks.length := (Array.length_toList (xs := xs)).symm.trans (IntsAre.length hk)
  obtain ⟨c0, tl0, hmro⟩ := F.called_set.mro
  have hmade := F.called_set.made; have hsub := F.called_set.sub
  refine wpAny_call (codeAny_of_tree ?_); show wpAny _ _ (callAny (.type "set") _) _ _ _
  refine wpAny_pure ⟨Code.quiet_builtin _ (by decide +kernel), codeAny_builtin F.entry_type_call ?_⟩; rw [Around.under_plain (weight_type_call_type "set" [.ref l] []) rfl]
  have n1 := F.called_set.notType; have n2 := F.called_set.canCreate; have n3 := F.typeCall_set_1 (.ref l)
  repeat (any_goals (first | assumption | wp_step))
  refine codeAny_mono (code_set_led1 (A := A.in1) (.ref l) (E := E) (Q₁ := fun ob s₁ => ob = .ref s.heap.objs.size ∧ s₁ = { s with heap := s.heap.push (newS w) }) ⟨rfl, rfl⟩) fun r s₁ hr => ?_
  cases r with
  | error e => exact hr
  | ok fl =>
    cases fl with
    | next => exact hr.elim
    | brk => exact hr.elim
    | cont => exact hr.elim
    | ret ob =>
      obtain ⟨rfl, rfl⟩ := hr
      have hS : (s.heap.push (newS w)).get? s.heap.objs.size = some (newS w) := Heap.get?_push_size _ rfl
      have hT : Shared.TypeIs { s with heap := s.heap.push (newS w) } (.ref s.heap.objs.size) "set" := ⟨_, hS, rfl⟩
      have hli := F.called_set.init.lookup; have hbi := F.called_set.init.bind (.ref s.heap.objs.size)
      repeat (any_goals (first | assumption | wp_step))
      refine codeAny_mono (codeAny_call_builtin (R := wants (fun rr s₂ => rr = .none ∧ ∃ h' tk c, s₂ = { s with heap := h', toks := tk } ∧ SetR w h' s.heap.objs.size (fun j => decide (j ∈ ks)) c ∧ c ≤ ks.length ∧ (∀ b o, s.heap.get? b = some o → h'.get? b = some o)) E)
        F.called_set.init.plain F.entry_set_init (check_set_init_1 hT ?_)) fun r2 s2 hr2 => ?_
      · obtain ⟨⟨lc, ld, lt, ls⟩, hol, hcl, nl, hdl⟩ := hl
        simp only at hcl hdl; subst hcl; subst hdl
        have hol' : (s.heap.push (newS w)).get? l = some { cls := .type "list", dict := ld, data := .seq xs nl, slots := ls } := Heap.get?_push_of_some _ hol
        have b1 := F.sub_list_set; have b2 := F.sub_list_frozenset
        have b3 : (Value.type "list" == Value.type "dict") = false := by decide
        have hl1 : (s.heap.push (newS w)).IsList l xs := ⟨_, hol', rfl, nl, rfl⟩
        unfold Builtin.«set.__init__» noKeywords Builtin.Frozenset.updateFrom; generalize hPI : pyIter = PI
        wp_walk
        subst hPI; refine wpAny_pyIter_list hl1 ?_
        refine wpAny_bind (wpAny_runValue ?_); have lS : l < s.heap.objs.size := Heap.lt_size hol
        have hh3 : A.in1.in1.in1.handled = none := by simp [hh]
        have lI : l ≠ (s.heap.push (newS w)).objs.size := by rw [Heap.size_push]; exact Nat.ne_of_lt (Nat.lt_succ_of_lt lS)
        have sI : s.heap.objs.size ∉ [(s.heap.push (newS w)).objs.size, l] := by
          rw [Heap.size_push]
          intro z
          rcases List.mem_cons.mp z with z | z
          · exact absurd z (Nat.ne_of_lt (Nat.lt_succ_self _))
          · exact absurd (List.mem_singleton.mp z) (Nat.ne_of_gt lS)
        have each : ∀ (i : Nat) (v : Value), xs[i]? = some v → ∃ k t, ks[i]? = some k ∧ v = .int k t := fun i v hv => by
          have hi : i < ks.length := by rw [← hsz]; exact (Array.getElem?_eq_some_iff.mp hv).1
          obtain ⟨t, e⟩ := PyProof.Rows.IntsAre.int_at hk i v (by rw [Array.getElem?_toList]; exact hv)
          exact ⟨ks[i], t, List.getElem?_eq_getElem hi, by rw [e, List.getD_eq_getElem?_getD, List.getElem?_eq_getElem hi]; rfl⟩
        refine set_update_ints ((Walks.list hh3 _ l lI xs).toS) s.heap.objs.size sI ks hsz hb each (xs.size - 0) 0 _ (by omega) (Nat.zero_le _) ⟨⟨_, Heap.get?_push_size _ rfl, rfl, rfl⟩, (hl1.push _)⟩ ⟨0, Nat.le_refl 0, setR_new_at (Heap.get?_push_of_some _ hS)⟩ (fun s' c' hm hc' hS' => ?_)
        obtain ⟨h', g2, d', tk', os'⟩ := s'
        have eg : g2 = s.gens := hm.gens; have ed : d' = s.drawn := hm.drawn
        have eo : os' = s.os := hm.os; subst eg; subst ed; subst eo
        show wpAny _ _ _ _ _ _; refine wpAny_pure ?_
        show wpAny _ _ (ret Value.none) _ _ _; rw [hsz] at hc'
        refine wpAny_pure ⟨rfl, h', tk', c', rfl, hS', hc', fun b o e => ?_⟩
        have m0 : b < s.heap.objs.size := Heap.lt_size e
        refine hm.heap b o (fun z => ?_) (Heap.get?_push_of_some _ (Heap.get?_push_of_some _ e))
        rcases List.mem_cons.mp z with z | z
        · exact absurd z (Nat.ne_of_lt m0)
        · have z := List.mem_singleton.mp z
          rw [Heap.size_push] at z
          exact absurd z (Nat.ne_of_lt (Nat.lt_succ_of_lt m0))
      · cases r2 with
        | error e => exact hr2
        | ok fl2 =>
          cases fl2 with
          | next => exact hr2.elim
          | brk => exact hr2.elim
          | cont => exact hr2.elim
          | ret rr =>
            obtain ⟨rfl, h', tk, c, rfl, hS', hc', hk'⟩ := hr2
            repeat (any_goals (first | assumption | wp_step))
            exact hq _ _ _ hS' hc' hk'
end
end G
/-! My base, part 11: the set sorted. -/
namespace G
open PySem PySem.Spec PyProof.Rows L2 TL
section
variable {P : Program} {w : World} {A : Around} {E : Value → Shared → Prop} {s : Shared} {a : Addr}
theorem set_sorted {S : Int → Bool} {n : Nat} {Q : Value → Shared → Prop} (R : SetR w s.heap a S n) (hh : A.handled = none)
    (hq : ∀ s' p (out : List Value) (c : Nat) (ns : List Int), (∀ b o, s.heap.get? b = some o → s'.heap.get? b = some o) → s'.gens = s.gens → s'.os = s.os → s.heap.objs.size ≤ p →
      s'.heap.get? p = some (seqObj "list" out.toArray c) → IntsAre out ns → ns.Pairwise (· < ·) → (∀ k, k ∈ ns ↔ S k = true) → ns.length ≤ n → Q (.ref p) s') :
    wpAny (model P w) A (call (.builtin "sorted") [.ref a]) Q E s := by
  obtain ⟨o, es, ep, t, ho, hex, hd, good, nd, hm, hb, hf, hn, hr, hl⟩ := R
  refine Calls.call_function_entry kind_sorted plain_sorted entry_sorted (args_sorted1 _) ?_; unfold Builtin.«sorted»
  refine wpAny_bind (m := checkCount "sorted" 1 1 _) (wpAny_pure ?_)
  refine wpAny_bind (collect_set (A := A.in1) hh ⟨o, ho, hex.1, hd⟩ hf hb hr hl fun s1 vs k1 hz g1 o1 pm => ?_)
  have hvl : vs.length = n := by rw [pm.length_eq, List.length_map, Array.length_toList]; exact hn
  have hI : IntsAre vs (vs.map Builtin.Re.reRawOf) := ints_of vs fun v hv => by
    obtain ⟨e, he, q⟩ := List.mem_map.mp (pm.mem_iff.mp hv)
    obtain ⟨k, tk, h1, _⟩ := good e he
    exact ⟨k, tk, q ▸ h1⟩
  have pk : (vs.map Builtin.Re.reRawOf).Perm (es.toList.map keyOf) := by
    have q := pm.map Builtin.Re.reRawOf
    rwa [List.map_map] at q
  have hsl : vs.length ≤ sizeLine := by
    rw [hvl, ← hn, sizeLine_eq]
    have := hb
    unfold scanBound at this
    omega
  refine wpAny_bind (wpAny_newList ?_ hsl)
  have hoL : (s1.heap.push (seqObj "list" vs.toArray 0)).get? s1.heap.objs.size = some (seqObj "list" vs.toArray 0) := Heap.get?_push_size _ rfl
  refine wpAny_bind (wpAny_holding (wpAny_call_entry slot_list_sort ⟨_, hoL, rfl⟩ entry_list_sort (SrtO.list_sort_ord SrtO.swo_int hoL hsl (fun h2 => SrtO.ints_sortable hI h2) fun out h1 h2 => ⟨_, rfl, ?_⟩) (args_list_sort _)))
  obtain ⟨z1, z2, z3⟩ := SrtO.ints_out hI h1 h2
  obtain ⟨c, hc⟩ := sortedHeap_at (vs := vs) (out := out.toArray) hoL
  have pn := z2.trans pk
  refine wpAny_pure ⟨_, rfl, hq _ s1.heap.objs.size out c _ (fun b u e => ?_) g1 o1 hz hc z1 (lt_of_le_nodup _ z3 (pn.nodup_iff.mpr nd)) (fun k => by rw [pn.mem_iff, ← hm k]) (by rw [pn.length_eq, List.length_map, Array.length_toList, hn]; exact Nat.le_refl _)⟩
  have q := k1 b u e
  have hlt := Heap.lt_size q
  show (sortedHeap (s1.heap.push (seqObj "list" vs.toArray 0)) s1.heap.objs.size vs out.toArray).get? b = some u
  rw [sortedHeap_old (Nat.ne_of_lt hlt) (by rw [Heap.size_push]; exact Nat.lt_succ_of_lt hlt)]
  exact Heap.get?_push_of_some _ q
end
end G
/-! My base, part 12: the rule. -/
namespace G
open PySem PySem.Spec PyProof.Rows L2 TL
section
variable {X : Cx}
/-- sorted(set(a list of whole numbers)) -/
def tSSet (K : PySem.W.Frag) (ta : TE) : TE := fun σ H Q => ta σ H fun x H1 => ∃ (l : Addr) (ks : List Int), x = V.ref l ∧ SqL K H1 l (ks.map V.int) ∧ ks.length < 4000 ∧
  ∀ (ns : List Int) (p : Addr), ns.Pairwise (· < ·) → (∀ k, k ∈ ns ↔ k ∈ ks) → ns.length ≤ ks.length → H1 p = none → Q (.ref p) (upd H1 p (.lst (ns.map V.int)))
theorem pe_sset {a : Expr} {ta : TE} {p p2 q pos : Pos} (hc : X.calm = true) (hg : Gl X "sorted") (hm : X.mg "sorted" = none) (hg2 : Gl X "set") (hm2 : X.mg "set" = none) (ha : PE X a ta)
    (na : starEach [a] X.env = (false, eval a X.env) :: starEach [] X.env := by rfl) : PE X (.Call (.Name "sorted" p) [.Call (.Name "set" p2) [a] [] q] [] pos) (tSSet X.K ta) := by
  refine ⟨fun pins s σ H Q I h => ?_⟩
  refine Call_ (ld_blt I hg hm (u := .builtin "sorted") (by decide +kernel) ?_)
  refine PyProof.Rows.callWith_builtin1 (PyProof.Rows.args_cons ?_ rfl) rfl rfl
  refine Call_ (ld_blt I hg2 hm2 PyProof.Rows.boot_set ?_)
  refine PyProof.Rows.callWith_type1 (PyProof.Rows.args_cons (thn (ha.run pins s σ H _ I h) fun v s1 ⟨x, H1, I1, r1, q1⟩ => PyProof.Rows.args_nil ?_) na) na rfl
  obtain ⟨l, ks, rfl, hq, h4, q1⟩ := q1
  cases r1
  obtain ⟨its, r, pl, hz⟩ := I1.list hq
  refine set_of_list ks (I1.ok.hd hc) pl.isList (by simpa using r.ints) (by unfold scanBound; omega) fun h' tk c hS hck hk => ?_
  refine PyProof.Rows.args_nil ?_
  have I2 : Inv X pins σ H1 { s1 with heap := h', toks := tk } := I1.kept fun b o e => hk b o e
  refine set_sorted hS (I2.ok.hd hc) fun s' p out c2 ns k g o hp hgt hi hs hmem hlen => ?_
  have hlen2 : ns.length ≤ ks.length := Nat.le_trans hlen hck
  have hlz : (ns.map V.int).length ≤ sizeLine := by rw [List.length_map, sizeLine_eq]; omega
  have hn : H1 p = none := I2.hok.fresh hp
  have J : Inv X pins σ (upd H1 p (.lst (ns.map V.int))) s' := Inv.call' (ch := []) I2 o (Un.laid k hp hn) (I2.hok.laid k hp ⟨hlz, out, c2, vals_of_ints hi, hgt⟩) (by rw [g]; exact I2.bare) (fun _ z => nomatch z)
  exact ⟨.ref p, _, J, rfl, q1 ns p hs (fun k => by rw [hmem k, decide_eq_true_iff]) hlen2 hn⟩
end
end G
/-! My base, part 13: what sorted(set(..)) comes to. -/
namespace G
open PySem PySem.Spec PyProof.Rows L2 TL
/-- x put into a rising list, once -/
def ins (x : Int) : List Int → List Int
  | [] => [x]
  | y :: ys => if x < y then x :: y :: ys else if x = y then y :: ys else y :: ins x ys
def ssort (xs : List Int) : List Int := xs.foldr ins []
theorem ins_mem {x k : Int} : ∀ {l : List Int}, k ∈ ins x l ↔ k = x ∨ k ∈ l
  | [] => by simp [ins]
  | y :: ys => by
    unfold ins
    split
    · simp
    · split
      · rename_i h
        subst h
        simp
      · rw [List.mem_cons, ins_mem, List.mem_cons]
        constructor
        · rintro (h | h | h)
          · exact .inr (.inl h)
          · exact .inl h
          · exact .inr (.inr h)
        · rintro (h | h | h)
          · exact .inr (.inl h)
          · exact .inl h
          · exact .inr (.inr h)
theorem ins_sorted {x : Int} : ∀ {l : List Int}, l.Pairwise (· < ·) → (ins x l).Pairwise (· < ·)
  | [], _ => List.pairwise_singleton _ _
  | y :: ys, h => by
    obtain ⟨h1, h2⟩ := List.pairwise_cons.mp h
    unfold ins
    split
    · rename_i hx
      exact List.pairwise_cons.mpr ⟨fun z hz => by
        rcases List.mem_cons.mp hz with rfl | hz
        · exact hx
        · exact Int.lt_trans hx (h1 z hz), h⟩
    · split
      · exact h
      · refine List.pairwise_cons.mpr ⟨fun z hz => ?_, ins_sorted h2⟩
        rcases ins_mem.mp hz with rfl | hz
        · omega
        · exact h1 z hz
theorem ssort_mem {k : Int} : ∀ {l : List Int}, k ∈ ssort l ↔ k ∈ l
  | [] => Iff.rfl
  | x :: l => by
    show k ∈ ins x (ssort l) ↔ _
    rw [ins_mem, ssort_mem, List.mem_cons]
theorem ssort_sorted : ∀ l : List Int, (ssort l).Pairwise (· < ·)
  | [] => List.Pairwise.nil
  | x :: l => ins_sorted (ssort_sorted l)
theorem rise_uniq : ∀ {a b : List Int}, a.Pairwise (· < ·) → b.Pairwise (· < ·) → (∀ k, k ∈ a ↔ k ∈ b) → a = b
  | [], [], _, _, _ => rfl
  | [], y :: _, _, _, h => absurd ((h y).mpr (List.mem_cons_self ..)) (fun z => nomatch z)
  | x :: _, [], _, _, h => absurd ((h x).mp (List.mem_cons_self ..)) (fun z => nomatch z)
  | x :: a, y :: b, ha, hb, h => by
    obtain ⟨a1, a2⟩ := List.pairwise_cons.mp ha
    obtain ⟨b1, b2⟩ := List.pairwise_cons.mp hb
    have e : x = y := by
      rcases List.mem_cons.mp ((h x).mp (List.mem_cons_self ..)) with z | z
      · exact z
      · rcases List.mem_cons.mp ((h y).mpr (List.mem_cons_self ..)) with z2 | z2
        · exact z2.symm
        · have := b1 x z
          have := a1 y z2
          omega
    subst e
    rw [rise_uniq a2 b2 fun k => ?_]
    constructor
    · intro hk
      rcases List.mem_cons.mp ((h k).mp (List.mem_cons_of_mem _ hk)) with z | z
      · have := a1 k hk; omega
      · exact z
    · intro hk
      rcases List.mem_cons.mp ((h k).mpr (List.mem_cons_of_mem _ hk)) with z | z
      · have := b1 k hk; omega
      · exact z
theorem ssort_uniq {xs ns : List Int} (h1 : ns.Pairwise (· < ·)) (h2 : ∀ k, k ∈ ns ↔ k ∈ xs) : ssort xs = ns :=
  rise_uniq (ssort_sorted xs) h1 fun k => by rw [ssort_mem, h2]
def ssetO (xs : List Int) : Option (List Int) := if xs.length < 4000 then some (ssort xs) else none
theorem ssetO_ok {xs r : List Int} (h : ssetO xs = some r) : xs.length < 4000 ∧ ssort xs = r := by
  unfold ssetO at h
  split at h
  · exact ⟨by assumption, Option.some.inj h⟩
  · cases h
end G
/-! My base, part 14: list(zip(two lists)). -/
namespace G
open PySem PySem.Spec PyProof.Rows L2 TL
theorem zip_nolen : typeLookup (.type "zip") "__len__" = pure none := by rw [typeLookup_type, builtinLookup_eq_fast]; kernel_rfl
theorem zip_nohint : typeLookup (.type "zip") "__length_hint__" = pure none := by rw [typeLookup_type, builtinLookup_eq_fast]; kernel_rfl
/-- where the gathering of a zip stands: Ts are the pairs handed out, all of them still there -/
structure ZSt (z TI TO i1 i2 l1 l2 : Addr) (lo : Nat) (xs ys : Array Value) (h : Heap) (Ts : List Addr) : Prop where
  ti : IsPair h TI (.ref i1) (.ref i2)
  z : (Ts = [] ∧ IsZip h z TI TO .none ∧ ∃ a b, IsPair h TO a b) ∨ ∃ T f, T ∈ Ts ∧ IsZipHeld h z TI TO T f
  a1 : h.IsListIter i1 l1 Ts.length
  a2 : h.IsListIter i2 l2 Ts.length
  b1 : h.IsList l1 xs
  b2 : h.IsList l2 ys
  prs : ∀ (j : Nat) (T : Addr), Ts[j]? = some T → ∃ x y, xs[j]? = some x ∧ ys[j]? = some y ∧ IsPair h T x y
  fr : ∀ T ∈ Ts, lo ≤ T
  nd : Ts.Nodup
theorem ne_lo {a b lo : Nat} (h : a < lo) (h2 : lo ≤ b) : b ≠ a := fun e => absurd (e ▸ h2) (Nat.not_le_of_lt h)
section
variable {P : Program} {w : World} {A : Around} {E : Value → Shared → Prop} {s : Shared} {z TI TO i1 i2 l1 l2 S : Addr} {lo : Nat} {xs ys : Array Value} {h h' : Heap} {Ts : List Addr}
theorem ZSt.at_T (Z : ZSt z TI TO i1 i2 l1 l2 lo xs ys h Ts) {T : Addr} (hT : T ∈ Ts) : ∃ o, h.get? T = some o := by
  obtain ⟨j, hj⟩ := List.getElem?_of_mem hT
  obtain ⟨x, y, _, _, p⟩ := Z.prs j T hj
  exact ⟨_, p⟩
/-- what is kept of it by a write elsewhere -/
theorem ZSt.keep (Z : ZSt z TI TO i1 i2 l1 l2 lo xs ys h Ts) (hS : S < lo) (S1 : S ≠ z) (S2 : S ≠ TI) (S3 : S ≠ TO) (S4 : S ≠ i1) (S5 : S ≠ i2) (S6 : S ≠ l1) (S7 : S ≠ l2) (k : ∀ b o, b ≠ S → h.get? b = some o → h'.get? b = some o) : ZSt z TI TO i1 i2 l1 l2 lo xs ys h' Ts := by
  refine ⟨k _ _ S2.symm Z.ti, ?_, Z.a1.at fun o e => k _ o S4.symm e, Z.a2.at fun o e => k _ o S5.symm e, Z.b1.at fun o e => k _ o S6.symm e, Z.b2.at fun o e => k _ o S7.symm e, fun j T hj => ?_, Z.fr, Z.nd⟩
  · rcases Z.z with ⟨e, q, a, b, r⟩ | ⟨T, f, hT, q⟩
    · exact .inl ⟨e, k _ _ S1.symm q, a, b, k _ _ S3.symm r⟩
    · exact .inr ⟨T, f, hT, k _ _ S1.symm q⟩
  · obtain ⟨x, y, e1, e2, p⟩ := Z.prs j T hj
    have hT := Z.fr T (List.mem_of_getElem? hj)
    exact ⟨x, y, e1, e2, k _ _ (ne_lo hS hT) p⟩
/-- one pair more -/
theorem ZSt.more (Z : ZSt z TI TO i1 i2 l1 l2 lo xs ys h Ts) (D : ZipApart z TI TO i1 i2 l1 l2) (hlo : lo ≤ h.objs.size) (hl : z < lo ∧ TO < lo ∧ i1 < lo ∧ i2 < lo) {f : Bool} {x y : Value} (c1 : IsZipHeld h' z TI TO h.objs.size f ∨ ∃ T, T ∈ Ts ∧ IsZipHeld h' z TI TO T f)
    (c2 : h'.IsListIter i1 l1 (Ts.length + 1)) (c3 : h'.IsListIter i2 l2 (Ts.length + 1)) (c4 : IsPair h' h.objs.size x y) (e1 : xs[Ts.length]? = some x) (e2 : ys[Ts.length]? = some y)
    (k : ∀ c o, c ≠ z → c ≠ TO → c ≠ i1 → c ≠ i2 → h.get? c = some o → h'.get? c = some o) : ZSt z TI TO i1 i2 l1 l2 lo xs ys h' (Ts ++ [h.objs.size]) := by
  have hn : h.objs.size ∉ Ts := fun m => by
    obtain ⟨o, e⟩ := Z.at_T m
    exact absurd (Heap.lt_size e) (Nat.lt_irrefl _)
  refine ⟨k _ _ D.TIz D.TITO D.TIi1 D.TIi2 Z.ti, .inr ?_, ?_, ?_, Z.b1.at fun o e => k _ o D.l1z D.l1TO D.l1i1 D.l1i2 e, Z.b2.at fun o e => k _ o D.l2z D.l2TO D.l2i1 D.l2i2 e, fun j T hj => ?_, fun T hT => ?_, ?_⟩
  · rcases c1 with c1 | ⟨T, hT, c1⟩
    · exact ⟨_, f, List.mem_append.mpr (.inr (List.mem_singleton.mpr rfl)), c1⟩
    · exact ⟨T, f, List.mem_append.mpr (.inl hT), c1⟩
  · rw [List.length_append]; exact c2
  · rw [List.length_append]; exact c3
  · by_cases hjl : j < Ts.length
    · rw [List.getElem?_append_left hjl] at hj
      obtain ⟨x', y', f1, f2, p⟩ := Z.prs j T hj
      have hT := Z.fr T (List.mem_of_getElem? hj)
      exact ⟨x', y', f1, f2, k _ _ (ne_lo hl.1 hT) (ne_lo hl.2.1 hT) (ne_lo hl.2.2.1 hT) (ne_lo hl.2.2.2 hT) p⟩
    · rw [List.getElem?_append_right (by omega)] at hj
      have hj0 : j - Ts.length = 0 := by
        cases q : j - Ts.length with
        | zero => rfl
        | succ m => rw [q] at hj; simp at hj
      rw [hj0] at hj
      have eT : h.objs.size = T := Option.some.inj hj
      have ej : j = Ts.length := by omega
      subst ej
      subst eT
      exact ⟨x, y, e1, e2, c4⟩
  · rcases List.mem_append.mp hT with m | m
    · exact Z.fr T m
    · rw [List.mem_singleton.mp m]; exact hlo
  · exact List.nodup_append.mpr ⟨Z.nd, by simp, fun a ha b hb => by
      rw [List.mem_singleton.mp hb]
      intro e
      rw [e] at ha
      exact hn ha⟩
theorem zip_gather {R : Result → Shared → Prop} (hh : A.in1.handled = none) (D : ZipApart z TI TO i1 i2 l1 l2) (hl : z < lo ∧ TO < lo ∧ i1 < lo ∧ i2 < lo) (hS : S < lo) (S1 : S ≠ z) (S2 : S ≠ TI) (S3 : S ≠ TO) (S4 : S ≠ i1) (S5 : S ≠ i2) (S6 : S ≠ l1) (S7 : S ≠ l2) (hn : min xs.size ys.size ≤ sizeLine) (res : Value) :
    ∀ (k : Nat) (s : Shared) (Ts : List Addr) (c : Nat), min xs.size ys.size - Ts.length = k → Ts.length ≤ min xs.size ys.size → lo ≤ s.heap.objs.size → ZSt z TI TO i1 i2 l1 l2 lo xs ys s.heap Ts →
    s.heap.get? S = some { cls := .type "list", dict := none, data := .seq (Ts.map Value.ref).toArray c, slots := #[] } →
    (∀ (s' : Shared) (Ts' : List Addr) (c' : Nat), s'.gens = s.gens → s'.os = s.os → (∀ (j : Nat) (T : Addr), Ts'[j]? = some T → ∃ x y, xs[j]? = some x ∧ ys[j]? = some y ∧ IsPair s'.heap T x y) → (∀ T ∈ Ts', lo ≤ T) → Ts'.Nodup → Ts'.length = min xs.size ys.size → s'.heap.get? S = some { cls := .type "list", dict := none, data := .seq (Ts'.map Value.ref).toArray c', slots := #[] } →
      (∀ b o, b ≠ S → b ≠ z → b ≠ TO → b ≠ i1 → b ≠ i2 → s.heap.get? b = some o → s'.heap.get? b = some o) → R (.ok (.ret res)) s') →
    codeAny (model P w) A (.builtin "list.extend.loop" ⟨[.ref S, .ref z, res], []⟩) R s := by
  intro k
  induction k with
  | zero =>
    intro s Ts c hk hle hlo Z hSo hR
    have hlen : Ts.length = min xs.size ys.size := by omega
    refine codeAny_builtin F.entry_extend_loop ?_; rw [Around.under_plainId F.plain_extend_loop _]
    show wpAny _ A.in1 (pyNext (.ref z) >>= _) _ _ s
    have hend : xs[Ts.length]? = none ∨ ys[Ts.length]? = none := by
      rcases Nat.le_total xs.size ys.size with q | q
      · exact .inl (Array.getElem?_eq_none (by omega))
      · exact .inr (Array.getElem?_eq_none (by omega))
    have fin : ∀ h' : Heap, (∀ c o, c ≠ z → c ≠ TO → c ≠ i1 → c ≠ i2 → s.heap.get? c = some o → h'.get? c = some o) → R (.ok (.ret res)) { s with heap := h' } := fun h' kk => by
      refine hR { s with heap := h' } Ts c rfl rfl (fun j T hj => ?_) Z.fr Z.nd hlen (kk _ _ S1 S3 S4 S5 hSo) (fun b o _ b2 b3 b4 b5 e => kk b o b2 b3 b4 b5 e)
      obtain ⟨x, y, e1, e2, p⟩ := Z.prs j T hj
      have hT := Z.fr T (List.mem_of_getElem? hj)
      exact ⟨x, y, e1, e2, kk _ _ (ne_lo hl.1 hT) (ne_lo hl.2.1 hT) (ne_lo hl.2.2.1 hT) (ne_lo hl.2.2.2 hT) p⟩
    rcases Z.z with ⟨e, q, a, b, r⟩ | ⟨T, f, hT, q⟩
    · refine wpAny_bind (wpAny_pyNext_zip_end hh D q Z.ti r Z.a1 Z.a2 Z.b1 Z.b2 hend fun h' kk => ?_)
      exact wpAny_pure (fin h' kk)
    · obtain ⟨oT, eT⟩ := Z.at_T hT
      refine wpAny_bind (wpAny_pyNext_zip_end_held hh D q eT Z.ti Z.a1 Z.a2 Z.b1 Z.b2 hend fun h' kk => ?_)
      exact wpAny_pure (fin h' fun c o c1 _ c3 c4 e => kk c o c1 c3 c4 e)
  | succ k ih =>
    intro s Ts c hk hle hlo Z hSo hR
    have hlt : Ts.length < min xs.size ys.size := by omega
    have hx : Ts.length < xs.size := by omega
    have hy : Ts.length < ys.size := by omega
    have e1 : xs[Ts.length]? = some xs[Ts.length] := Array.getElem?_eq_getElem hx
    have e2 : ys[Ts.length]? = some ys[Ts.length] := Array.getElem?_eq_getElem hy
    refine codeAny_builtin F.entry_extend_loop ?_; rw [Around.under_plainId F.plain_extend_loop _]
    show wpAny _ A.in1 (pyNext (.ref z) >>= _) _ _ s
    have go : ∀ h' : Heap, h'.objs.size = s.heap.objs.size + 1 → ZSt z TI TO i1 i2 l1 l2 lo xs ys h' (Ts ++ [s.heap.objs.size]) → (∀ c o, c ≠ z → c ≠ TO → c ≠ i1 → c ≠ i2 → s.heap.get? c = some o → h'.get? c = some o) →
        wpAny (model P w) A.in1 (updateSeq S (·.push (Value.ref s.heap.objs.size)) >>= fun _ => again (.builtin "list.extend.loop" ⟨[.ref S, .ref z, res], []⟩)) (fun fin s' => match fin with | .done f => R (.ok f) s' | .again c' => c'.quiet = true ∧ codeAny (model P w) A c' R s') (fun e s' => R (.error e) s') { s with heap := h' } := fun h' hsz Z' kk => by
      have hS' : h'.get? S = some { cls := .type "list", dict := none, data := .seq (Ts.map Value.ref).toArray c, slots := #[] } := kk _ _ S1 S3 S4 S5 hSo
      have hlen1 : ((Ts.map Value.ref).toArray).size = Ts.length := by simp
      refine wpAny_bind ?_
      refine wpAny_updateSeq (s := { s with heap := h' }) hS' rfl (wpAny_pure ⟨plainId_quiet F.plain_extend_loop _, ?_⟩) (by rw [hlen1]; omega) (by show ((Ts.map Value.ref).toArray.push _).size ≤ sizeLine + 1; rw [Array.size_push, hlen1]; omega)
      have hS2 := Heap.get?_update_self (Obj.mapSeq (·.push (Value.ref s.heap.objs.size))) hS' rfl
      have kS : ∀ b o, b ≠ S → h'.get? b = some o → (h'.update S (Obj.mapSeq (·.push (Value.ref s.heap.objs.size)))).get? b = some o := fun b o hb e => (Heap.get?_update_other _ _ (Ne.symm hb)).trans e
      have eA : (Ts.map Value.ref).toArray.push (Value.ref s.heap.objs.size) = ((Ts ++ [s.heap.objs.size]).map Value.ref).toArray := by simp
      refine ih _ (Ts ++ [s.heap.objs.size]) _ (by rw [List.length_append]; show _ - (Ts.length + 1) = k; omega) (by rw [List.length_append]; show Ts.length + 1 ≤ _; omega) ?_ (Z'.keep hS S1 S2 S3 S4 S5 S6 S7 kS) (by rw [← eA]; exact hS2) (fun s' Ts' c' g1 g2 g3 g4 g5 g6 g7 g8 => ?_)
      · show lo ≤ (h'.update S _).objs.size
        rw [(Heap.SameBut.update h' S _).1, hsz]
        omega
      · exact hR s' Ts' c' g1 g2 g3 g4 g5 g6 g7 fun b o b1 b2 b3 b4 b5 e => g8 b o b1 b2 b3 b4 b5 (kS b o b1 (kk b o b2 b3 b4 b5 e))
    rcases Z.z with ⟨e, q, a, b, r⟩ | ⟨T, f, hT, q⟩
    · refine wpAny_bind (wpAny_pyNext_zip_item D q Z.ti r Z.a1 Z.a2 Z.b1 Z.b2 e1 e2 fun h' d1 d2 d3 d4 d5 d6 kk => ?_)
      exact go h' d6 (Z.more D hlo hl (f := false) (.inl d1) d3 d4 d5 e1 e2 kk) kk
    · obtain ⟨oT, eT⟩ := Z.at_T hT
      refine wpAny_bind (wpAny_pyNext_zip_item_held D q eT Z.ti Z.a1 Z.a2 Z.b1 Z.b2 e1 e2 fun h' d1 d3 d4 d5 d6 kk => ?_)
      exact go h' d6 (Z.more D hlo hl (f := true) (.inr ⟨T, hT, d1⟩) d3 d4 d5 e1 e2 fun c o c1 _ c3 c4 e => kk c o c1 c3 c4 e) fun c o c1 _ c3 c4 e => kk c o c1 c3 c4 e
end
end G
/-! My base, part 15: list(zip(..)), the call. -/
namespace G
open PySem PySem.Spec PyProof.Rows L2 TL
section
variable {P : Program} {w : World} {A : Around} {E : Value → Shared → Prop} {s : Shared} {z TI TO i1 i2 l1 l2 S : Addr} {lo : Nat} {xs ys : Array Value}
theorem zip_extend {R : Result → Shared → Prop} (hh : A.handled = none) (D : ZipApart z TI TO i1 i2 l1 l2) (hl : z < lo ∧ TO < lo ∧ i1 < lo ∧ i2 < lo) (hS : S < lo) (S1 : S ≠ z) (S2 : S ≠ TI) (S3 : S ≠ TO) (S4 : S ≠ i1) (S5 : S ≠ i2) (S6 : S ≠ l1) (S7 : S ≠ l2) (hn : min xs.size ys.size ≤ sizeLine) (res : Value)
    (c0 : Nat) (hlo : lo ≤ s.heap.objs.size) (Z : ZSt z TI TO i1 i2 l1 l2 lo xs ys s.heap []) (hSo : s.heap.get? S = some { cls := .type "list", dict := none, data := .seq #[] c0, slots := #[] })
    (hR : ∀ (s' : Shared) (Ts' : List Addr) (c' : Nat), s'.gens = s.gens → s'.os = s.os → (∀ (j : Nat) (T : Addr), Ts'[j]? = some T → ∃ x y, xs[j]? = some x ∧ ys[j]? = some y ∧ IsPair s'.heap T x y) → (∀ T ∈ Ts', lo ≤ T) → Ts'.Nodup → Ts'.length = min xs.size ys.size → s'.heap.get? S = some { cls := .type "list", dict := none, data := .seq (Ts'.map Value.ref).toArray c', slots := #[] } →
      (∀ b o, b ≠ S → b ≠ z → b ≠ TO → b ≠ i1 → b ≠ i2 → s.heap.get? b = some o → s'.heap.get? b = some o) → R (.ok (.ret res)) s') :
    wpAny (model P w) A.in1 (Builtin.List.listExtendWith (.ref S) (.ref z) res) (fun fin s' => match fin with | .done f => R (.ok f) s' | .again c' => c'.quiet = true ∧ codeAny (model P w) A c' R s') (fun e s' => R (.error e) s') s := by
  have hh1 : A.in1.handled = none := by simp [hh]
  obtain ⟨q0, q, ta, tb, tr⟩ : ([] : List Addr) = [] ∧ IsZip s.heap z TI TO .none ∧ ∃ a b, IsPair s.heap TO a b := by
    rcases Z.z with h | ⟨T, f, hT, _⟩
    · exact h
    · exact nomatch hT
  have hT : s.TypeIs (.ref z) "zip" := ⟨_, q, rfl⟩
  unfold Builtin.List.listExtendWith; refine wpAny_bind (wpAny_typeOf hT ?_)
  have m1 : Builtin.List.listSameRef (.ref S) (.ref z) = false := by simp [Builtin.List.listSameRef, S1]
  have m2 : (Value.type "zip" == Value.type "list") = false := by decide
  have m3 : (Value.type "zip" == Value.type "tuple") = false := by decide
  simp only [m1, m2, m3, Bool.or_false, Bool.false_eq_true, if_false]
  refine wpAny_bind (wpAny_pyIter_zip q ?_)
  refine wpAny_bind (wpAny_holding ?_); unfold Builtin.List.listLengthHint
  refine wpAny_bind (wpAny_specialOf hT zip_nolen ?_)
  show wpAny _ A.in1 (specialOf (Value.ref z) (Str.ofString "__length_hint__") >>= _) _ _ _
  refine wpAny_bind (wpAny_specialOf hT zip_nohint ?_); refine wpAny_pure ?_
  show wpAny _ A.in1 (rule "list.extend.makes-room" >>= fun _ => Builtin.List.listTouch (.ref S) >>= fun _ => again (.builtin "list.extend.loop" ⟨[.ref S, .ref z, res], []⟩)) _ _ _
  refine wpAny_bind (wpAny_rule ?_); refine wpAny_bind ?_
  show wpAny _ A.in1 (updateSeq S (·.push .none) >>= fun _ => updateSeq S (·.pop)) _ _ _
  refine wpAny_bind (wpAny_updateSeq hSo rfl ?_)
  have hS2 := Heap.get?_update_self (Obj.mapSeq (·.push Value.none)) hSo rfl
  refine wpAny_updateSeq (hz := by seq_fits) hS2 rfl ?_
  have hS3 := Heap.get?_update_self (Obj.mapSeq (·.pop)) hS2 rfl
  have oth : ∀ b o, b ≠ S → s.heap.get? b = some o → ((s.heap.update S (Obj.mapSeq (·.push Value.none))).update S (Obj.mapSeq (·.pop))).get? b = some o := fun b o hb e => (Heap.get?_update_other _ _ (Ne.symm hb)).trans ((Heap.get?_update_other _ _ (Ne.symm hb)).trans e)
  refine wpAny_pure ⟨plainId_quiet F.plain_extend_loop _, zip_gather hh1 D hl hS S1 S2 S3 S4 S5 S6 S7 hn res (min xs.size ys.size) _ [] _ rfl (Nat.zero_le _) ?_ (Z.keep hS S1 S2 S3 S4 S5 S6 S7 oth) hS3 fun s' Ts' c' g1 g2 g3 g4 g5 g6 g7 g8 => ?_⟩
  · show lo ≤ ((s.heap.update S _).update S _).objs.size
    rw [(Heap.SameBut.update _ S _).1, (Heap.SameBut.update _ S _).1]
    exact hlo
  · exact hR s' Ts' c' g1 g2 g3 g4 g5 g6 g7 fun b o b1 b2 b3 b4 b5 e => g8 b o b1 b2 b3 b4 b5 (oth b o b1 e)
theorem list_zip {Q : Value → Shared → Prop} (hh : A.handled = none) (D : ZipApart z TI TO i1 i2 l1 l2) (hl : z < s.heap.objs.size ∧ TO < s.heap.objs.size ∧ i1 < s.heap.objs.size ∧ i2 < s.heap.objs.size ∧ TI < s.heap.objs.size ∧ l1 < s.heap.objs.size ∧ l2 < s.heap.objs.size) (hn : min xs.size ys.size ≤ sizeLine)
    (hz : IsZip s.heap z TI TO .none) (hTI : IsPair s.heap TI (.ref i1) (.ref i2)) {a b : Value} (hTO : IsPair s.heap TO a b) (a1 : s.heap.IsListIter i1 l1 0) (a2 : s.heap.IsListIter i2 l2 0) (b1 : s.heap.IsList l1 xs) (b2 : s.heap.IsList l2 ys)
    (hq : ∀ (s' : Shared) (Ts' : List Addr) (c' : Nat), s'.gens = s.gens → s'.os = s.os → (∀ (j : Nat) (T : Addr), Ts'[j]? = some T → ∃ x y, xs[j]? = some x ∧ ys[j]? = some y ∧ IsPair s'.heap T x y) → (∀ T ∈ Ts', s.heap.objs.size + 1 ≤ T) → Ts'.Nodup → Ts'.length = min xs.size ys.size → s'.heap.get? s.heap.objs.size = some { cls := .type "list", dict := none, data := .seq (Ts'.map Value.ref).toArray c', slots := #[] } →
      (∀ b o, b ≠ z → b ≠ TO → b ≠ i1 → b ≠ i2 → s.heap.get? b = some o → s'.heap.get? b = some o) → Q (.ref s.heap.objs.size) s') :
    wpAny (model P w) A (call (.type "list") [.ref z]) Q E s := by
  obtain ⟨z1, z2, z3, z4, z5, z6, z7⟩ := hl
  refine callType_codes (Q₁ := fun ob s₁ => ob = .ref s.heap.objs.size ∧ s₁ = { s with heap := s.heap.push { cls := .type "list", data := .seq #[] } }) F.called_list (F.typeCall_list_1 _) F.entry_list_init (code_list_new _ ⟨rfl, rfl⟩) fun ob s₁ h₁ => ?_
  obtain ⟨rfl, rfl⟩ := h₁
  have hSo : (s.heap.push { cls := .type "list", data := .seq #[] }).get? s.heap.objs.size = some { cls := .type "list", data := .seq #[] } := Heap.get?_push_size _ rfl
  have hsz : (s.heap.push { cls := .type "list", data := .seq #[] }).objs.size = s.heap.objs.size + 1 := Heap.size_push ..
  have up : ∀ b o, s.heap.get? b = some o → (s.heap.push { cls := .type "list", data := .seq #[] }).get? b = some o := fun b o e => Heap.get?_push_of_some _ e
  refine ⟨⟨_, hSo, rfl⟩, F.args_list_init_2 _ _, ?_⟩
  show wpAny _ _ (do let old ← Builtin.List.listItems (.ref s.heap.objs.size); Builtin.List.listUpdate (.ref s.heap.objs.size) (fun _ => #[]); letGo old.toList.reverse; Builtin.List.listExtendWith (.ref s.heap.objs.size) (.ref z) .none) _ _ _
  refine wpAny_bind ?_; unfold Builtin.List.listItems
  refine wpAny_bind (wpAny_seqItems hSo rfl (wpAny_pure ?_))
  show wpAny _ _ (updateSeq s.heap.objs.size (fun _ => #[]) >>= fun _ => letGo (#[] : Array Value).toList.reverse >>= fun _ => Builtin.List.listExtendWith (.ref s.heap.objs.size) (.ref z) .none) _ _ _
  refine wpAny_bind (wpAny_updateSeq hSo rfl ?_)
  have hS2 := Heap.get?_update_self (Obj.mapSeq (fun _ => (#[] : Array Value))) hSo rfl
  have oth : ∀ b o, b ≠ s.heap.objs.size → s.heap.get? b = some o → ((s.heap.push { cls := .type "list", data := .seq #[] }).update s.heap.objs.size (Obj.mapSeq (fun _ => (#[] : Array Value)))).get? b = some o := fun b o hb e => (Heap.get?_update_other _ _ (Ne.symm hb)).trans (up b o e)
  refine wpAny_bind (wpAny_letGo ?_)
  have ne : ∀ {b : Addr}, b < s.heap.objs.size → b ≠ s.heap.objs.size := fun hb => Nat.ne_of_lt hb
  refine zip_extend (lo := s.heap.objs.size + 1) (by simp [hh]) D ⟨Nat.lt_succ_of_lt z1, Nat.lt_succ_of_lt z2, Nat.lt_succ_of_lt z3, Nat.lt_succ_of_lt z4⟩ (Nat.lt_succ_self _) (ne z1).symm (ne z5).symm (ne z2).symm (ne z3).symm (ne z4).symm (ne z6).symm (ne z7).symm hn .none _ ?_
    ⟨oth _ _ (ne z5) hTI, .inl ⟨rfl, oth _ _ (ne z1) hz, a, b, oth _ _ (ne z2) hTO⟩, a1.at fun o e => oth _ o (ne z3) e, a2.at fun o e => oth _ o (ne z4) e, b1.at fun o e => oth _ o (ne z6) e, b2.at fun o e => oth _ o (ne z7) e, (fun j T hj => by simp at hj), (fun T hT => nomatch hT), List.nodup_nil⟩ hS2 (fun s' Ts' c' g1 g2 g3 g4 g5 g6 g7 g8 => ?_)
  · show _ ≤ ((s.heap.push _).update _ _).objs.size
    rw [(Heap.SameBut.update _ _ _).1, hsz]
    exact Nat.le_refl _
  · exact ⟨rfl, hq s' Ts' c' g1 g2 g3 g4 g5 g6 g7 fun b o b2 b3 b4 b5 e => g8 b o (Nat.ne_of_lt (Heap.lt_size e)) b2 b3 b4 b5 (oth b o (Nat.ne_of_lt (Heap.lt_size e)) e)⟩
end
end G
/-! My base, part 16: list(zip(..)), the rule; many new pairs. -/
namespace G
open PySem PySem.Spec PyProof.Rows L2 TL
/-- pairs that are laid, one behind another -/
def tupsU (H : Hp) : List (Addr × V × V) → Hp
  | [] => H
  | q :: l => tupsU (upd H q.1 (.tup [q.2.1, q.2.2])) l
structure NewP (H : Hp) (l : List (Addr × V × V)) : Prop where
  none : ∀ q ∈ l, H q.1 = none
  nd : (l.map (·.1)).Nodup
theorem NewP.tail {H : Hp} {q : Addr × V × V} {l : List (Addr × V × V)} (n : NewP H (q :: l)) {o : HO} : NewP (upd H q.1 o) l := by
  have hd := List.nodup_cons.mp (show (q.1 :: l.map (·.1)).Nodup from n.nd)
  refine ⟨fun r hr => ?_, hd.2⟩
  rw [upd_ne (fun e => hd.1 (by rw [← e]; exact List.mem_map.mpr ⟨r, hr, rfl⟩))]
  exact n.none r (List.mem_cons_of_mem _ hr)
theorem tupsU_at : ∀ {l : List (Addr × V × V)} {H : Hp} {a : Addr}, (∀ q ∈ l, q.1 ≠ a) → tupsU H l a = H a
  | [], _, _, _ => rfl
  | q :: l, H, a, h => by
    show tupsU _ l a = _
    rw [tupsU_at fun r hr => h r (List.mem_cons_of_mem _ hr), upd_ne (h q (List.mem_cons_self ..)).symm]
theorem tupsU_in : ∀ {l : List (Addr × V × V)} {H : Hp} {q : Addr × V × V}, (l.map (·.1)).Nodup → q ∈ l → tupsU H l q.1 = some (.tup [q.2.1, q.2.2])
  | r :: l, H, q, hn, hq => by
    have hd := List.nodup_cons.mp (show (r.1 :: l.map (·.1)).Nodup from hn)
    show tupsU _ l q.1 = _
    rcases List.mem_cons.mp hq with rfl | hq
    · rw [tupsU_at fun z hz e => hd.1 (by rw [← e]; exact List.mem_map.mpr ⟨z, hz, rfl⟩), upd_same]
    · exact tupsU_in hd.2 hq
theorem tupsU_gr {M : Addr → Prop} : ∀ {l : List (Addr × V × V)} {F0 H0 F H : Hp}, Gr M F0 H0 F H → NewP H l → Gr M F0 H0 (tupsU F l) (tupsU H l)
  | [], _, _, _, _, g, _ => g
  | q :: l, F0, H0, F, H, g, n => by
    show Gr M F0 H0 (tupsU (upd F q.1 (.tup [q.2.1, q.2.2])) l) (tupsU (upd H q.1 (.tup [q.2.1, q.2.2])) l)
    exact tupsU_gr (g.frz (n.none q (List.mem_cons_self ..))) n.tail
theorem tupsU_RL {α β : Type} [Enc α] [Enc β] {K : PySem.W.Frag} {F : Hp} : ∀ {l : List (Addr × V × V)} {xs : List α} {ys : List β}, (l.map (·.1)).Nodup → (∀ q ∈ l, F q.1 = some (.tup [q.2.1, q.2.2])) → RL K F (l.map (·.2.1)) xs → RL K F (l.map (·.2.2)) ys →
    RL K F (l.map fun q => V.ref q.1) (xs.zip ys)
  | [], _, _, _, _, h1, h2 => by
    have e1 := RL.len h1
    have e3 : ∀ {γ : Type} (z : List γ), ([] : List V).length = z.length → z = [] := fun z h => List.eq_nil_of_length_eq_zero h.symm
    rw [e3 _ e1]
    exact RpA.nil
  | q :: l, [], _, _, _, h1, _ => by cases h1
  | q :: l, _ :: _, [], _, _, _, h2 => by cases h2
  | q :: l, x :: xs, y :: ys, hn, hF, h1, h2 => by
    cases h1 with
    | cons r1 h1 =>
      cases h2 with
      | cons r2 h2 =>
        have hd := List.nodup_cons.mp (show (q.1 :: l.map (·.1)).Nodup from hn)
        exact RL.cons (R.mk2 (.inl (.inl (hF q (List.mem_cons_self ..)))) r1 r2) (tupsU_RL hd.2 (fun z hz => hF z (List.mem_cons_of_mem _ hz)) h1 h2)
theorem HOk.track {P : Program} {w : World} {H : Hp} {h : Heap} {a : Addr} {o : HO} (x : HOk P w H h) (hn : H a = none) (new : ObjOk P w (upd H a o) h a o) : HOk P w (upd H a o) h := fun b u e => by
  by_cases hb : b = a
  · subst hb; rw [upd_same] at e; cases e; exact new
  · rw [upd_ne hb] at e
    exact (x b u e).stay (fun c v _ q => q) (fun c q => by rw [upd_ne (ne_of_none q hn)]; exact q) fun c zs q => by rw [upd_ne (ne_of_none q hn)]; exact q
theorem HOk.tracks {P : Program} {w : World} {h : Heap} : ∀ {l : List (Addr × V × V)} {H : Hp}, HOk P w H h → NewP H l → (∀ q ∈ l, ∃ x y, IsPair h q.1 x y ∧ RelV q.2.1 x ∧ RelV q.2.2 y) → HOk P w (tupsU H l) h
  | [], _, x, _, _ => x
  | q :: l, H, x, n, hp => by
    obtain ⟨a, b, p, r1, r2⟩ := hp q (List.mem_cons_self ..)
    refine HOk.tracks (l := l) (H := upd H q.1 (.tup [q.2.1, q.2.2])) (HOk.track x (n.none q (List.mem_cons_self ..)) ⟨by show 2 ≤ sizeLine; decide, [a, b], .cons r1 (.cons r2 .nil), ⟨_, p, rfl, _, rfl⟩⟩) n.tail fun z hz => hp z (List.mem_cons_of_mem _ hz)
theorem vals_refs : ∀ Ts : List Addr, Vals (Ts.map V.ref) (Ts.map Value.ref)
  | [] => .nil
  | _ :: Ts => .cons rfl (vals_refs Ts)
section
variable {X : Cx}
/-- list(zip(xs, ys)) of two lists -/
def tLZip (K : PySem.W.Frag) (ta : TA) : TE := fun σ H Q => ta σ H fun vs H1 => ∃ (a b : Addr) (xs ys : List V), vs = [.ref a, .ref b] ∧ SqL K H1 a xs ∧ SqL K H1 b ys ∧
  ∀ (l : List (Addr × V × V)) (p : Addr), NewP H1 l → l.map (·.2.1) = xs.take (min xs.length ys.length) → l.map (·.2.2) = ys.take (min xs.length ys.length) → tupsU H1 l p = none → Q (.ref p) (upd (tupsU H1 l) p (.lst (l.map fun q => V.ref q.1)))
theorem pe_lzip {e e2 : Expr} {ta : TA} {p p2 q pos : Pos} (hc : X.calm = true) (hg : Gl X "list") (hm : X.mg "list" = none) (hg2 : Gl X "zip") (hm2 : X.mg "zip" = none) (ha : PA X [e, e2] ta)
    (hs : starEach [e, e2] X.env = (false, eval e X.env) :: starEach [e2] X.env := by rfl) (hpl : (backTo q (starEach [e2] X.env)).any (·.1) = false := by rfl) :
    PE X (.Call (.Name "list" p) [.Call (.Name "zip" p2) [e, e2] [] q] [] pos) (tLZip X.K ta) := by
  refine ⟨fun pins s σ H Q I h => ?_⟩
  refine Call_ (ld_blt I hg hm (u := .type "list") (by decide +kernel) ?_)
  refine PyProof.Rows.callWith_type1 (PyProof.Rows.args_cons ?_ rfl) rfl rfl
  refine Call_ (ld_blt I hg2 hm2 PyProof.Rows.boot_zip (PyProof.Rows.callWith_type1 (thn (ha.run q pins s σ H _ I h) fun us s1 ⟨vs, H1, I1, r1, q1⟩ => ?_) hs hpl))
  obtain ⟨a, b, xs, ys, ex, hqx, hqy, q1⟩ := q1
  subst ex
  obtain ⟨u1, u2, rfl, ra, rb⟩ := vals2 r1
  cases (show u1 = Value.ref a from ra)
  cases (show u2 = Value.ref b from rb)
  obtain ⟨its, rv, p1, hz1⟩ := I1.list hqx
  obtain ⟨its2, rv2, pq2, hz2⟩ := I1.list hqy
  have la : a < s1.heap.objs.size := p1.lt
  have lb : b < s1.heap.objs.size := pq2.lt
  refine call_zip_2 p1.isList pq2.isList fun h' hz hTI hTO h1 h2 hsz hk => ?_
  refine PyProof.Rows.args_nil ?_
  have hmin : min its.toArray.size its2.toArray.size = min xs.length ys.length := by simp [← rv.length, ← rv2.length]
  refine list_zip (s := { s1 with heap := h' }) (I1.ok.hd hc) (PySem.W.ktu_apart s1.heap.objs.size a b la lb) ?_ (by rw [hmin]; exact Nat.le_trans (Nat.min_le_left _ _) hz1) hz hTI hTO h1 h2 (p1.isList.at fun o e => hk a o e) (pq2.isList.at fun o e => hk b o e) fun s' Ts c g1 g2 g3 g4 g5 g6 g7 g8 => ?_
  · show _ < h'.objs.size ∧ _ < h'.objs.size ∧ _ < h'.objs.size ∧ _ < h'.objs.size ∧ _ < h'.objs.size ∧ a < h'.objs.size ∧ b < h'.objs.size
    rw [hsz]
    have la' : (a : Nat) < s1.heap.objs.size := la
    have lb' : (b : Nat) < s1.heap.objs.size := lb
    refine ⟨?_, ?_, ?_, ?_, ?_, ?_, ?_⟩ <;> (first | exact Nat.lt_succ_self _ | exact Nat.add_lt_add_left (by decide) _ | exact Nat.lt_of_lt_of_le la (Nat.le_add_right _ _) | exact Nat.lt_of_lt_of_le lb (Nat.le_add_right _ _) | exact Nat.lt_add_of_pos_right (by decide))
  · have hsz' : h'.objs.size = s1.heap.objs.size + 5 := hsz
    have kept : ∀ b o, s1.heap.get? b = some o → s'.heap.get? b = some o := fun b o e => by
      have hb := Heap.lt_size e
      exact g8 b o (Nat.ne_of_lt (Nat.lt_of_lt_of_le hb (Nat.le_add_right _ _))) (Nat.ne_of_lt (Nat.lt_of_lt_of_le hb (Nat.le_add_right _ _))) (Nat.ne_of_lt hb) (Nat.ne_of_lt (Nat.lt_of_lt_of_le hb (Nat.le_add_right _ _))) (hk b o e)
    generalize hn : min xs.length ys.length = n at hmin
    have hl1 : (xs.take n).length = n := by rw [List.length_take]; omega
    have hl2 : (ys.take n).length = n := by rw [List.length_take]; omega
    have hT : Ts.length = n := g6.trans hmin
    have hz2' : ((xs.take n).zip (ys.take n)).length = n := by rw [List.length_zip, hl1, hl2, Nat.min_self]
    obtain ⟨l, hl⟩ : ∃ l, l = Ts.zip ((xs.take n).zip (ys.take n)) := ⟨_, rfl⟩
    have m1 : l.map (·.1) = Ts := by rw [hl]; exact List.map_fst_zip (by rw [hT, hz2']; exact Nat.le_refl _)
    have m2 : l.map (·.2) = (xs.take n).zip (ys.take n) := by rw [hl]; exact List.map_snd_zip (by rw [hT, hz2']; exact Nat.le_refl _)
    have m3 : l.map (·.2.1) = xs.take n := by
      have : (l.map (·.2)).map (·.1) = xs.take n := by rw [m2]; exact List.map_fst_zip (by rw [hl1, hl2]; exact Nat.le_refl _)
      rwa [List.map_map] at this
    have m4 : l.map (·.2.2) = ys.take n := by
      have : (l.map (·.2)).map (·.2) = ys.take n := by rw [m2]; exact List.map_snd_zip (by rw [hl1, hl2]; exact Nat.le_refl _)
      rwa [List.map_map] at this
    have m5 : (l.map fun q => V.ref q.1) = Ts.map V.ref := by rw [← m1, List.map_map]; rfl
    have hTlo : ∀ T ∈ Ts, s1.heap.objs.size + 6 ≤ T := fun T hm => by
      have := g4 T hm
      have e : h'.objs.size + 1 = s1.heap.objs.size + 6 := by rw [hsz']
      rw [← e]
      exact this
    have newp : NewP H1 l := ⟨fun q hq => I1.hok.fresh (Nat.le_trans (Nat.le_add_right _ 6) (hTlo q.1 (by rw [← m1]; exact List.mem_map.mpr ⟨q, hq, rfl⟩))), by rw [m1]; exact g5⟩
    have hp0 : ∀ q ∈ l, q.1 ≠ h'.objs.size := fun q hq e => by
      have := g4 q.1 (by rw [← m1]; exact List.mem_map.mpr ⟨q, hq, rfl⟩)
      rw [e] at this
      exact absurd this (Nat.not_succ_le_self _)
    have hpn : tupsU H1 l h'.objs.size = none := by
      rw [tupsU_at hp0]
      exact I1.hok.fresh (by rw [hsz']; exact Nat.le_add_right _ _)
    have prs : ∀ q ∈ l, ∃ x y, IsPair s'.heap q.1 x y ∧ RelV q.2.1 x ∧ RelV q.2.2 y := fun q hq => by
      obtain ⟨j, hj⟩ := List.getElem?_of_mem hq
      have j1 : Ts[j]? = some q.1 := by rw [← m1, List.getElem?_map, hj]; rfl
      have j2 : (xs.take n)[j]? = some q.2.1 := by rw [← m3, List.getElem?_map, hj]; rfl
      have j3 : (ys.take n)[j]? = some q.2.2 := by rw [← m4, List.getElem?_map, hj]; rfl
      obtain ⟨x, y, e1, e2, pr⟩ := g3 j q.1 j1
      have k2 : xs[j]? = some q.2.1 := by
        have := List.getElem?_take_of_lt (l := xs) (show j < n by rw [← hT]; exact (List.getElem?_eq_some_iff.mp j1).1)
        rw [← this]
        exact j2
      have k3 : ys[j]? = some q.2.2 := by
        have := List.getElem?_take_of_lt (l := ys) (show j < n by rw [← hT]; exact (List.getElem?_eq_some_iff.mp j1).1)
        rw [← this]
        exact j3
      obtain ⟨w1, f1, r1⟩ := rv.get k2
      obtain ⟨w2, f2, r2⟩ := rv2.get k3
      have x1 : w1 = x := by
        have : its[j]? = some x := by simpa using e1
        rw [f1] at this
        exact Option.some.inj this
      have x2 : w2 = y := by
        have : its2[j]? = some y := by simpa using e2
        rw [f2] at this
        exact Option.some.inj this
      exact ⟨x, y, pr, x1 ▸ r1, x2 ▸ r2⟩
    have old : ∀ b, b < s1.heap.objs.size → upd (tupsU H1 l) h'.objs.size (.lst (l.map fun q => V.ref q.1)) b = H1 b := fun b hb => by
      rw [upd_ne (Nat.ne_of_lt (Nat.lt_of_lt_of_le hb (by rw [hsz']; exact Nat.le_add_right _ _)))]
      refine tupsU_at fun q hq e => ?_
      have := hTlo q.1 (by rw [← m1]; exact List.mem_map.mpr ⟨q, hq, rfl⟩)
      rw [e] at this
      exact absurd (Nat.lt_of_lt_of_le hb (Nat.le_trans (Nat.le_add_right _ 6) this)) (Nat.lt_irrefl _)
    have oldS : ∀ {b : Addr} {o : HO}, H1 b = some o → upd (tupsU H1 l) h'.objs.size (.lst (l.map fun q => V.ref q.1)) b = some o := fun e => by rw [old _ (I1.hok.lt e)]; exact e
    have hok : HOk X.prog X.w (upd (tupsU H1 l) h'.objs.size (.lst (l.map fun q => V.ref q.1))) s'.heap :=
      HOk.track (HOk.tracks (I1.hok.kept kept) newp prs) hpn ⟨by rw [m5, List.length_map, hT, ← hn]; exact Nat.le_trans (Nat.min_le_left _ _) hz1, Ts.map Value.ref, c, by rw [m5]; exact vals_refs Ts, g7⟩
    have un : Un (frs X.stack) [] H1 (upd (tupsU H1 l) h'.objs.size (.lst (l.map fun q => V.ref q.1))) s1.heap s'.heap :=
      ⟨fun b o e _ _ _ => kept b o e, fun b o e _ _ _ => ⟨o.slots, kept b o e⟩, fun b o e n _ => by rw [old b (Heap.lt_size e)]; exact n, fun b o e _ => ⟨o, kept b o e⟩, fun b zs e => oldS e, fun b o u e => oldS e, fun b ps e => ⟨#[], by rw [oldS e]; simp⟩⟩
    have J : Inv X pins σ (upd (tupsU H1 l) h'.objs.size (.lst (l.map fun q => V.ref q.1))) s' := Inv.call' (ch := []) I1 g2 un hok (by rw [g1]; exact I1.bare) (fun _ z => nomatch z)
    exact ⟨.ref h'.objs.size, _, J, rfl, q1 l h'.objs.size newp (by rw [m3, hn]) (by rw [m4, hn]) hpn⟩
end
end G
/-! My base, part 17: xs.extend(a tuple). -/
namespace G
open PySem PySem.Spec PyProof.Rows L2 TL
theorem ext_tup (l : Addr) (xs : Array Value) (n : Nat) (b : Addr) (ys : Array Value) (n2 : Nat) (dd : Option Addr) (sl : Array (Option Value)) (h0 : ¬(!xs.isEmpty && Builtin.List.listTooLong (xs.size + ys.size)) = true) (h1 : xs.size ≤ sizeLine) (h2 : xs.size + ys.size ≤ sizeLine + 1) :
    Meets (Builtin.«list.extend» ⟨[.ref l, .ref b], []⟩) (fun _ R s => s.heap.get? l = some { cls := .type "list", dict := none, data := .seq xs n, slots := #[] } ∧ s.heap.get? b = some { cls := .type "tuple", dict := dd, data := .seq ys n2, slots := sl } ∧ R (.ok (.ret Value.none)) { s with heap := s.heap.update l (Obj.mapSeq fun x => x ++ ys), toks := s.toks }) :=
  .of_wp fun prog w A R s h => by
    obtain ⟨hp, g, d, tk, os⟩ := s; obtain ⟨hl, hb, h⟩ := h; have q1 := AutoSeq1.idx_int; have q2 := AutoSeq1.sub_tuple_tuple; have q3 := AutoSeq1.sub_list_list; have q4 := AutoSeq1.sub_tuple_list; have q5 := AutoSeq1.sub_list_tuple
    have hz : (xs ++ ys).size ≤ sizeLine + 1 := by rw [Array.size_append]; exact h2
    wp_walk using (wpAny_updateSeq hl rfl (hz := h1) (_hz' := hz)), AutoSeq1.wpAny_loadPart' hl, AutoSeq1.wpAny_loadPart' hb; exact ⟨_, rfl, h⟩
section
variable {X : Cx}
def rExtT (K : PySem.W.Frag) : V → List V → Hp → VK → Prop := fun x vs H Q => ∃ l b xs zs, x = .ref l ∧ vs = [.ref b] ∧ H l = some (.lst xs) ∧ SqT K H b zs ∧ xs.length + zs.length ≤ sizeLine ∧ Q .non (upd H l (.lst (xs ++ zs)))
theorem mt_extT : MtM X "list.extend" (rExtT X.K) := by
  intro pins s σ H x vs v us Q I rx rv h
  obtain ⟨l, b, xs, zs, rfl, rfl, hH, hB, hz, q⟩ := h
  cases rx
  obtain ⟨u, rfl, ru⟩ := rv.one
  cases ru
  obtain ⟨z, its, n, r, hl, e⟩ := I.lstM hH
  obtain ⟨its2, r2, ⟨⟨oc, od, dt, sl⟩, ho, hc, n2, hd⟩, hz2⟩ := I.tuple hB
  simp only at hc hd
  subst hc; subst hd
  have hl2 := r2.length
  have hsz : its.toArray.size + its2.toArray.size ≤ sizeLine := by rw [List.size_toArray, List.size_toArray]; omega
  have hlong : ¬ (!its.toArray.isEmpty && Builtin.List.listTooLong (its.toArray.size + its2.toArray.size)) = true := by rw [notLongL hsz, Bool.and_false]; exact Bool.false_ne_true
  refine call_meets F.slot_list_extend ⟨_, e, rfl⟩ F.entry_list_extend (F.args_list_extend_2 _ _) (ext_tup l its.toArray n b its2.toArray n2 od sl hlong (by rw [List.size_toArray]; omega) (by omega)) ⟨e, ho, ?_⟩
  exact ⟨.non, _, I.lset (its' := its ++ its2) hH e (by simp) (r.append r2) (by rw [List.length_append]; omega), rfl, q⟩
end
end G
/-! My base, part 18: what list(zip(..)) stands for; extend. -/
namespace G
open PySem PySem.Spec PyProof.Rows L2 TL
theorem zip_tk {α β : Type} : ∀ (xs : List α) (ys : List β) (n : Nat), n = min xs.length ys.length → (xs.take n).zip (ys.take n) = xs.zip ys
  | [], ys, n, h => by simp
  | x :: xs, [], n, h => by simp
  | x :: xs, y :: ys, n, h => by
    have e : n = min xs.length ys.length + 1 := by rw [h, List.length_cons, List.length_cons]; omega
    subst e
    rw [List.take_succ_cons, List.take_succ_cons, List.zip_cons_cons, List.zip_cons_cons, zip_tk xs ys _ rfl]
section
variable {α β : Type} [Enc α] [Enc β] {K : PySem.W.Frag} {F H : Hp} {l : List (Addr × V × V)} {ws ws2 : List V} {xs : List α} {ys : List β}
theorem RL.tk (n : Nat) (h : RL K F ws xs) : RL K F (ws.take n) (xs.take n) := by
  show RpA K F _ _
  rw [List.map_take]
  exact RpA.take n h
theorem lz_RL (nw : NewP H l) (sm : Same F (tupsU F l)) (e1 : l.map (·.2.1) = ws.take (min ws.length ws2.length)) (e2 : l.map (·.2.2) = ws2.take (min ws.length ws2.length)) (h1 : RL K F ws xs) (h2 : RL K F ws2 ys) :
    RL K (tupsU F l) (l.map fun q => V.ref q.1) (List.zip xs ys) := by
  rw [← zip_tk xs ys (min ws.length ws2.length) (by rw [h1.len, h2.len])]
  refine tupsU_RL nw.nd (fun q hq => tupsU_in nw.nd hq) ?_ ?_
  · rw [e1]
    exact RpA.up (RL.tk _ h1) sm
  · rw [e2]
    exact RpA.up (RL.tk _ h2) sm
theorem lz_len (e1 : l.map (·.2.1) = ws.take (min ws.length ws2.length)) (hl : ws.length ≤ sizeLine) : (l.map fun q => V.ref q.1).length ≤ sizeLine := by
  have h := congrArg List.length e1
  rw [List.length_map, List.length_take] at h
  rw [List.length_map, h]
  exact Nat.le_trans (Nat.min_le_right _ _) hl
end
def extL {α : Type} (xs ys : List α) : Option (List α) := conL xs ys
end G
/-! My base, part 19: rules that name K. -/
namespace G
open PySem PySem.Spec PyProof.Rows L2 TL
theorem RL.re {α : Type} [Enc α] {K : PySem.W.Frag} {F : Hp} {ws : List V} {x y : List α} (h : x = y) (r : RL K F ws x) : RL K F ws y := h ▸ r
section
variable {X : Cx} {K : PySem.W.Frag}
theorem ix_listK (h : X.K = K := by rfl) : IxR X (rIxL K) := h ▸ ix_list
theorem ix_tupK (h : X.K = K := by rfl) : IxR X (rIxT K) := h ▸ ix_tup
theorem sl_listK (h : X.K = K := by rfl) : SlR X (rSlL K) := h ▸ sl_list
theorem call_lenLK (h : X.K = K := by rfl) : CallR X (.builtin "len") (fun xs H Q => ∃ p ys n, xs = [.ref p] ∧ (SqL K H p ys ∨ SqT K H p ys) ∧ ys.length = n ∧ Q (.int (n : Nat)) H) := by subst h; exact call_lenL
theorem call_isi_ (h : X.K = K := by rfl) : CallR X (.builtin "isinstance") (rIsi K) := by subst h; exact call_isi
theorem call_list_of_ (h : X.K = K := by rfl) : CallR X (.type "list") (fun xs H Q => ∃ p ys, xs = [.ref p] ∧ (SqL K H p ys ∨ SqT K H p ys) ∧ ∀ l, H l = none → Q (.ref l) (upd H l (.lst ys))) := by subst h; exact call_list_of
theorem cr_all_ (hc : X.calm = true) (h : X.K = K := by rfl) : CallR X (.builtin "all") (rAll K) := by subst h; exact cr_all hc
theorem cr_any_ (hc : X.calm = true) (h : X.K = K := by rfl) : CallR X (.builtin "any") (rAny K) := by subst h; exact cr_any hc
theorem cr_sortedI_ (h : X.K = K := by rfl) : CallR X (.builtin "sorted") (rSortedI K) := by subst h; exact cr_sortedI
theorem op_catLK (h : X.K = K := by rfl) : OpR X (binaryOp .Add) (rCatL K) := by subst h; exact op_catL
theorem op_eqDK (hu : X.A.units + 64 < cLine) (h : X.K = K := by rfl) : OpR X (compareOp .Eq) (rEqD K) := by subst h; exact op_eqD hu
theorem op_neDK (hu : X.A.units + 64 < cLine) (h : X.K = K := by rfl) : OpR X (compareOp .NotEq) (rNeD K) := by subst h; exact op_neD hu
theorem pi_listK {tg l : Expr} {tl : TE} (hl : PE X l tl) (h : X.K = K := by rfl) : PI X tg l (iList K tl) := by subst h; exact pi_list hl
theorem pi_tupK {tg l : Expr} {tl : TE} (hl : PE X l tl) (h : X.K = K := by rfl) : PI X tg l (iTup K tl) := by subst h; exact pi_tup hl
theorem pg_tupK {es : List Expr} {k : Nat} {pos : Pos} {t : TGs} (n : Nat) (hc : X.calm = true) (ht : PGs X es t) (h : X.K = K := by rfl)
    (hn : (assignEach es X.env).length = n := by rfl) (hst : (assignEach es X.env).findIdx? (·.1) = none := by rfl) : PG X (.Tuple es k pos) (gTup K n t) := by subst h; exact pg_tup hc ht hn hst
theorem pe_bmK {o e : Expr} {es : List Expr} {to : TE} {t : TA} {name : Str} {apos cpos : Pos} {T id : String} {r : V → List V → Hp → VK → Prop} (pa : PlainAttrs T) (slot : Slot T name id) (hty : typeOf (.builtin id) = pure (.type "method_descriptor")) (hm : MtR X id r) (ho : PE X o to) (ha : PA X (e :: es) t) (h : X.K = K := by rfl)
    (hbase : attributeBase o name X.env (eval o X.env) = eval o X.env := by rfl)
    (hfew : ((backTo cpos (starEach (e :: es) X.env)).all (fun x => !x.1) && (backToKw cpos (keywordEach [] X.env)).all (fun x => x.1.isSome) && decide ((e :: es).length + ([] : List Keyword).length + (if ([] : List Keyword).isEmpty then 0 else 1) < 30)) = true := by rfl)
    (hline : (apos.endLine == cpos.line) = true := by rfl) (hs : starEach (e :: es) X.env = (false, eval e X.env) :: starEach es X.env := by rfl) (hplain : (backTo cpos (starEach es X.env)).any (·.1) = false := by rfl) :
    PE X (.Call (.Attribute o name apos) (e :: es) [] cpos) (tBM K T r to t) := by subst h; exact pe_bm pa slot hty hm ho ha hbase hfew hline hs hplain
theorem pe_bm0K {o : Expr} {to : TE} {name : Str} {apos cpos : Pos} {T id : String} {r : V → List V → Hp → VK → Prop} (pa : PlainAttrs T) (slot : Slot T name id) (hty : typeOf (.builtin id) = pure (.type "method_descriptor")) (hm : MtR X id r) (ho : PE X o to) (h : X.K = K := by rfl)
    (hbase : attributeBase o name X.env (eval o X.env) = eval o X.env := by rfl) (hline : (apos.endLine == cpos.line) = true := by rfl) : PE X (.Call (.Attribute o name apos) [] [] cpos) (tBM0 K T r to) := by subst h; exact pe_bm0 pa slot hty hm ho hbase hline
def rJoin (K : PySem.W.Frag) : V → List V → Hp → VK → Prop := fun x xs H Q => ∃ a p, ∃ ys : List Str, x = .str a ∧ xs = [.ref p] ∧ (SqL K H p (ys.map V.str) ∨ SqT K H p (ys.map V.str)) ∧
  (ys.map (·.length)).sum + ys.length * a.length ≤ 16777216 ∧ Q (.str (Txt.join a ys)) H
theorem pe_joinK {o e : Expr} {to te : TE} {apos pos : Pos} (ho : PE X o to) (he : PE X e te) (h : X.K = K := by rfl) (hs : starEach [e] X.env = [(false, eval e X.env)] := by rfl) (hbase : attributeBase o "join" X.env (eval o X.env) = eval o X.env := by rfl) (hline : (apos.endLine == pos.line) = true := by rfl) :
    PE X (.Call (.Attribute o "join" apos) [e] [] pos) (tM1 (rJoin K) to te) := by subst h; exact pe_join ho he hs hbase hline
theorem pe_revLK {e : Expr} {te : TE} {k : Nat} {p1 p2 p3 pos : Pos} (he : PE X e te) (h : X.K = K := by rfl) : PE X (.Subscript e (.Slice none none (some (.UnaryOp .USub (.Constant (.int 1) k p1) p2)) p3) pos) (tRevL K te) := by subst h; exact pe_revL he
theorem pe_ssetK {a : Expr} {ta : TE} {p p2 q pos : Pos} (hc : X.calm = true) (hg : Gl X "sorted") (hm : X.mg "sorted" = none) (hg2 : Gl X "set") (hm2 : X.mg "set" = none) (ha : PE X a ta) (h : X.K = K := by rfl)
    (na : starEach [a] X.env = (false, eval a X.env) :: starEach [] X.env := by rfl) : PE X (.Call (.Name "sorted" p) [.Call (.Name "set" p2) [a] [] q] [] pos) (tSSet K ta) := by subst h; exact pe_sset hc hg hm hg2 hm2 ha na
theorem pe_lzipK {e e2 : Expr} {ta : TA} {p p2 q pos : Pos} (hc : X.calm = true) (hg : Gl X "list") (hm : X.mg "list" = none) (hg2 : Gl X "zip") (hm2 : X.mg "zip" = none) (ha : PA X [e, e2] ta) (h : X.K = K := by rfl)
    (hs : starEach [e, e2] X.env = (false, eval e X.env) :: starEach [e2] X.env := by rfl) (hpl : (backTo q (starEach [e2] X.env)).any (·.1) = false := by rfl) :
    PE X (.Call (.Name "list" p) [.Call (.Name "zip" p2) [e, e2] [] q] [] pos) (tLZip K ta) := by subst h; exact pe_lzip hc hg hm hg2 hm2 ha hs hpl
theorem mt_extTK (h : X.K = K := by rfl) : MtM X "list.extend" (rExtT K) := by subst h; exact mt_extT
end
end G
/-! sorted(texts), any number; sorted(pairs of ints), any number. -/
namespace G
open PySem PySem.Spec PyProof.Rows L2 TL
def leT (a b : Str) : Bool := decide (tl a ≤ tl b)
def sortT (xs : List Str) : List Str := xs.mergeSort leT
theorem leT_trans (a b c : Str) (h1 : leT a b = true) (h2 : leT b c = true) : leT a c = true := decide_eq_true (List.le_trans (of_decide_eq_true h1) (of_decide_eq_true h2))
theorem leT_total (a b : Str) : (leT a b || leT b a) = true := by
  unfold leT
  rcases List.le_total (tl a) (tl b) with h | h
  · rw [decide_eq_true h]; rfl
  · rw [decide_eq_true h, Bool.or_true]
theorem sortT_perm (xs : List Str) : (sortT xs).Perm xs := List.mergeSort_perm _ _
theorem sortT_sorted (xs : List Str) : (sortT xs).Pairwise fun a b => leT a b = true := List.pairwise_mergeSort leT_trans leT_total xs
theorem sortT_len (xs : List Str) : (sortT xs).length = xs.length := (sortT_perm xs).length_eq
theorem tl_eq {x y : Str} (h : tl x = tl y) : x = y := by
  cases x; cases y
  simp only [tl] at h
  congr
  exact Array.toList_inj.mp h
theorem rising_pw : ∀ (r : List Str) (p : Str), risingS p r = true → (p :: r).Pairwise fun a b => leT a b = true
  | [], p, _ => List.pairwise_singleton _ _
  | x :: r, p, h => by
    have h' : (!ltCps x.cps.toList p.cps.toList && risingS x r) = true := h
    rw [Bool.and_eq_true, ltCps_eq, Bool.not_eq_true', decide_eq_false_iff_not] at h'
    have ih := rising_pw r x h'.2
    have hx : leT p x = true := decide_eq_true h'.1
    refine List.pairwise_cons.mpr ⟨fun z hz => ?_, ih⟩
    rcases List.mem_cons.mp hz with rfl | hz
    · exact hx
    · exact leT_trans _ _ _ hx ((List.pairwise_cons.mp ih).1 z hz)
theorem sortedS_pw : ∀ l : List Str, sortedS l = true → l.Pairwise fun a b => leT a b = true
  | [], _ => List.Pairwise.nil
  | x :: r, h => rising_pw r x h
theorem sortT_uniq {xs ys : List Str} (h : ys.Perm xs) (h2 : sortedS ys = true) : sortT xs = ys :=
  ((sortT_perm xs).trans h.symm).eq_of_pairwise (le := fun a b => leT a b = true) (fun a b _ _ h3 h4 => tl_eq (List.le_antisymm (of_decide_eq_true h3) (of_decide_eq_true h4))) (sortT_sorted xs) (sortedS_pw ys h2)
def rSortedSA (K : PySem.W.Frag) : List V → Hp → VK → Prop := fun vs H Q => ∃ (a : Addr) (xs : List Str), vs = [V.ref a] ∧ SqL K H a (xs.map V.str) ∧
  ∀ (p : Addr), H p = none → Q (.ref p) (upd H p (.lst ((sortT xs).map V.str)))
section
variable {X : Cx} {K : PySem.W.Frag}
theorem cr_sortedSA : CallR X (.builtin "sorted") (rSortedSA X.K) := by
  intro pins s σ H vs us Q I r h
  obtain ⟨a, xs, rfl, hs, q⟩ := h
  obtain ⟨its, rv, hl, hz⟩ := I.list hs
  rw [Vals.ref1 r]
  have hlen0 := rv.length
  refine PyProof.Rows.sorted_strsAny hl.isList rv.strs (by rw [← hlen0]; exact hz) fun out ys h1 h2 h3 => ?_
  obtain rfl := sortT_uniq h2 h3
  obtain ⟨ep, he'⟩ := PyProof.Rows.sortedAll_at s.heap its out
  have hlen : ((sortT xs).map V.str).length ≤ sizeLine := by rw [List.length_map, sortT_len]; rw [List.length_map] at hz; exact hz
  exact ⟨.ref _, upd H (s.heap.objs.size + 1) (.lst ((sortT xs).map V.str)), I.laid (t' := s.toks) (fun _ _ => PyProof.Rows.sortedAll_old) (Nat.le_succ _) ⟨hlen, out.toList, ep, vals_of_strs h1, he'⟩, rfl, q _ (I.hok.fresh (Nat.le_succ _))⟩
theorem cr_sortedSA_ (h : X.K = K := by rfl) : CallR X (.builtin "sorted") (rSortedSA K) := by subst h; exact cr_sortedSA
end
/-! ### pairs -/
def leP (p q : Int × Int) : Bool := decide (p.1 < q.1 ∨ (p.1 = q.1 ∧ p.2 ≤ q.2))
def sortP (xs : List (Int × Int)) : List (Int × Int) := xs.mergeSort leP
theorem leP_trans (a b c : Int × Int) (h1 : leP a b = true) (h2 : leP b c = true) : leP a c = true := by
  have h1 := of_decide_eq_true h1
  have h2 := of_decide_eq_true h2
  exact decide_eq_true (by omega)
theorem leP_total (a b : Int × Int) : (leP a b || leP b a) = true := by
  unfold leP
  by_cases h : a.1 < b.1 ∨ (a.1 = b.1 ∧ a.2 ≤ b.2)
  · rw [decide_eq_true h]; rfl
  · rw [decide_eq_true (p := b.1 < a.1 ∨ (b.1 = a.1 ∧ b.2 ≤ a.2)) (by omega), Bool.or_true]
theorem sortP_perm (xs : List (Int × Int)) : (sortP xs).Perm xs := List.mergeSort_perm _ _
theorem sortP_sorted (xs : List (Int × Int)) : (sortP xs).Pairwise fun a b => leP a b = true := List.pairwise_mergeSort leP_trans leP_total xs
theorem sortP_len (xs : List (Int × Int)) : (sortP xs).length = xs.length := (sortP_perm xs).length_eq
theorem sortP_uniq {xs ys : List (Int × Int)} (h : ys.Perm xs) (h2 : ys.Pairwise fun a b => leP a b = true) : sortP xs = ys :=
  ((sortP_perm xs).trans h.symm).eq_of_pairwise (le := fun a b => leP a b = true) (fun a b _ _ h3 h4 => by
    have h3 := of_decide_eq_true h3
    have h4 := of_decide_eq_true h4
    exact Prod.ext (by omega) (by omega)) (sortP_sorted xs) h2
open Classical in
noncomputable def keyV (K : PySem.W.Frag) (H : Hp) (v : V) : Int × Int := if h : ∃ x : Int × Int, R K H v x then h.choose else (0, 0)
theorem keyV_spec {K : PySem.W.Frag} {H : Hp} {v : V} {x : Int × Int} (h : R K H v x) : R K H v (keyV K H v) := by
  unfold keyV
  rw [dif_pos ⟨x, h⟩]
  exact Exists.choose_spec (⟨x, h⟩ : ∃ x : Int × Int, R K H v x)
def rSortedPK (K : PySem.W.Frag) : List V → Hp → VK → Prop := fun vs H Q => ∃ (a : Addr) (xs : List V) (ds : List (Int × Int)), vs = [V.ref a] ∧ SqL K H a xs ∧ RL K H xs ds ∧
  ∀ (ys : List V) (p : Addr), ys.length = xs.length → (∀ F, RL K F xs ds → RL K F ys (sortP ds)) → H p = none → Q (.ref p) (upd H p (.lst ys))
section
variable {X : Cx} {K : PySem.W.Frag}
theorem cr_sortedPK : CallR X (.builtin "sorted") (rSortedPK X.K) := by
  intro pins s σ H vs us Q I r h
  obtain ⟨a, xs, ds, rfl, hs, hA, q⟩ := h
  have hkey : ∀ i v x, xs[i]? = some v → ds[i]? = some x → keyV X.K H v = x ∧ ∃ t, v = .ref t ∧ SqT X.K H t [.int x.1, .int x.2] := fun i v x hv hx => by
    obtain ⟨x', hx', r⟩ := RL.get hA hv
    rw [hx] at hx'
    cases hx'
    have r2 := keyV_spec r
    obtain ⟨p, v1, v2, e, h1, r3, r4⟩ := R.p2_v r
    obtain ⟨p', w1, w2, e', h2, r5, r6⟩ := R.p2_v r2
    subst e
    cases e'
    obtain rfl := R.int_v r3
    obtain rfl := R.int_v r4
    obtain rfl := R.int_v r5
    obtain rfl := R.int_v r6
    have := I.tuple_inj h1 h2
    simp only [List.cons.injEq, V.int.injEq, and_true] at this
    exact ⟨Prod.ext this.1.symm this.2.symm, p, rfl, h1⟩
  have hlen : xs.length = ds.length := RL.len hA
  have hmem : ∀ v ∈ xs, ∃ t, v = .ref t ∧ SqT X.K H t [.int (keyV X.K H v).1, .int (keyV X.K H v).2] := fun v hv => by
    obtain ⟨i, hi, rfl⟩ := List.getElem_of_mem hv
    obtain ⟨k1, k2⟩ := hkey i xs[i] (ds[i]'(by omega)) (List.getElem?_eq_getElem hi) (List.getElem?_eq_getElem (by omega))
    rw [k1]
    exact k2
  obtain ⟨its, rv, hl, hz⟩ := I.list hs
  obtain ⟨u, rfl, ru⟩ := vals1 r
  obtain rfl : u = Value.ref a := ru
  obtain ⟨e1, e2⟩ := refs_back rv fun x m => by
    obtain ⟨t, e, _⟩ := hmem x m
    exact ⟨t, e⟩
  refine SrtO.sorted_pairsO (k := fun u => keyV X.K H (backV u)) hl.isList (by rw [← rv.length]; exact hz) (fun v hv => ?_) fun h' d out h1 h2 kp hd hn => ?_
  · obtain ⟨t, rfl⟩ := e2 v hv
    have hm : V.ref t ∈ xs := by rw [e1]; exact List.mem_map.mpr ⟨_, hv, rfl⟩
    obtain ⟨t', e, ht⟩ := hmem _ hm
    cases e
    obtain ⟨its2, r2, ⟨o, ho, hc, n, hd⟩, _⟩ := I.tuple ht
    obtain ⟨u1, u2, rfl, ri, rj⟩ := vals2 r2
    obtain ⟨t1, rfl⟩ := ri
    obtain ⟨t2, rfl⟩ := rj
    exact ⟨t, o, t1, t2, n, rfl, ho, hc, hd⟩
  · have h3 : ∀ u ∈ out, ∃ a, u = Value.ref a := fun u hu => e2 u (h2.perm.mem_iff.mp hu)
    obtain ⟨n, hn⟩ := hn
    have hb : SrtO.Stb (ltP (keyV X.K H)) (out.map backV) xs := by
      rw [e1]
      exact SrtO.Stb.map (ltP_swo (keyV X.K H)) backV h2
    have hsr : SrtO.Srtd (ltP (keyV X.K H)) (out.map backV) := SrtO.srtd_map h1
    have hds : xs.map (keyV X.K H) = ds := List.ext_getElem? fun i => by
      rw [List.getElem?_map]
      by_cases hi : i < xs.length
      · rw [List.getElem?_eq_getElem hi, List.getElem?_eq_getElem (by omega)]
        exact congrArg some (hkey i xs[i] (ds[i]'(by omega)) (List.getElem?_eq_getElem hi) (List.getElem?_eq_getElem (by omega))).1
      · rw [List.getElem?_eq_none (by omega), List.getElem?_eq_none (by omega)]
        rfl
    have hso : sortP ds = (out.map backV).map (keyV X.K H) := by
      refine sortP_uniq (by rw [← hds]; exact hb.perm.map _) (List.pairwise_map.mpr (hsr.imp fun {x y} h => ?_))
      have := SrtO.lexB_no.mp h
      exact decide_eq_true (by omega)
    refine ⟨.ref d, upd H d (.lst (out.map backV)), I.laid (t' := s.toks) kp hd ⟨?_, out, n, vals_back h3, hn⟩, rfl, q _ d hb.len (fun F hF => ?_) (I.hok.fresh hd)⟩
    · rw [hb.len]
      exact hz
    · rw [hso]
      have hall : ∀ v ∈ out.map backV, R X.K F v (keyV X.K H v) := fun v hv => by
        obtain ⟨i, hi, rfl⟩ := List.getElem_of_mem (hb.perm.mem_iff.mp hv)
        obtain ⟨x, hx, rx⟩ := RL.get hF (List.getElem?_eq_getElem hi)
        rw [(hkey i xs[i] x (List.getElem?_eq_getElem hi) hx).1]
        exact rx
      have go : ∀ l : List V, (∀ v ∈ l, R X.K F v (keyV X.K H v)) → RL X.K F l (l.map (keyV X.K H)) := fun l => by
        induction l with
        | nil => exact fun _ => .nil
        | cons v l ih => exact fun h => .cons (h v (List.mem_cons_self ..)) (ih fun u hu => h u (List.mem_cons_of_mem _ hu))
      exact go _ hall
theorem cr_sortedPK_ (h : X.K = K := by rfl) : CallR X (.builtin "sorted") (rSortedPK K) := by subst h; exact cr_sortedPK
end
/-! ### lists lent, walked over -/
def Lent {α : Type} [Enc α] (K : PySem.W.Frag) (H F : Hp) (M : Addr → Prop) (v : V) (e : List α) : Prop := ∃ p ws, v = .ref p ∧ SqL K H p ws ∧ ws.length ≤ sizeLine ∧ RL K F ws e ∧ ¬ M p
inductive LentL {α : Type} [Enc α] (K : PySem.W.Frag) (H F : Hp) (M : Addr → Prop) : List V → List (List α) → Prop
  | nil : LentL K H F M [] []
  | cons {v e vs es} : Lent K H F M v e → LentL K H F M vs es → LentL K H F M (v :: vs) (e :: es)
theorem LentL.len {α : Type} [Enc α] {K : PySem.W.Frag} {H F : Hp} {M : Addr → Prop} : ∀ {vs : List V} {es : List (List α)}, LentL K H F M vs es → vs.length = es.length
  | _, _, .nil => rfl
  | _, _, .cons _ t => congrArg (· + 1) t.len
theorem LentL.get {α : Type} [Enc α] {K : PySem.W.Frag} {H F : Hp} {M : Addr → Prop} : ∀ {vs : List V} {es : List (List α)} {i : Nat} {v : V}, LentL K H F M vs es → vs[i]? = some v → ∃ e, es[i]? = some e ∧ Lent K H F M v e
  | _, _, _, _, .nil, h => by simp at h
  | _, _, 0, _, .cons r _, h => ⟨_, rfl, by simp at h; exact h ▸ r⟩
  | _, _, i + 1, _, .cons _ t, h => by
    obtain ⟨e, h1, h2⟩ := LentL.get t (i := i) (by simpa using h)
    exact ⟨e, by simpa using h1, h2⟩
end G
/-! zip and enumerate walked over; a text looked up in a written table. -/
namespace G
open PySem PySem.Spec PyProof.Rows L2 TL
section
variable {K : PySem.W.Frag}
theorem pi_zipK {X : Cx} {e e2 : Expr} {ta : TA} {p pos tpos : Pos} {elts : List Expr} {kk : Nat} (hg : Gl X "zip") (hm : X.mg "zip" = none) (ha : PA X [e, e2] ta) (h : X.K = K := by rfl)
    (hs : starEach [e, e2] X.env = (false, eval e X.env) :: starEach [e2] X.env := by rfl) (hpl : (backTo pos (starEach [e2] X.env)).any (·.1) = false := by rfl) :
    PI X (.Tuple elts kk tpos) (.Call (.Name "zip" p) [e, e2] [] pos) (iZip K ta) := by subst h; exact pi_zip hg hm ha hs hpl
theorem pi_enumK {X : Cx} {e : Expr} {ta : TA} {p pos tpos : Pos} {elts : List Expr} {kk : Nat} (hg : Gl X "enumerate") (hm : X.mg "enumerate" = none) (ha : PA X [e] ta) (h : X.K = K := by rfl) (hs : starEach [e] X.env = [(false, eval e X.env)] := by rfl) :
    PI X (.Tuple elts kk tpos) (.Call (.Name "enumerate" p) [e] [] pos) (iEnum K ta) := by subst h; exact pi_enum hg hm ha hs
theorem for_zip {a b : Addr} {xs ys : List V} {g : TG} {tb : TS} {D : Ends} {σ : L2.St} {H : Hp} (Pv : Nat → L2.St → Hp → Prop) (h0 : Pv 0 σ H)
    (hl : ∀ i σ H, i ≤ min xs.length ys.length → Pv i σ H → SqL K H a xs ∧ SqL K H b ys)
    (hs : ∀ i x y T σ H, xs[i]? = some x → ys[i]? = some y → H T = none → Pv i σ H → g (.ref T) σ (upd H T (.tup [x, y])) fun σ2 H2 => tb { D with nx := Pv (i + 1), ct := Pv (i + 1), bk := D.nx } σ2 H2) (hd : ∀ σ H, Pv (min xs.length ys.length) σ H → D.nx σ H) :
    ∃ W : Nat → Nat → L2.St → Hp → Prop, (∃ m, W 0 m σ H) ∧ ∀ i m σ H, W i m σ H →
      ((Itz K a b).stop i H ∧ D.nx σ H) ∨ ((Itz K a b).go i H ∧ ∃ N : L2.St → Hp → Prop, (∀ σ' H', N σ' H' → ∃ m', m' < m ∧ W (i + 1) m' σ' H') ∧ ∀ x H', (Itz K a b).yld i H x H' → g x σ H' fun σ2 H2 => tb { D with nx := N, ct := N, bk := D.nx } σ2 H2) :=
  for_it (walk_zip rfl) Pv h0 hl (fun i v σ H H' _ p ⟨T, x, y, e1, e2, e3, e4, e5⟩ => by subst e1 e3; exact hs i x y T σ H e4 e5 e2 p) hd
theorem for_enum {a : Addr} {xs : List V} {g : TG} {tb : TS} {D : Ends} {σ : L2.St} {H : Hp} (Pv : Nat → L2.St → Hp → Prop) (h0 : Pv 0 σ H)
    (hl : ∀ i σ H, i ≤ xs.length → Pv i σ H → SqL K H a xs)
    (hs : ∀ i x T σ H, xs[i]? = some x → H T = none → Pv i σ H → g (.ref T) σ (upd H T (.tup [.int (i : Nat), x])) fun σ2 H2 => tb { D with nx := Pv (i + 1), ct := Pv (i + 1), bk := D.nx } σ2 H2) (hd : ∀ σ H, Pv xs.length σ H → D.nx σ H) :
    ∃ W : Nat → Nat → L2.St → Hp → Prop, (∃ m, W 0 m σ H) ∧ ∀ i m σ H, W i m σ H →
      ((Ite K a).stop i H ∧ D.nx σ H) ∨ ((Ite K a).go i H ∧ ∃ N : L2.St → Hp → Prop, (∀ σ' H', N σ' H' → ∃ m', m' < m ∧ W (i + 1) m' σ' H') ∧ ∀ x H', (Ite K a).yld i H x H' → g x σ H' fun σ2 H2 => tb { D with nx := N, ct := N, bk := D.nx } σ2 H2) :=
  for_it walk_enum Pv h0 hl (fun i v σ H H' _ p ⟨T, x, y, e1, e2, e3, e4, e5⟩ => by
    subst e1 e3
    cases e4
    exact hs i y T σ H e5 e2 p) hd
theorem lc_zip {a b : Addr} {xs ys : List V} {g : TG} {tt : TT} {te : TE} {vs : List Nat} {σ : L2.St} {H1 : Hp} {D : Addr} {Qd : Hp → Prop} (Pv : Nat → Hp → Prop) (h0 : Pv 0 (upd H1 D (.lst [])))
    (hl : ∀ i H, i ≤ min xs.length ys.length → Pv i H → SqL K H a xs ∧ SqL K H b ys)
    (hs : ∀ i x y T H, xs[i]? = some x → ys[i]? = some y → H T = none → Pv i H → g (.ref T) (wipe σ vs) (upd H T (.tup [x, y])) fun σ2 H2 => wipe σ2 vs = wipe σ vs ∧ tt σ2 H2 fun b H3 =>
      if b = true then te σ2 H3 fun y H4 => ∃ acc, H4 D = some (.lst acc) ∧ acc.length < sizeLine ∧ Pv (i + 1) (upd H4 D (.lst (acc ++ [y]))) else Pv (i + 1) H3) (hd : ∀ H, Pv (min xs.length ys.length) H → Qd H) :
    ∃ W : Nat → Nat → Hp → Prop, (∃ m, W 0 m (upd H1 D (.lst []))) ∧ ∀ i m H, W i m H →
      ((Itz K a b).stop i H ∧ Qd H) ∨ ((Itz K a b).go i H ∧ ∃ Nx : Hp → Prop, (∀ H', Nx H' → ∃ m', m' < m ∧ W (i + 1) m' H') ∧ ∀ x H', (Itz K a b).yld i H x H' → g x (wipe σ vs) H' fun σ2 H2 => wipe σ2 vs = wipe σ vs ∧ tt σ2 H2 fun b H3 =>
        if b = true then te σ2 H3 fun y H4 => ∃ acc, H4 D = some (.lst acc) ∧ acc.length < sizeLine ∧ Nx (upd H4 D (.lst (acc ++ [y]))) else Nx H3) :=
  lc_it (walk_zip rfl) Pv h0 hl (fun i v H H' _ p ⟨T, x, y, e1, e2, e3, e4, e5⟩ => by subst e1 e3; exact hs i x y T H e4 e5 e2 p) hd
theorem lc_enum {a : Addr} {xs : List V} {g : TG} {tt : TT} {te : TE} {vs : List Nat} {σ : L2.St} {H1 : Hp} {D : Addr} {Qd : Hp → Prop} (Pv : Nat → Hp → Prop) (h0 : Pv 0 (upd H1 D (.lst [])))
    (hl : ∀ i H, i ≤ xs.length → Pv i H → SqL K H a xs)
    (hs : ∀ i x T H, xs[i]? = some x → H T = none → Pv i H → g (.ref T) (wipe σ vs) (upd H T (.tup [.int (i : Nat), x])) fun σ2 H2 => wipe σ2 vs = wipe σ vs ∧ tt σ2 H2 fun b H3 =>
      if b = true then te σ2 H3 fun y H4 => ∃ acc, H4 D = some (.lst acc) ∧ acc.length < sizeLine ∧ Pv (i + 1) (upd H4 D (.lst (acc ++ [y]))) else Pv (i + 1) H3) (hd : ∀ H, Pv xs.length H → Qd H) :
    ∃ W : Nat → Nat → Hp → Prop, (∃ m, W 0 m (upd H1 D (.lst []))) ∧ ∀ i m H, W i m H →
      ((Ite K a).stop i H ∧ Qd H) ∨ ((Ite K a).go i H ∧ ∃ Nx : Hp → Prop, (∀ H', Nx H' → ∃ m', m' < m ∧ W (i + 1) m' H') ∧ ∀ x H', (Ite K a).yld i H x H' → g x (wipe σ vs) H' fun σ2 H2 => wipe σ2 vs = wipe σ vs ∧ tt σ2 H2 fun b H3 =>
        if b = true then te σ2 H3 fun y H4 => ∃ acc, H4 D = some (.lst acc) ∧ acc.length < sizeLine ∧ Nx (upd H4 D (.lst (acc ++ [y]))) else Nx H3) :=
  lc_it walk_enum Pv h0 hl (fun i v H H' _ p ⟨T, x, y, e1, e2, e3, e4, e5⟩ => by
    subst e1 e3
    cases e4
    exact hs i y T H e5 e2 p) hd
theorem gzip_get {α β : Type} {xs : List α} {ys : List β} {i : Nat} {x : α} {y : β} (h1 : xs[i]? = some x) (h2 : ys[i]? = some y) : (List.zip xs ys)[i]? = some (x, y) := by
  rw [List.zip, List.getElem?_zipWith, h1, h2]
theorem enum_get {α : Type} {xs : List α} {i : Nat} {x : α} (h : xs[i]? = some x) : (List.zip (rangeL 0 xs.length) xs)[i]? = some (((i : Nat) : Int), x) := by
  have hi : i < xs.length := (List.getElem?_eq_some_iff.mp h).1
  have := rangeL_at (lo := 0) hi
  rw [Int.zero_add] at this
  exact gzip_get this h
theorem zip_lenV {α β γ δ : Type} {xs : List α} {ys : List β} {vs : List γ} {ws : List δ} (h1 : vs.length = xs.length) (h2 : ws.length = ys.length) : min vs.length ws.length = (List.zip xs ys).length := by rw [List.length_zip, h1, h2]
theorem enum_lenV {α γ : Type} {xs : List α} {vs : List γ} (h1 : vs.length = xs.length) : vs.length = (List.zip (rangeL 0 xs.length) xs).length := by rw [List.length_zip, rangeL_len, h1]; exact (Nat.min_self _).symm
end
/-! ### texts looked up in a written table -/
def dgetI (kvs : List (Str × Str)) (k : Str) : Option Str := (kvs.find? fun kv => decide (kv.1 = k)).map (·.2)
theorem rd_dgetI {ty : TE} {σ : L2.St} {H : Hp} {Q : VK} {k v : Str} (trs : List (TE × TE)) (kvs : List (Str × Str)) (he : trs = kvs.map fun kv => (tC (.str kv.1), tC (.str kv.2))) (h15 : kvs.length ≤ 15) (hm : mergeK [] (kvS kvs) = kvS kvs)
    (hk : dgetI kvs k = some v) (hy : ∀ H1 Q', Q' (.str k) H1 → ty σ H1 Q') (q : ∀ p, H p = none → Q (.str v) (upd H p (.dK (kvS kvs)))) : tDGet (tDisp trs) ty σ H Q := by
  intro p hp
  have walk : ∀ (l : List (Str × Str)) (R : List (V × V) → Hp → Prop) (H1 : Hp), R (l.map fun kv => (V.str kv.1, V.str kv.2)) H1 → tPairs (l.map fun kv => (tC (.str kv.1), tC (.str kv.2))) σ H1 R := by
    intro l
    induction l with
    | nil => intro R H1 h; exact h
    | cons kv l ih => intro R H1 h; exact ih (fun ps H3 => R ((V.str kv.1, V.str kv.2) :: ps) H3) H1 h
  rw [he]
  refine walk kvs _ _ ⟨upd_same, kvS kvs, ?_, ?_, ?_⟩
  · unfold kvS
    rw [List.map_map]
    rfl
  · unfold kvS
    rw [List.length_map]
    exact h15
  · rw [hm, upd_upd]
    have e : valV (kvS kvs) (Sum.inr k) = some (.str v) := by
      rw [valS]
      unfold dgetI at hk
      rw [hk]
      rfl
    exact hy _ _ ⟨p, .str v, rfl, e ▸ DGet.k (k := Sum.inr k) upd_same, q p hp⟩
theorem GS.di {kvs : List (Str × Str)} {k v : Str} (h : ∀ kv ∈ kvs, GS kv.2) (hk : dgetI kvs k = some v) : GS v := by
  unfold dgetI at hk
  cases e : (kvs.find? fun kv => decide (kv.1 = k)) with
  | none => rw [e] at hk; cases hk
  | some kv =>
    rw [e] at hk
    cases hk
    exact h kv (List.mem_of_find?_eq_some e)
end G
/-! Plain laws: how the makings come out. -/
namespace G
open PySem PySem.Spec PyProof.Rows L2 TL
section
variable {α β γ δ S : Type} {I : S → Prop}
def O1 (o : Option α) (P : α → Prop) : Prop := ∃ a, o = some a ∧ P a
def O2 (I : S → Prop) (o : Option (α × S)) (P : α → Prop) : Prop := ∃ a b, o = some (a, b) ∧ I b ∧ P a
theorem O1.ret {a : α} {P : α → Prop} (h : P a) : O1 (some a) P := ⟨a, rfl, h⟩
theorem O1.imp {o : Option α} {P Q : α → Prop} (h : O1 o P) (k : ∀ a, P a → Q a) : O1 o Q := let ⟨a, e, p⟩ := h; ⟨a, e, k a p⟩
theorem O1.bind {o : Option α} {f : α → Option β} {P : α → Prop} {Q : β → Prop} (h : O1 o P) (k : ∀ a, P a → O1 (f a) Q) : O1 (Option.bind o f) Q := by
  obtain ⟨a, rfl, p⟩ := h
  exact k a p
theorem O2.ret {a : α} {b : S} {P : α → Prop} (hb : I b) (h : P a) : O2 I (some (a, b)) P := ⟨a, b, rfl, hb, h⟩
theorem O2.imp {o : Option (α × S)} {P Q : α → Prop} (h : O2 I o P) (k : ∀ a, P a → Q a) : O2 I o Q := let ⟨a, b, e, i, p⟩ := h; ⟨a, b, e, i, k a p⟩
theorem O2.bind1 {o : Option α} {f : α → Option (β × S)} {P : α → Prop} {Q : β → Prop} (h : O1 o P) (k : ∀ a, P a → O2 I (f a) Q) : O2 I (Option.bind o f) Q := by
  obtain ⟨a, rfl, p⟩ := h
  exact k a p
theorem O2.ite {c : Bool} {x y : Option (α × S)} {P : α → Prop} (h1 : c = true → O2 I x P) (h2 : c = false → O2 I y P) : O2 I (if c = true then x else y) P := by
  cases c with
  | true => exact h1 rfl
  | false => exact h2 rfl
theorem O1.ite {c : Bool} {x y : Option α} {P : α → Prop} (h1 : c = true → O1 x P) (h2 : c = false → O1 y P) : O1 (if c = true then x else y) P := by
  cases c with
  | true => exact h1 rfl
  | false => exact h2 rfl
end
section
variable {α β : Type} {S : Type} {I : S → Prop}
theorem O2.bind {o : Option (α × S)} {f : α → S → Option (β × S)} {P : α → Prop} {Q : β → Prop} (h : O2 I o P) (k : ∀ a b, I b → P a → O2 I (f a b) Q) : O2 I (bind2 o f) Q := by
  obtain ⟨a, b, rfl, i, p⟩ := h
  exact k a b i p
end
section
variable {α β γ δ R T S : Type} {I : S → Prop} {Q : T → Prop} {g : R → Option (T × S)}
theorem O2.bL0 {o : Option (Lp Unit R)} {f : Option (T × S)} (e : o = some (.go ())) (k : O2 I f Q) : O2 I (bindL0 o f g) Q := by subst e; exact k
theorem O2.bL1 {o : Option (Lp α R)} {f : α → Option (T × S)} {a : α} (e : o = some (.go a)) (k : O2 I (f a) Q) : O2 I (bindL1 o f g) Q := by subst e; exact k
theorem O2.bL2 {o : Option (Lp (α × β) R)} {f : α → β → Option (T × S)} {a : α} {b : β} (e : o = some (.go (a, b))) (k : O2 I (f a b) Q) : O2 I (bindL2 o f g) Q := by subst e; exact k
theorem O2.bL3 {o : Option (Lp (α × β × γ) R)} {f : α → β → γ → Option (T × S)} {a : α} {b : β} {c : γ} (e : o = some (.go (a, b, c))) (k : O2 I (f a b c) Q) : O2 I (bindL3 o f g) Q := by subst e; exact k
end
theorem O2.true_ {S : Type} {I : S → Prop} {o : Option (Bool × S)} (h : O2 I o (fun r => r = true)) : ∃ b, o = some (true, b) := by
  obtain ⟨r, b, e, _, rfl⟩ := h
  exact ⟨b, e⟩
/-! ### lists and texts -/
theorem atI_O {α : Type} {xs : List α} {i : Int} {P : α → Prop} (h0 : 0 ≤ i) (h1 : i < xs.length) (h : ∀ x ∈ xs, P x) : O1 (atI xs i) P := by
  obtain ⟨n, rfl⟩ := Int.eq_ofNat_of_zero_le h0
  have hn : n < xs.length := by omega
  have e : xs[n]? = some xs[n] := List.getElem?_eq_getElem hn
  exact ⟨_, atI_nat e, h _ (List.getElem_mem hn)⟩
theorem tl_inj {x y : Str} (h : tl x = tl y) : x = y := by
  obtain ⟨⟨l⟩⟩ := x
  obtain ⟨⟨m⟩⟩ := y
  have h' : l = m := h
  rw [h']
theorem eqS_tl {x y : Str} : eqS x y = decide (tl x = tl y) := by
  rw [eqS_iff]
  exact decide_eq_decide.mpr ⟨fun h => by rw [h], tl_inj⟩
theorem tl_cut {z : Str} {lo hi : Option Int} : tl (cutS z lo hi) = ((tl z).drop (HT.sIx (tl z).length 0 lo)).take (HT.sIx (tl z).length (tl z).length hi - HT.sIx (tl z).length 0 lo) := by
  rw [← len_tl]
  unfold cutS tl
  rfl
theorem sIx_neg (n d : Nat) {k : Nat} (hk : 0 < k) : HT.sIx n d (some (-(k : Int))) = n - k := by
  show (if (-(k : Int)) < 0 then (-(k : Int) + (n : Int)).toNat else min (-(k : Int)).toNat n) = n - k
  rw [if_pos (by omega)]
  omega
theorem sIx_neg1 (n d : Nat) : HT.sIx n d (some (-1)) = n - 1 := sIx_neg n d (k := 1) (by decide)
theorem sIx_n (n d : Nat) : HT.sIx n d none = d := rfl
theorem tl_sgn (c : Nat) : tl (sgn c) = [c] := rfl
theorem catS_O {a b : Str} {P : Str → Prop} (h : (tl a).length + (tl b).length ≤ 16777216) (p : P (a ++ b)) : O1 (catS a b) P := by
  refine ⟨a ++ b, ?_, p⟩
  unfold catS
  rw [if_pos (by rw [len_tl, len_tl, sizeLine_eq]; exact h)]
theorem mulS_O {x : Str} {n : Int} {P : Str → Prop} (h1 : -(2 ^ 63 : Int) ≤ n) (h2 : n ≤ 16777216) (h3 : (tl x).length * n.toNat ≤ 16777216) (p : P (Txt.mul x n)) : O1 (mulS x n) P := by
  refine ⟨_, ?_, p⟩
  unfold mulS
  rw [if_pos ⟨h1, h2, by rw [len_tl]; exact h3⟩]
theorem codeAt_O {x : Str} {i : Int} {P : Nat → Prop} (h0 : 0 ≤ i) (h1 : i < (tl x).length) (h : ∀ c ∈ tl x, P c) : O1 (codeAt x i) P := atI_O h0 h1 h
theorem rangeO1_O {n : Int} {P : List Int → Prop} (h : n ≤ 16777216) (h0 : -(2 ^ 62) ≤ n) (p : P (rangeL 0 n.toNat)) : O1 (rangeO1 n) P := by
  refine ⟨_, ?_, p⟩
  unfold rangeO1
  rw [if_pos ⟨⟨h0, by omega⟩, by rw [sizeLine_eq]; omega⟩]
theorem joinS_O {sep : Str} {ys : List Str} {P : Str → Prop} (h : (ys.map fun y => (tl y).length).sum + ys.length * (tl sep).length ≤ 16777216) (p : P (Txt.join sep ys)) : O1 (joinS sep ys) P := by
  refine ⟨_, ?_, p⟩
  unfold joinS
  rw [if_pos]
  have e : (ys.map fun y => y.length) = ys.map fun y => (tl y).length := List.map_congr_left fun y _ => len_tl y
  show (ys.map fun y => y.length).sum + ys.length * sep.length ≤ _
  rw [e, len_tl]
  exact h
theorem tl_empty : tl ("" : Str) = [] := by decide +kernel
theorem joinL_nil : ∀ (ys : List (List Nat)), joinL [] ys = ys.flatten
  | [] => rfl
  | [y] => by show y = [y].flatten; simp
  | y :: z :: r => by
    show y ++ ([] ++ joinL [] (z :: r)) = _
    rw [joinL_nil (z :: r)]
    simp
theorem tl_join0 (ys : List Str) : tl (Txt.join ("" : Str) ys) = (ys.map tl).flatten := by rw [tl_joinS, tl_empty, joinL_nil]
/-- a text of no more than n signs -/
def Sh (n : Nat) (x : Str) : Prop := (tl x).length ≤ n
theorem Sh.mono {n m : Nat} {x : Str} (h : Sh n x) (k : n ≤ m) : Sh m x := Nat.le_trans h k
theorem Sh.cut {n : Nat} {x : Str} {lo hi : Option Int} (h : Sh n x) : Sh n (cutS x lo hi) := by
  unfold Sh at *
  rw [tl_cut, List.length_take, List.length_drop]
  omega
theorem Sh.sgn {c : Nat} : Sh 1 (sgn c) := Nat.le_refl 1
theorem Sh.rev {n : Nat} {x : Str} (h : Sh n x) : Sh n (revS x) := by
  unfold Sh at *
  rw [tl_revS, List.length_reverse]
  exact h
theorem Sh.cat {n m : Nat} {a b : Str} (ha : Sh n a) (hb : Sh m b) : Sh (n + m) (a ++ b) := by
  unfold Sh at *
  rw [tl_append, List.length_append]
  omega
theorem Sh.cat_O {n m : Nat} {a b : Str} (ha : Sh n a) (hb : Sh m b) (h : n + m ≤ 16777216 := by decide) : O1 (catS a b) (Sh (n + m)) :=
  catS_O (Nat.le_trans (Nat.add_le_add ha hb) h) (ha.cat hb)
theorem tl_mul_len (x : Str) (n : Int) : (tl (Txt.mul x n)).length = n.toNat * (tl x).length := by
  rw [tl_mul, List.length_flatten, List.map_replicate, List.sum_replicate_nat]
theorem Sh.mul_O {n m : Nat} {x : Str} {i : Int} (hx : Sh n x) (h0 : -1000000 ≤ i) (h1 : i ≤ (m : Nat)) (h2 : m * n ≤ 16777216) (h3 : m ≤ 16777216) : O1 (mulS x i) (Sh (m * n)) := by
  have h4 : i.toNat ≤ m := by omega
  have h5 : i.toNat * (tl x).length ≤ m * n := Nat.mul_le_mul h4 hx
  refine mulS_O (by omega) (by omega) (by rw [Nat.mul_comm]; omega) ?_
  unfold Sh
  rw [tl_mul_len]
  exact h5
theorem sh_sum {n : Nat} : ∀ {ys : List Str}, (∀ y ∈ ys, Sh n y) → (ys.map fun y => (tl y).length).sum ≤ ys.length * n
  | [], _ => by simp
  | y :: ys, h => by
    have h1 := sh_sum (n := n) (ys := ys) fun z hz => h z (List.mem_cons_of_mem _ hz)
    have h2 : (tl y).length ≤ n := h y (List.mem_cons_self ..)
    rw [List.map_cons, List.sum_cons, List.length_cons, Nat.add_mul, Nat.one_mul]
    omega
theorem Sh.join_O {n m : Nat} {ys : List Str} (h : ∀ y ∈ ys, Sh n y) (hm : ys.length ≤ m) (h2 : m * n ≤ 16777216) : O1 (joinS ("" : Str) ys) (Sh (m * n)) := by
  have h1 := sh_sum h
  have h3 : ys.length * n ≤ m * n := Nat.mul_le_mul_right n hm
  have e : (tl ("" : Str)).length = 0 := by rw [tl_empty]; rfl
  refine joinS_O (by rw [e]; omega) ?_
  unfold Sh
  rw [tl_join0, List.length_flatten, List.map_map]
  exact Nat.le_trans h1 h3
theorem rangeL_length {lo : Int} {n : Nat} : (rangeL lo n).length = n := rangeL_len lo n
/-! ### == of data -/
class EqvD (α : Type) [Enc α] : Prop where
  iff : ∀ x y : α, PyData.eqv (Enc.d x) (Enc.d y) = true ↔ x = y
instance : EqvD Int := ⟨fun x y => by show (x == y) = true ↔ _; exact beq_iff_eq⟩
instance : EqvD Bool := ⟨fun x y => by show (x == y) = true ↔ _; exact beq_iff_eq⟩
instance : EqvD Str := ⟨fun x y => by show (x == y) = true ↔ _; exact beq_iff_eq⟩
instance {α : Type} [Enc α] [EqvD α] [NN α] : EqvD (Option α) := ⟨fun x y => by
  cases x with
  | none =>
    cases y with
    | none => exact ⟨fun _ => rfl, fun _ => rfl⟩
    | some y =>
      have n := NN.ne y
      refine ⟨fun h => ?_, (fun h => nomatch h)⟩
      have h' : PyData.eqv .none (Enc.d y) = true := h
      revert h' n
      generalize Enc.d y = d
      intro n h'
      cases d <;> first | exact absurd rfl n | cases h'
  | some x =>
    cases y with
    | none =>
      have n := NN.ne x
      refine ⟨fun h => ?_, (fun h => nomatch h)⟩
      have h' : PyData.eqv (Enc.d x) .none = true := h
      revert h' n
      generalize Enc.d x = d
      intro n h'
      cases d <;> first | exact absurd rfl n | cases h'
    | some y => exact ⟨fun h => congrArg some ((EqvD.iff x y).mp h), fun h => (EqvD.iff x y).mpr (Option.some.inj h)⟩⟩
theorem eqvAll_iff {α : Type} [Enc α] [EqvD α] : ∀ xs ys : List α, PyData.eqvAll (xs.map Enc.d) (ys.map Enc.d) = true ↔ xs = ys
  | [], [] => ⟨fun _ => rfl, fun _ => rfl⟩
  | [], _ :: _ => ⟨(fun h => nomatch h), (fun h => nomatch h)⟩
  | _ :: _, [] => ⟨(fun h => nomatch h), (fun h => nomatch h)⟩
  | x :: xs, y :: ys => by
    show (PyData.eqv (Enc.d x) (Enc.d y) && PyData.eqvAll (xs.map Enc.d) (ys.map Enc.d)) = true ↔ _
    rw [Bool.and_eq_true, EqvD.iff, eqvAll_iff xs ys, List.cons.injEq]
instance {α : Type} [Enc α] [EqvD α] : EqvD (List α) := ⟨fun x y => eqvAll_iff x y⟩
instance {α : Type} [Enc α] [EqvD α] : EqvD (VT α) := ⟨fun x y => by
  obtain ⟨x⟩ := x
  obtain ⟨y⟩ := y
  rw [VT.mk.injEq]
  exact eqvAll_iff x y⟩
instance {α β : Type} [Enc α] [Enc β] [EqvD α] [EqvD β] : EqvD (α × β) := ⟨fun x y => by
  obtain ⟨a, b⟩ := x
  obtain ⟨c, d⟩ := y
  show (PyData.eqv (Enc.d a) (Enc.d c) && (PyData.eqv (Enc.d b) (Enc.d d) && true)) = true ↔ _
  rw [Bool.and_true, Bool.and_eq_true, EqvD.iff, EqvD.iff, Prod.mk.injEq]⟩
instance {α β γ : Type} [Enc α] [Enc β] [Enc γ] [EqvD α] [EqvD β] [EqvD γ] : EqvD (T3 α β γ) := ⟨fun x y => by
  obtain ⟨a, b, e⟩ := x
  obtain ⟨c, d, f⟩ := y
  show (PyData.eqv (Enc.d a) (Enc.d c) && (PyData.eqv (Enc.d b) (Enc.d d) && (PyData.eqv (Enc.d e) (Enc.d f) && true))) = true ↔ _
  rw [Bool.and_true, Bool.and_eq_true, Bool.and_eq_true, EqvD.iff, EqvD.iff, EqvD.iff, T3.mk.injEq]⟩
instance {α β γ δ : Type} [Enc α] [Enc β] [Enc γ] [Enc δ] [EqvD α] [EqvD β] [EqvD γ] [EqvD δ] : EqvD (T4 α β γ δ) := ⟨fun x y => by
  obtain ⟨a, b, e, g⟩ := x
  obtain ⟨c, d, f, h⟩ := y
  show (PyData.eqv (Enc.d a) (Enc.d c) && (PyData.eqv (Enc.d b) (Enc.d d) && (PyData.eqv (Enc.d e) (Enc.d f) && (PyData.eqv (Enc.d g) (Enc.d h) && true)))) = true ↔ _
  rw [Bool.and_true, Bool.and_eq_true, Bool.and_eq_true, Bool.and_eq_true, EqvD.iff, EqvD.iff, EqvD.iff, EqvD.iff, T4.mk.injEq]⟩
theorem eqD_iff {α : Type} [Enc α] [EqvD α] {x y : α} : eqD x y = true ↔ x = y := EqvD.iff x y
theorem eqD_dec {α : Type} [Enc α] [EqvD α] [DecidableEq α] {x y : α} : eqD x y = decide (x = y) := by
  rw [Bool.eq_iff_iff, eqD_iff, decide_eq_true_iff]
theorem eqD_refl {α : Type} [Enc α] [EqvD α] (x : α) : eqD x x = true := eqD_iff.mpr rfl
theorem eqD_false {α : Type} [Enc α] [EqvD α] {x y : α} (h : x ≠ y) : eqD x y = false := Bool.eq_false_iff.mpr fun e => h (eqD_iff.mp e)
theorem alike_self {α : Type} [DecidableEq α] (x : α) : m_l_alike x x = some true := by
  unfold m_l_alike
  rw [if_pos rfl]
theorem bind2_some {α β γ : Type} {a : α} {b : β} {f : α → β → Option γ} : bind2 (some (a, b)) f = f a b := rfl
theorem notT {α : Type} {a b : α} : (if (!true) = true then a else b) = b := rfl
theorem alike_O {α : Type} [DecidableEq α] {x y : α} {P : Bool → Prop} (h : x = y) (p : P true) : O1 (m_l_alike x y) P := by
  refine ⟨true, ?_, p⟩
  unfold m_l_alike
  rw [if_pos h]
end G
/-! Plain laws: patterns, their worth, addresses written. -/
namespace G
open PySem PySem.Spec PyProof.Rows L2 TL
/-- a sign of '01' -/
def isB (c : Nat) : Bool := decide (c ∈ [48, 49])
theorem isB_iff {c : Nat} : isB c = true ↔ c = 48 ∨ c = 49 := by unfold isB; simp
theorem tl01 : tl ("01" : Str) = [48, 49] := by decide +kernel
theorem tlStar : tl ("*" : Str) = [42] := by decide +kernel
theorem tl0 : tl ("0" : Str) = [48] := by decide +kernel
theorem tl1 : tl ("1" : Str) = [49] := by decide +kernel
def Bits (bs : List Nat) : Prop := ∀ c ∈ bs, isB c = true
theorem Bits.nil : Bits [] := fun _ h => nomatch h
theorem Bits.app {a b : List Nat} (ha : Bits a) (hb : Bits b) : Bits (a ++ b) := fun c h => (List.mem_append.mp h).elim (ha c) (hb c)
theorem Bits.take {a : List Nat} (n : Nat) (ha : Bits a) : Bits (a.take n) := fun c h => ha c (List.mem_of_mem_take h)
theorem Bits.drop {a : List Nat} (n : Nat) (ha : Bits a) : Bits (a.drop n) := fun c h => ha c (List.mem_of_mem_drop h)
theorem Bits.one {c : Nat} (h : isB c = true) : Bits [c] := fun d hd => by rw [List.mem_singleton.mp hd]; exact h
theorem Bits.mem01 {c : Nat} (h : c ∈ tl ("01" : Str)) : isB c = true := by rw [tl01] at h; exact decide_eq_true h
theorem Bits.no42 {a : List Nat} (ha : Bits a) : 42 ∉ a := fun h => absurd (ha 42 h) (by decide)
/-- the pattern of w signs that bits bs make -/
def patL (w : Nat) (bs : List Nat) : List Nat := bs ++ (if bs.length < w then [42] else [])
structure Pat (w : Nat) (bs : List Nat) (x : Str) : Prop where
  bits : Bits bs
  le : bs.length ≤ w
  eq : tl x = patL w bs
theorem tl_strip (x y : Str) : tl (Txt.stripChars x y) = ((tl x).take (stripHi y.cps.contains true x (stripLo y.cps.contains true x))).drop (stripLo y.cps.contains true x) := by
  unfold Txt.stripChars
  rw [stripBy_eq]
  show (x.cps.extract _ _).toList = _
  rw [List.drop_take]
  simp [tl]
theorem tw0 {p : Nat → Bool} : ∀ l : List Nat, (∀ c, l.head? = some c → p c = false) → l.takeWhile p = []
  | [], _ => rfl
  | c :: r, h => by rw [List.takeWhile_cons, if_neg (by rw [h c rfl]; exact Bool.false_ne_true)]
theorem strip_star {x : Str} {bs st : List Nat} (e : tl x = bs ++ st) (h : 42 ∉ bs) (hs : st = [] ∨ st = [42]) : tl (Txt.stripChars x ("*" : Str)) = bs := by
  have hc : ∀ c : Nat, (("*" : Str)).cps.contains c = decide (c = 42) := fun c => by
    have e1 : (("*" : Str)).cps = #[42] := by decide +kernel
    rw [e1]
    simp [Bool.beq_eq_decide_eq]
  rw [tl_strip]
  generalize hg : (("*" : Str)).cps.contains = g at *
  have hx : x.cps.toList = bs ++ st := e
  have hlen : x.length = bs.length + st.length := by rw [len_tl, e, List.length_append]
  cases bs with
  | nil =>
    rcases hs with rfl | rfl
    · rw [e]; simp
    · have h1 : stripLo g true x = 1 := by
        unfold stripLo
        rw [if_pos rfl, hx]
        show (List.takeWhile g [42]).length = 1
        rw [List.takeWhile_cons, if_pos (by rw [hc]; decide)]
        rfl
      rw [h1, e]
      rw [List.drop_eq_nil_iff, List.length_take]
      exact Nat.min_le_right _ _
  | cons c r =>
    have hc42 : g c = false := by rw [hc]; exact decide_eq_false fun z => h (by rw [z]; exact List.mem_cons_self ..)
    have h1 : stripLo g true x = 0 := by
      unfold stripLo
      rw [if_pos rfl, hx]
      show (List.takeWhile g (c :: (r ++ st))).length = 0
      rw [List.takeWhile_cons, if_neg (by rw [hc42]; decide)]
      rfl
    have hlast : ∀ l : List Nat, 42 ∉ l → l.reverse.takeWhile g = [] := fun l hl => tw0 _ fun d hd => by
      rw [hc]
      refine decide_eq_false fun z => hl ?_
      rw [← z]
      exact List.mem_reverse.mp (List.mem_of_mem_head? hd)
    have h2 : stripHi g true x 0 = (c :: r).length := by
      unfold stripHi
      rw [if_pos rfl, hx, List.drop_zero, hlen]
      rcases hs with rfl | rfl
      · rw [List.append_nil, hlast _ h]
        simp
      · rw [List.reverse_append]
        show _ - (List.takeWhile g (42 :: (c :: r).reverse)).length = _
        rw [List.takeWhile_cons, if_pos (by rw [hc]; decide), hlast _ h]
        simp
    rw [h1, h2, e, List.drop_zero, List.take_left]
theorem part_star {x : Str} {bs st : List Nat} (e : tl x = bs ++ st) (h : 42 ∉ bs) (hs : st = [] ∨ st = [42]) : tl (partS x ("*" : Str)).a = bs := by
  have ex : x = ⟨bs.toArray⟩ ++ (⟨st.toArray⟩ : Str) := tl_inj (by rw [tl_append, e])
  have hb : 42 ∉ tl (⟨bs.toArray⟩ : Str) := by simpa [tl] using h
  rcases hs with rfl | rfl
  · have e2 : x = ⟨bs.toArray⟩ := tl_inj (by rw [e]; simp [tl])
    show tl (Txt.partition x ("*" : Str)).1 = bs
    rw [e2, TL.partition_none tlStar hb]
  · have e2 : x = (⟨bs.toArray⟩ : Str) ++ ("*" : Str) ++ Str.empty := tl_inj (by rw [tl_append, tl_append, tlStar, e]; simp [tl, Str.empty])
    show tl (Txt.partition x ("*" : Str)).1 = bs
    rw [e2, TL.partition_app tlStar hb]
theorem Pat.strip {w : Nat} {bs : List Nat} {x : Str} (p : Pat w bs x) : tl (Txt.stripChars x ("*" : Str)) = bs := by
  refine strip_star (st := if bs.length < w then [42] else []) p.eq p.bits.no42 ?_
  split
  · exact .inr rfl
  · exact .inl rfl
theorem Pat.part {w : Nat} {bs : List Nat} {x : Str} (p : Pat w bs x) : tl (partS x ("*" : Str)).a = bs := by
  refine part_star (st := if bs.length < w then [42] else []) p.eq p.bits.no42 ?_
  split
  · exact .inr rfl
  · exact .inl rfl
theorem Pat.len {w : Nat} {bs : List Nat} {x : Str} (p : Pat w bs x) : (tl x).length ≤ w := by
  rw [p.eq, patL, List.length_append]
  have := p.le
  split
  · simp; omega
  · simp; omega
/-! ### worth -/
def wr (bs : List Nat) : Nat := bs.foldl (fun n c => 2 * n + (if c = 49 then 1 else 0)) 0
theorem wr_from (bs : List Nat) : ∀ a : Nat, bs.foldl (fun n c => 2 * n + (if c = 49 then 1 else 0)) a = a * 2 ^ bs.length + wr bs := by
  induction bs with
  | nil => intro a; simp [wr]
  | cons c bs ih =>
    intro a
    have h0 := ih (2 * 0 + (if c = 49 then 1 else 0))
    show List.foldl _ (2 * a + (if c = 49 then 1 else 0)) bs = _
    rw [ih]
    have h1 : wr (c :: bs) = (2 * 0 + (if c = 49 then 1 else 0)) * 2 ^ bs.length + wr bs := h0
    rw [h1, List.length_cons, Nat.pow_succ]
    generalize (if c = 49 then 1 else 0) = d
    generalize 2 ^ bs.length = p
    rw [Nat.add_mul, Nat.mul_zero, Nat.zero_add, Nat.add_assoc, Nat.mul_comm 2 a, Nat.mul_assoc, Nat.mul_comm 2 p]
theorem wr_app (a b : List Nat) : wr (a ++ b) = wr a * 2 ^ b.length + wr b := by
  unfold wr
  rw [List.foldl_append]
  exact wr_from b _
theorem wr_cons (c : Nat) (b : List Nat) : wr (c :: b) = (if c = 49 then 1 else 0) * 2 ^ b.length + wr b := by
  have := wr_app [c] b
  rw [List.singleton_append] at this
  rw [this]
  congr 2
  simp [wr]
theorem wr_snoc (a : List Nat) (c : Nat) : wr (a ++ [c]) = 2 * wr a + (if c = 49 then 1 else 0) := by
  unfold wr
  rw [List.foldl_append]
  rfl
theorem wr_lt : ∀ bs : List Nat, wr bs < 2 ^ bs.length
  | [] => by decide
  | c :: bs => by
    have := wr_lt bs
    rw [wr_cons, List.length_cons, Nat.pow_succ]
    split <;> omega
theorem wr_zeros (k : Nat) : wr (List.replicate k 48) = 0 := by
  induction k with
  | zero => rfl
  | succ k ih => rw [List.replicate_succ, wr_cons, ih]; simp
theorem wr_ones (k : Nat) : wr (List.replicate k 49) + 1 = 2 ^ k := by
  induction k with
  | zero => rfl
  | succ k ih =>
    rw [List.replicate_succ, wr_cons, List.length_replicate, Nat.pow_succ, if_pos rfl]
    omega
theorem wr_inj : ∀ {a b : List Nat}, Bits a → Bits b → a.length = b.length → wr a = wr b → a = b
  | [], [], _, _, _, _ => rfl
  | [], _ :: _, _, _, h, _ => nomatch h
  | _ :: _, [], _, _, h, _ => nomatch h
  | c :: a, d :: b, ha, hb, h, e => by
    have hl : a.length = b.length := Nat.succ.inj h
    rw [wr_cons, wr_cons, hl] at e
    have h1 := wr_lt a
    have h2 := wr_lt b
    rw [hl] at h1
    have hc := isB_iff.mp (ha c (List.mem_cons_self ..))
    have hd := isB_iff.mp (hb d (List.mem_cons_self ..))
    have he : c = d ∧ wr a = wr b := by
      rcases hc with rfl | rfl <;> rcases hd with rfl | rfl <;> simp at e ⊢ <;> omega
    rw [he.1, wr_inj (fun x hx => ha x (List.mem_cons_of_mem _ hx)) (fun x hx => hb x (List.mem_cons_of_mem _ hx)) hl he.2]
theorem toI_sgn1 (c : Nat) : toI (eqS (sgn c) ("1" : Str)) = ((if c = 49 then 1 else 0 : Nat) : Int) := by
  rw [eqS_tl, tl_sgn, tl1]
  by_cases h : c = 49
  · subst h; rfl
  · rw [decide_eq_false (fun e => h (List.cons.inj e).1), if_neg h]; rfl
theorem log2_lt64 {a : Nat} (h : a < 2 ^ 64) : a.log2 < 64 := by
  by_cases h0 : a = 0
  · subst h0; decide
  · exact (Nat.log2_lt h0).mpr h
theorem mulI_nat {a b : Nat} (ha : a < 2 ^ 64) (hb : b < 2 ^ 64) : mulI (a : Int) (b : Int) = some ((a * b : Nat) : Int) := by
  unfold mulI
  have h1 := log2_lt64 ha
  have h2 := log2_lt64 hb
  rw [if_pos (by rw [Int.natAbs_natCast, Int.natAbs_natCast]; omega)]
  rfl
theorem shlI_one {k : Nat} (h : k ≤ 1000000) : shlI 1 (k : Int) = some ((2 ^ k : Nat) : Int) := by
  unfold shlI
  rw [if_pos ⟨by omega, by omega, by decide⟩, Int.one_mul, Int.toNat_natCast]
  simp
theorem shrI_nat {n k : Nat} : shrI (n : Int) (k : Int) = some ((n / 2 ^ k : Nat) : Int) := by
  unfold shrI
  rw [if_pos (by omega), Int.toNat_natCast]
  simp
theorem and_one (n : Nat) : Builtin.bitAnd (n : Int) 1 = ((n % 2 : Nat) : Int) := by
  have := Bits.bitAnd_mask (x := (n : Int)) 1 (by omega)
  rw [show ((2 : Int) ^ 1 - 1) = 1 by decide] at this
  rw [this]
  simp
theorem pow_lt64 {k : Nat} (h : k < 64) : 2 ^ k < 2 ^ 64 := Nat.pow_lt_pow_right (by decide) h
/-! ### an address written with w signs -/
def bin : Nat → Nat → List Nat
  | 0, _ => []
  | w + 1, n => bin w (n / 2) ++ [48 + n % 2]
theorem bin_len : ∀ w n : Nat, (bin w n).length = w
  | 0, _ => rfl
  | w + 1, n => by rw [bin, List.length_append, bin_len w]; rfl
theorem bin_bits : ∀ w n : Nat, Bits (bin w n)
  | 0, _ => Bits.nil
  | w + 1, n => (bin_bits w _).app (Bits.one (isB_iff.mpr (by have := Nat.mod_two_eq_zero_or_one n; omega)))
theorem wr_bin : ∀ w n : Nat, wr (bin w n) = n % 2 ^ w
  | 0, n => by rw [Nat.pow_zero, Nat.mod_one]; rfl
  | w + 1, n => by
    rw [bin, wr_snoc, wr_bin w, Nat.pow_succ, Nat.mul_comm (2 ^ w) 2, Nat.mod_mul]
    have : (if 48 + n % 2 = 49 then 1 else 0) = n % 2 := by
      have := Nat.mod_two_eq_zero_or_one n
      split <;> omega
    rw [this]
    omega
theorem bin_take : ∀ (k j n : Nat), (bin (k + j) n).take k = bin k (n / 2 ^ j)
  | k, 0, n => by
    rw [Nat.add_zero, Nat.pow_zero, Nat.div_one]
    exact List.take_of_length_le (by rw [bin_len]; exact Nat.le_refl _)
  | k, j + 1, n => by
    show (bin (k + j) (n / 2) ++ [48 + n % 2]).take k = _
    rw [List.take_append_of_le_length (by rw [bin_len]; omega), bin_take k j, Nat.div_div_eq_div_mul, Nat.pow_succ, Nat.mul_comm 2]
theorem bin_top : ∀ k n : Nat, bin (k + 1) n = (48 + n / 2 ^ k % 2) :: bin k n
  | 0, n => by rw [Nat.pow_zero, Nat.div_one]; rfl
  | k + 1, n => by
    rw [bin, bin_top k (n / 2), Nat.div_div_eq_div_mul, Nat.mul_comm 2, ← Nat.pow_succ]
    rfl
theorem code01 {d : Nat} (h : d < 2) : codeAt ("01" : Str) (d : Nat) = some (48 + d) := by
  have : d = 0 ∨ d = 1 := by omega
  rcases this with rfl | rfl
  · exact atI_nat (by rw [tl01]; rfl)
  · exact atI_nat (by rw [tl01]; rfl)
end G
namespace G
open PySem PySem.Spec PyProof.Rows L2 TL
/-! ### addresses that spans have within a block -/
def cn1 (s : Int × Int) (a e : Int) : Int := max 0 (min e s.2 - max a s.1)
def ct (S : List (Int × Int)) (a e : Int) : Int := (S.map fun s => cn1 s a e).sum
theorem ct_nil (a e : Int) : ct [] a e = 0 := rfl
theorem ct_cons (s : Int × Int) (S : List (Int × Int)) (a e : Int) : ct (s :: S) a e = cn1 s a e + ct S a e := by unfold ct; rw [List.map_cons, List.sum_cons]
theorem ct_app (S T : List (Int × Int)) (a e : Int) : ct (S ++ T) a e = ct S a e + ct T a e := by
  induction S with
  | nil => rw [List.nil_append, ct_nil]; omega
  | cons s S ih => rw [List.cons_append, ct_cons, ct_cons, ih]; omega
theorem cn1_nn (s : Int × Int) (a e : Int) : 0 ≤ cn1 s a e := by unfold cn1; omega
theorem ct_nn (S : List (Int × Int)) (a e : Int) : 0 ≤ ct S a e := by
  induction S with
  | nil => exact Int.le_refl _
  | cons s S ih => rw [ct_cons]; have := cn1_nn s a e; omega
theorem cn1_cut {s : Int × Int} {a m e : Int} (h1 : a ≤ m) (h2 : m ≤ e) : cn1 s a e = cn1 s a m + cn1 s m e ∨ s.2 ≤ s.1 := by
  unfold cn1
  omega
/-- rising spans, that may touch -/
def Rise (S : List (Int × Int)) : Prop := (∀ s ∈ S, s.1 < s.2) ∧ S.Pairwise fun s t => s.2 ≤ t.1
/-- rising spans with gaps -/
def Gaps (S : List (Int × Int)) : Prop := (∀ s ∈ S, s.1 < s.2) ∧ S.Pairwise fun s t => s.2 < t.1
theorem Gaps.rise {S : List (Int × Int)} (h : Gaps S) : Rise S := ⟨h.1, h.2.imp fun h => Int.le_of_lt h⟩
theorem Rise.tail {s : Int × Int} {S : List (Int × Int)} (h : Rise (s :: S)) : Rise S := ⟨fun t ht => h.1 t (List.mem_cons_of_mem _ ht), (List.pairwise_cons.mp h.2).2⟩
theorem Gaps.tail {s : Int × Int} {S : List (Int × Int)} (h : Gaps (s :: S)) : Gaps S := ⟨fun t ht => h.1 t (List.mem_cons_of_mem _ ht), (List.pairwise_cons.mp h.2).2⟩
theorem ct_cut {S : List (Int × Int)} (h : Rise S) {a m e : Int} (h1 : a ≤ m) (h2 : m ≤ e) : ct S a e = ct S a m + ct S m e := by
  induction S with
  | nil => rfl
  | cons s S ih =>
    rw [ct_cons, ct_cons, ct_cons, ih h.tail]
    have := h.1 s (List.mem_cons_self ..)
    rcases cn1_cut (s := s) h1 h2 with e | e <;> omega
/-- what stands behind k alone has at most what is behind k -/
theorem ct_from {S : List (Int × Int)} (h : Rise S) {k a e : Int} (hk : ∀ s ∈ S, k ≤ s.1) : ct S a e ≤ max 0 (e - max a k) := by
  induction S generalizing k with
  | nil => rw [ct_nil]; omega
  | cons s S ih =>
    rw [ct_cons]
    have h1 := h.1 s (List.mem_cons_self ..)
    have h2 := hk s (List.mem_cons_self ..)
    have h3 := ih h.tail (k := s.2) fun t ht => (List.pairwise_cons.mp h.2).1 t ht
    unfold cn1
    omega
theorem ct_le {S : List (Int × Int)} (h : Rise S) {a e : Int} (hae : a ≤ e) : ct S a e ≤ e - a := by
  cases S with
  | nil => rw [ct_nil]; omega
  | cons s S =>
    have h3 := ct_from h.tail (k := s.2) (a := a) (e := e) fun t ht => (List.pairwise_cons.mp h.2).1 t ht
    have h1 := h.1 s (List.mem_cons_self ..)
    rw [ct_cons]
    unfold cn1
    omega
/-- a block that is had whole is had by one, where there are gaps -/
theorem ct_full {S : List (Int × Int)} (h : Gaps S) {a e : Int} (hae : a < e) (hc : ct S a e = e - a) : ∃ A s B, S = A ++ s :: B ∧ s.1 ≤ a ∧ e ≤ s.2 ∧ (∀ t ∈ A, cn1 t a e = 0) ∧ (∀ t ∈ B, cn1 t a e = 0) := by
  induction S with
  | nil => rw [ct_nil] at hc; omega
  | cons s S ih =>
    rw [ct_cons] at hc
    have h1 := h.1 s (List.mem_cons_self ..)
    have hp := (List.pairwise_cons.mp h.2).1
    by_cases hz : cn1 s a e = 0
    · obtain ⟨A, t, B, rfl, k1, k2, k3, k4⟩ := ih h.tail (by omega)
      refine ⟨s :: A, t, B, rfl, k1, k2, fun u hu => ?_, k4⟩
      rcases List.mem_cons.mp hu with rfl | hu
      · exact hz
      · exact k3 u hu
    · have h3 := ct_from h.tail.rise (k := s.2 + 1) (a := a) (e := e) fun t ht => hp t ht
      have hb : s.1 ≤ a ∧ e ≤ s.2 := by unfold cn1 at hz hc; omega
      refine ⟨[], s, S, rfl, hb.1, hb.2, (fun t ht => absurd ht (List.not_mem_nil)), fun t ht => ?_⟩
      have := hp t ht
      unfold cn1
      omega
def ends1 (s : Int × Int) (a e : Int) : Nat := (if a < s.1 ∧ s.1 < e then 1 else 0) + (if a < s.2 ∧ s.2 < e then 1 else 0)
def ends (S : List (Int × Int)) (a e : Int) : Nat := (S.map fun s => ends1 s a e).sum
theorem ends_cons (s : Int × Int) (S : List (Int × Int)) (a e : Int) : ends (s :: S) a e = ends1 s a e + ends S a e := by unfold ends; rw [List.map_cons, List.sum_cons]
theorem ends_le (S : List (Int × Int)) (a e : Int) : ends S a e ≤ 2 * S.length := by
  induction S with
  | nil => exact Nat.le_refl _
  | cons s S ih =>
    rw [ends_cons, List.length_cons]
    have : ends1 s a e ≤ 2 := by unfold ends1; split <;> split <;> omega
    omega
theorem ends_cut (S : List (Int × Int)) {a m e : Int} (h1 : a ≤ m) (h2 : m ≤ e) : ends S a m + ends S m e ≤ ends S a e := by
  induction S with
  | nil => exact Nat.le_refl _
  | cons s S ih =>
    rw [ends_cons, ends_cons, ends_cons]
    have : ends1 s a m + ends1 s m e ≤ ends1 s a e := by
      unfold ends1
      repeat' split
      all_goals omega
    omega
theorem ends_zero {S : List (Int × Int)} (h : Rise S) {a e : Int} (hae : a < e) (hz : ends S a e = 0) : ct S a e = 0 ∨ ct S a e = e - a := by
  induction S with
  | nil => exact .inl rfl
  | cons s S ih =>
    rw [ends_cons] at hz
    have hl := ct_le h (Int.le_of_lt hae)
    rw [ct_cons] at hl ⊢
    have h1 := h.1 s (List.mem_cons_self ..)
    have h0 : ends1 s a e = 0 := by omega
    have hs : cn1 s a e = 0 ∨ cn1 s a e = e - a := by
      unfold ends1 at h0
      unfold cn1
      split at h0 <;> split at h0 <;> omega
    have hn := ct_nn S a e
    rcases ih h.tail (by omega) with e1 | e1 <;> rcases hs with e2 | e2 <;> omega
/-! ### the leaves -/
abbrev H2 (j : Nat) : Int := ((2 ^ j : Nat) : Int)
theorem H2_succ (j : Nat) : H2 (j + 1) = 2 * H2 j := by show ((2 ^ (j + 1) : Nat) : Int) = 2 * ((2 ^ j : Nat) : Int); rw [Nat.pow_succ]; omega
theorem H2_pos (j : Nat) : 0 < H2 j := Int.ofNat_lt.mpr (Nat.two_pow_pos j)
theorem H2_zero : H2 0 = 1 := rfl
def can (S : List (Int × Int)) : Nat → Int → List Nat → List (List Nat)
  | 0, a, bs => if ct S a (a + H2 0) = 0 then [] else [bs]
  | j + 1, a, bs => if ct S a (a + H2 (j + 1)) = 0 then [] else if ct S a (a + H2 (j + 1)) = H2 (j + 1) then [bs ++ [42]] else can S j a (bs ++ [48]) ++ can S j (a + H2 j) (bs ++ [49])
/-- a leaf as it is written -/
def leaf (j : Nat) (bs : List Nat) : List Nat := if j = 0 then bs else bs ++ [42]
theorem can_none {S : List (Int × Int)} {j : Nat} {a : Int} {bs : List Nat} (h : ct S a (a + H2 j) = 0) : can S j a bs = [] := by
  cases j <;> (unfold can; rw [if_pos h])
theorem can_full {S : List (Int × Int)} {j : Nat} {a : Int} {bs : List Nat} (h : ct S a (a + H2 j) = H2 j) : can S j a bs = [leaf j bs] := by
  have := H2_pos j
  cases j with
  | zero => unfold can; rw [if_neg (by omega)]; rfl
  | succ j => unfold can; rw [if_neg (by omega), if_pos h]; rfl
theorem can_part {S : List (Int × Int)} {j : Nat} {a : Int} {bs : List Nat} (h1 : ct S a (a + H2 (j + 1)) ≠ 0) (h2 : ct S a (a + H2 (j + 1)) ≠ H2 (j + 1)) : can S (j + 1) a bs = can S j a (bs ++ [48]) ++ can S j (a + H2 j) (bs ++ [49]) := by
  conv => lhs; unfold can
  rw [if_neg h1, if_neg h2]
theorem can_len {S : List (Int × Int)} (h : Rise S) : ∀ (j : Nat) (a : Int) (bs : List Nat), (can S j a bs).length ≤ 1 + j * ends S a (a + H2 j)
  | 0, a, bs => by
    unfold can
    split
    · exact Nat.zero_le _
    · exact Nat.le_add_right _ _
  | j + 1, a, bs => by
    have hp := H2_pos (j + 1)
    have hj := H2_pos j
    have hs := H2_succ j
    by_cases h0 : ct S a (a + H2 (j + 1)) = 0
    · rw [can_none h0]; exact Nat.zero_le _
    · by_cases h1 : ct S a (a + H2 (j + 1)) = H2 (j + 1)
      · rw [can_full h1]; exact Nat.le_add_right _ _
      · rw [can_part h0 h1, List.length_append]
        have l := can_len h j a (bs ++ [48])
        have r := can_len h j (a + H2 j) (bs ++ [49])
        have he : a + H2 j + H2 j = a + H2 (j + 1) := by omega
        rw [he] at r
        have hc := ends_cut S (a := a) (m := a + H2 j) (e := a + H2 (j + 1)) (by omega) (by omega)
        have hz : ends S a (a + H2 (j + 1)) ≠ 0 := fun e => by
          rcases ends_zero h (by omega) e with e | e <;> omega
        generalize ends S a (a + H2 (j + 1)) = x at *
        generalize ends S a (a + H2 j) = y at *
        generalize ends S (a + H2 j) (a + H2 (j + 1)) = z at *
        have : j * y + j * z ≤ j * x := by rw [← Nat.mul_add]; exact Nat.mul_le_mul_left _ hc
        have : (j + 1) * x = j * x + x := Nat.succ_mul j x
        omega
theorem can_congr {S T : List (Int × Int)} : ∀ (j : Nat) (a : Int) (bs : List Nat), (∀ f b, a ≤ f → b ≤ a + H2 j → ct S f b = ct T f b) → can S j a bs = can T j a bs
  | 0, a, bs, h => by
    unfold can
    rw [h a (a + H2 0) (Int.le_refl _) (Int.le_refl _)]
  | j + 1, a, bs, h => by
    have hj := H2_pos j
    have hs := H2_succ j
    unfold can
    rw [h a _ (Int.le_refl _) (Int.le_refl _), can_congr j a _ fun f b h1 h2 => h f b h1 (by omega), can_congr j (a + H2 j) _ fun f b h1 h2 => h f b (by omega) (by omega)]
theorem flat_nil {α β : Type} {f : α → List β} : ∀ {l : List α}, (∀ x ∈ l, f x = []) → l.flatMap f = []
  | [], _ => rfl
  | x :: l, h => by rw [List.flatMap_cons, h x (List.mem_cons_self ..), flat_nil fun y hy => h y (List.mem_cons_of_mem _ hy)]; rfl
theorem ct_zero {S : List (Int × Int)} {a e : Int} : ct S a e = 0 ↔ ∀ s ∈ S, cn1 s a e = 0 := by
  induction S with
  | nil => exact ⟨fun _ t h => absurd h (List.not_mem_nil), fun _ => rfl⟩
  | cons s S ih =>
    rw [ct_cons]
    have h1 := cn1_nn s a e
    have h2 := ct_nn S a e
    constructor
    · intro h t ht
      rcases List.mem_cons.mp ht with rfl | ht
      · omega
      · exact ih.mp (by omega) t ht
    · intro h
      have h3 := h s (List.mem_cons_self ..)
      have h4 := ih.mpr fun t ht => h t (List.mem_cons_of_mem _ ht)
      omega
theorem ct_one (s : Int × Int) (a e : Int) : ct [s] a e = cn1 s a e := by rw [ct_cons, ct_nil]; omega
/-- the leaves of spans with gaps are those of each -/
theorem can_each {S : List (Int × Int)} (h : Gaps S) : ∀ (j : Nat) (a : Int) (bs : List Nat), can S j a bs = S.flatMap fun s => can [s] j a bs := fun j => by
  induction j with
  | zero =>
    intro a bs
    by_cases h0 : ct S a (a + H2 0) = 0
    · rw [can_none h0, flat_nil fun s hs => can_none (by rw [ct_one]; exact ct_zero.mp h0 s hs)]
    · have hl := ct_le h.rise (a := a) (e := a + H2 0) (by rw [H2_zero]; omega)
      have hn := ct_nn S a (a + H2 0)
      exact full h 0 a bs (by rw [H2_zero] at *; omega)
  | succ j ih =>
    intro a bs
    have hj := H2_pos j
    have hs := H2_succ j
    by_cases h0 : ct S a (a + H2 (j + 1)) = 0
    · rw [can_none h0, flat_nil fun s hs => can_none (by rw [ct_one]; exact ct_zero.mp h0 s hs)]
    · by_cases h1 : ct S a (a + H2 (j + 1)) = H2 (j + 1)
      · exact full h (j + 1) a bs h1
      · rw [can_part h0 h1, ih, ih]
        have e1 : S.flatMap (fun s => can [s] (j + 1) a bs) = S.flatMap fun s => can [s] j a (bs ++ [48]) ++ can [s] j (a + H2 j) (bs ++ [49]) := by
          have hle : ∀ T : List (Int × Int), (∀ t ∈ T, t.1 < t.2) → ct T a (a + H2 (j + 1)) < H2 (j + 1) → (T.flatMap fun s => can [s] (j + 1) a bs) = T.flatMap fun s => can [s] j a (bs ++ [48]) ++ can [s] j (a + H2 j) (bs ++ [49]) := fun T => by
            induction T with
            | nil => exact fun _ _ => rfl
            | cons t T ihT =>
              intro ht hc
              rw [ct_cons] at hc
              have n1 := cn1_nn t a (a + H2 (j + 1))
              have n2 := ct_nn T a (a + H2 (j + 1))
              rw [List.flatMap_cons, List.flatMap_cons, ihT (fun u hu => ht u (List.mem_cons_of_mem _ hu)) (by omega)]
              congr 1
              have ht1 := ht t (List.mem_cons_self ..)
              by_cases hz : ct [t] a (a + H2 (j + 1)) = 0
              · rw [can_none hz]
                have hcut := ct_cut (S := [t]) ⟨fun u hu => by rw [List.mem_singleton.mp hu]; exact ht1, List.pairwise_singleton _ _⟩ (a := a) (m := a + H2 j) (e := a + H2 (j + 1)) (by omega) (by omega)
                have m1 := ct_nn [t] a (a + H2 j)
                have m2 := ct_nn [t] (a + H2 j) (a + H2 (j + 1))
                have he : a + H2 j + H2 j = a + H2 (j + 1) := by omega
                rw [can_none (by omega : ct [t] a (a + H2 j) = 0), can_none (by rw [he]; omega)]
                rfl
              · exact can_part hz (by rw [ct_one]; omega)
          have hl := ct_le h.rise (a := a) (e := a + H2 (j + 1)) (by omega)
          exact hle S h.1 (by omega)
        rw [e1]
        exact (inter h (m := a + H2 j) (L := fun s => can [s] j a (bs ++ [48])) (R := fun s => can [s] j (a + H2 j) (bs ++ [49])) (fun s hs => can_none (by rw [ct_one]; unfold cn1; omega)) (fun s hs => can_none (by rw [ct_one]; unfold cn1; omega)))
where
  full {S : List (Int × Int)} (h : Gaps S) (j : Nat) (a : Int) (bs : List Nat) (h1 : ct S a (a + H2 j) = H2 j) : can S j a bs = S.flatMap fun s => can [s] j a bs := by
    have hj := H2_pos j
    obtain ⟨A, s, B, rfl, k1, k2, k3, k4⟩ := ct_full h (a := a) (e := a + H2 j) (by omega) (by omega)
    rw [can_full h1, List.flatMap_append, List.flatMap_cons, flat_nil fun t ht => can_none (by rw [ct_one]; exact k3 t ht), flat_nil fun t ht => can_none (by rw [ct_one]; exact k4 t ht), can_full (by rw [ct_one]; unfold cn1; omega)]
    rfl
  inter {S : List (Int × Int)} {m : Int} {L R : Int × Int → List (List Nat)} (h : Gaps S) (hL : ∀ s, m ≤ s.1 → L s = []) (hR : ∀ s, s.2 ≤ m → R s = []) : S.flatMap L ++ S.flatMap R = S.flatMap fun s => L s ++ R s := by
    induction S with
    | nil => rfl
    | cons s S ih =>
      rw [List.flatMap_cons, List.flatMap_cons, List.flatMap_cons, ← ih h.tail]
      by_cases hs : s.2 ≤ m
      · rw [hR s hs]; simp
      · have : S.flatMap L = [] := flat_nil fun t ht => hL t (by have := (List.pairwise_cons.mp h.2).1 t ht; omega)
        rw [this]; simp
end G
namespace G
open PySem PySem.Spec PyProof.Rows L2 TL
/-! ### the address at which a block begins -/
abbrev beg (bs : List Nat) (j : Nat) : Int := ((wr bs * 2 ^ j : Nat) : Int)
theorem beg0 (bs : List Nat) (j : Nat) : beg (bs ++ [48]) j = beg bs (j + 1) := by
  unfold beg
  rw [wr_snoc, if_neg (by decide), Nat.pow_succ, Nat.add_zero, Nat.mul_comm 2, Nat.mul_assoc, Nat.mul_comm 2]
theorem beg1 (bs : List Nat) (j : Nat) : beg (bs ++ [49]) j = beg bs (j + 1) + H2 j := by
  unfold beg
  rw [wr_snoc, if_pos rfl, Nat.pow_succ, Nat.add_mul, Nat.one_mul, Nat.mul_comm 2, Nat.mul_assoc, Nat.mul_comm 2, Int.natCast_add]
theorem beg_nil (j : Nat) : beg [] j = 0 := by unfold beg; rw [show wr [] = 0 from rfl, Nat.zero_mul]; rfl
/-! ### the leaves without their stars -/
def canB (S : List (Int × Int)) : Nat → Int → List Nat → List (List Nat)
  | 0, a, bs => if ct S a (a + H2 0) = 0 then [] else [bs]
  | j + 1, a, bs => if ct S a (a + H2 (j + 1)) = 0 then [] else if ct S a (a + H2 (j + 1)) = H2 (j + 1) then [bs] else canB S j a (bs ++ [48]) ++ canB S j (a + H2 j) (bs ++ [49])
theorem canB_none {S : List (Int × Int)} {j : Nat} {a : Int} {bs : List Nat} (h : ct S a (a + H2 j) = 0) : canB S j a bs = [] := by
  cases j <;> (unfold canB; rw [if_pos h])
theorem canB_full {S : List (Int × Int)} {j : Nat} {a : Int} {bs : List Nat} (h : ct S a (a + H2 j) = H2 j) : canB S j a bs = [bs] := by
  have := H2_pos j
  cases j with
  | zero => unfold canB; rw [if_neg (by omega)]
  | succ j => unfold canB; rw [if_neg (by omega), if_pos h]
theorem canB_part {S : List (Int × Int)} {j : Nat} {a : Int} {bs : List Nat} (h1 : ct S a (a + H2 (j + 1)) ≠ 0) (h2 : ct S a (a + H2 (j + 1)) ≠ H2 (j + 1)) : canB S (j + 1) a bs = canB S j a (bs ++ [48]) ++ canB S j (a + H2 j) (bs ++ [49]) := by
  conv => lhs; unfold canB
  rw [if_neg h1, if_neg h2]
/-- which of the three -/
theorem can_cases {S : List (Int × Int)} (h : Rise S) {P : Nat → Int → List Nat → Prop} (j : Nat) (a : Int) (bs : List Nat)
    (h0 : ∀ j a bs, ct S a (a + H2 j) = 0 → P j a bs) (h1 : ∀ j a bs, ct S a (a + H2 j) = H2 j → P j a bs)
    (h2 : ∀ j a bs, ct S a (a + H2 (j + 1)) ≠ 0 → ct S a (a + H2 (j + 1)) ≠ H2 (j + 1) → P j a (bs ++ [48]) → P j (a + H2 j) (bs ++ [49]) → P (j + 1) a bs) : P j a bs := by
  induction j generalizing a bs with
  | zero =>
    by_cases e : ct S a (a + H2 0) = 0
    · exact h0 _ _ _ e
    · have l := ct_le h (a := a) (e := a + H2 0) (by rw [H2_zero]; omega)
      have n := ct_nn S a (a + H2 0)
      exact h1 _ _ _ (by have := H2_zero; omega)
  | succ j ih =>
    by_cases e : ct S a (a + H2 (j + 1)) = 0
    · exact h0 _ _ _ e
    · by_cases e2 : ct S a (a + H2 (j + 1)) = H2 (j + 1)
      · exact h1 _ _ _ e2
      · exact h2 _ _ _ e e2 (ih _ _) (ih _ _)
theorem patL_leaf {w j : Nat} {bs : List Nat} (h : bs.length + j = w) : patL w bs = leaf j bs := by
  unfold patL leaf
  by_cases e : j = 0
  · rw [if_neg (by omega), if_pos e, List.append_nil]
  · rw [if_pos (by omega), if_neg e]
theorem can_canB {S : List (Int × Int)} (h : Rise S) {w : Nat} (j : Nat) (a : Int) (bs : List Nat) : bs.length + j = w → can S j a bs = (canB S j a bs).map (patL w) :=
  can_cases h (P := fun j a bs => bs.length + j = w → can S j a bs = (canB S j a bs).map (patL w)) j a bs
    (fun j a bs e _ => by rw [can_none e, canB_none e]; rfl)
    (fun j a bs e hl => by rw [can_full e, canB_full e, List.map_cons, patL_leaf hl]; rfl)
    (fun j a bs e1 e2 i1 i2 hl => by
      rw [can_part e1 e2, canB_part e1 e2, List.map_append, i1 (by rw [List.length_append]; show _ + 1 + _ = _; omega), i2 (by rw [List.length_append]; show _ + 1 + _ = _; omega)])
theorem canB_pre {S : List (Int × Int)} (h : Rise S) (j : Nat) (a : Int) (bs : List Nat) : ∀ x ∈ canB S j a bs, ∃ u, x = bs ++ u ∧ u.length ≤ j ∧ Bits u ∧ (u = [] → ct S a (a + H2 j) = H2 j) :=
  can_cases h (P := fun j a bs => ∀ x ∈ canB S j a bs, ∃ u, x = bs ++ u ∧ u.length ≤ j ∧ Bits u ∧ (u = [] → ct S a (a + H2 j) = H2 j)) j a bs
    (fun j a bs e x hx => by rw [canB_none e] at hx; exact (List.not_mem_nil hx).elim)
    (fun j a bs e x hx => by
      rw [canB_full e] at hx
      rw [List.mem_singleton.mp hx]
      exact ⟨[], (List.append_nil _).symm, Nat.zero_le _, Bits.nil, fun _ => e⟩)
    (fun j a bs e1 e2 i1 i2 x hx => by
      rw [canB_part e1 e2] at hx
      rcases List.mem_append.mp hx with hx | hx
      · obtain ⟨u, rfl, hl, hb, _⟩ := i1 x hx
        exact ⟨48 :: u, by simp, Nat.succ_le_succ hl, (Bits.one (by decide)).app hb, fun z => nomatch z⟩
      · obtain ⟨u, rfl, hl, hb, _⟩ := i2 x hx
        exact ⟨49 :: u, by simp, Nat.succ_le_succ hl, (Bits.one (by decide)).app hb, fun z => nomatch z⟩)
/-- not the two halves of one -/
def NoSib (x y : List Nat) : Prop := ¬ (x.length = y.length ∧ x.dropLast = y.dropLast)
theorem canB_sib {S : List (Int × Int)} (h : Rise S) (j : Nat) (a : Int) (bs : List Nat) : (canB S j a bs).Pairwise NoSib :=
  can_cases h (P := fun j a bs => (canB S j a bs).Pairwise NoSib) j a bs
    (fun j a bs e => by rw [canB_none e]; exact List.Pairwise.nil)
    (fun j a bs e => by rw [canB_full e]; exact List.pairwise_singleton _ _)
    (fun j a bs e1 e2 i1 i2 => by
      rw [canB_part e1 e2]
      refine List.pairwise_append.mpr ⟨i1, i2, fun x hx y hy => ?_⟩
      obtain ⟨u, rfl, hl, _, hu⟩ := canB_pre h _ _ _ x hx
      obtain ⟨v, rfl, hl2, _, hv⟩ := canB_pre h _ _ _ y hy
      rintro ⟨z1, z2⟩
      have hlen : u.length = v.length := by simp at z1; exact z1
      cases u with
      | nil =>
        cases v with
        | nil =>
          have a1 := hu rfl
          have a2 := hv rfl
          have hj := H2_pos j
          have hs := H2_succ j
          have hc := ct_cut h (a := a) (m := a + H2 j) (e := a + H2 (j + 1)) (by omega) (by omega)
          rw [show a + H2 j + H2 j = a + H2 (j + 1) by omega] at a2
          omega
        | cons _ _ => simp at hlen
      | cons c u =>
        cases v with
        | nil => simp at hlen
        | cons d v =>
          rw [List.append_assoc, List.append_assoc, List.dropLast_append_of_ne_nil (by simp), List.dropLast_append_of_ne_nil (by simp), List.dropLast_append_of_ne_nil (by simp)] at z2
          have := List.append_cancel_left z2
          simp at this)
/-! ### the spans of leaves -/
def spB (w : Nat) (x : List Nat) : Int × Int := (beg x (w - x.length), beg x (w - x.length) + H2 (w - x.length))
theorem spB_at {w j : Nat} {bs : List Nat} (h : bs.length + j = w) : spB w bs = (beg bs j, beg bs j + H2 j) := by
  unfold spB
  rw [show w - bs.length = j by omega]
theorem ct_sub {S : List (Int × Int)} (h : Rise S) {a e x y : Int} (h1 : a ≤ x) (h2 : x ≤ y) (h3 : y ≤ e) : ct S a e = ct S a x + ct S x y + ct S y e := by
  rw [ct_cut h (a := a) (m := x) (e := e) h1 (by omega), ct_cut h (a := x) (m := y) (e := e) h2 h3]
  omega
theorem ct_rev {S : List (Int × Int)} {x y : Int} (h : y ≤ x) : ct S x y = 0 := ct_zero.mpr fun s _ => by unfold cn1; omega
theorem ct_canB {S : List (Int × Int)} (h : Rise S) {w : Nat} (j : Nat) (a : Int) (bs : List Nat) : bs.length + j = w → a = beg bs j → ∀ f b, ct ((canB S j a bs).map (spB w)) f b = ct S (max f a) (min b (a + H2 j)) :=
  can_cases h (P := fun j a bs => bs.length + j = w → a = beg bs j → ∀ f b, ct ((canB S j a bs).map (spB w)) f b = ct S (max f a) (min b (a + H2 j))) j a bs
    (fun j a bs e _ _ f b => by
      have hj := H2_pos j
      rw [canB_none e, List.map_nil, ct_nil]
      by_cases hh : max f a ≤ min b (a + H2 j)
      · have := ct_sub h (a := a) (e := a + H2 j) (x := max f a) (y := min b (a + H2 j)) (by omega) hh (by omega)
        have n1 := ct_nn S a (max f a)
        have n2 := ct_nn S (max f a) (min b (a + H2 j))
        have n3 := ct_nn S (min b (a + H2 j)) (a + H2 j)
        omega
      · rw [ct_rev (by omega)])
    (fun j a bs e hl ha f b => by
      have hj := H2_pos j
      rw [canB_full e, List.map_cons, List.map_nil, ct_one, spB_at hl, ← ha]
      unfold cn1
      show max 0 (min b (a + H2 j) - max f a) = _
      by_cases hh : max f a ≤ min b (a + H2 j)
      · have := ct_sub h (a := a) (e := a + H2 j) (x := max f a) (y := min b (a + H2 j)) (by omega) hh (by omega)
        have n1 := ct_le h (a := a) (e := max f a) (by omega)
        have n2 := ct_le h (a := max f a) (e := min b (a + H2 j)) hh
        have n3 := ct_le h (a := min b (a + H2 j)) (e := a + H2 j) (by omega)
        omega
      · rw [ct_rev (by omega)]; omega)
    (fun j a bs e1 e2 i1 i2 hl ha f b => by
      have hj := H2_pos j
      have hs := H2_succ j
      rw [canB_part e1 e2, List.map_append, ct_app, i1 (by rw [List.length_append]; show _ + 1 + _ = _; omega) (by rw [beg0]; exact ha), i2 (by rw [List.length_append]; show _ + 1 + _ = _; omega) (by rw [beg1, ha])]
      rw [show a + H2 j + H2 j = a + H2 (j + 1) by omega]
      by_cases k1 : max f a ≤ min b (a + H2 (j + 1))
      · by_cases k2 : max f a ≤ a + H2 j
        · by_cases k3 : a + H2 j ≤ min b (a + H2 (j + 1))
          · rw [ct_cut h (a := max f a) (m := a + H2 j) (e := min b (a + H2 (j + 1))) k2 k3, show min b (a + H2 j) = a + H2 j by omega, show max f (a + H2 j) = a + H2 j by omega]
          · rw [ct_rev (x := max f (a + H2 j)) (by omega), show min b (a + H2 j) = min b (a + H2 (j + 1)) by omega]
            omega
        · rw [ct_rev (x := max f a) (y := min b (a + H2 j)) (by omega), show max f (a + H2 j) = max f a by omega]
          omega
      · rw [ct_rev (x := max f a) (y := min b (a + H2 j)) (by omega), ct_rev (x := max f (a + H2 j)) (by omega), ct_rev (by omega)]
        omega)
theorem spB_in {S : List (Int × Int)} (h : Rise S) {w : Nat} (j : Nat) (a : Int) (bs : List Nat) : bs.length + j = w → a = beg bs j → ∀ s ∈ (canB S j a bs).map (spB w), a ≤ s.1 ∧ s.1 < s.2 ∧ s.2 ≤ a + H2 j :=
  can_cases h (P := fun j a bs => bs.length + j = w → a = beg bs j → ∀ s ∈ (canB S j a bs).map (spB w), a ≤ s.1 ∧ s.1 < s.2 ∧ s.2 ≤ a + H2 j) j a bs
    (fun j a bs e _ _ s hs => by rw [canB_none e] at hs; exact (List.not_mem_nil hs).elim)
    (fun j a bs e hl ha s hs => by
      have hj := H2_pos j
      rw [canB_full e, List.map_cons, List.map_nil] at hs
      rw [List.mem_singleton.mp hs, spB_at hl, ← ha]
      exact ⟨Int.le_refl _, by show a < a + H2 j; omega, Int.le_refl _⟩)
    (fun j a bs e1 e2 i1 i2 hl ha s hs => by
      have hj := H2_pos j
      have hs2 := H2_succ j
      rw [canB_part e1 e2, List.map_append] at hs
      rcases List.mem_append.mp hs with hs | hs
      · have := i1 (by rw [List.length_append]; show _ + 1 + _ = _; omega) (by rw [beg0]; exact ha) s hs
        omega
      · have := i2 (by rw [List.length_append]; show _ + 1 + _ = _; omega) (by rw [beg1, ha]) s hs
        omega)
theorem spB_rise {S : List (Int × Int)} (h : Rise S) {w : Nat} (j : Nat) (a : Int) (bs : List Nat) : bs.length + j = w → a = beg bs j → Rise ((canB S j a bs).map (spB w)) := fun hl ha =>
  ⟨fun s hs => (spB_in h j a bs hl ha s hs).2.1, can_cases h (P := fun j a bs => bs.length + j = w → a = beg bs j → ((canB S j a bs).map (spB w)).Pairwise fun s t => s.2 ≤ t.1) j a bs
    (fun j a bs e _ _ => by rw [canB_none e]; exact List.Pairwise.nil)
    (fun j a bs e _ _ => by rw [canB_full e]; exact List.pairwise_singleton _ _)
    (fun j a bs e1 e2 i1 i2 hl ha => by
      rw [canB_part e1 e2, List.map_append]
      have l1 : (bs ++ [48]).length + j = w := by rw [List.length_append]; show _ + 1 + _ = _; omega
      have l2 : (bs ++ [49]).length + j = w := by rw [List.length_append]; show _ + 1 + _ = _; omega
      have b1 : a = beg (bs ++ [48]) j := by rw [beg0]; exact ha
      have b2 : a + H2 j = beg (bs ++ [49]) j := by rw [beg1, ha]
      refine List.pairwise_append.mpr ⟨i1 l1 b1, i2 l2 b2, fun s hs t ht => ?_⟩
      have := spB_in h j a _ l1 b1 s hs
      have := spB_in h j _ _ l2 b2 t ht
      omega) hl ha⟩
/-! ### the leaves of both -/
def canM (S : List (Int × Int)) : Nat → Int → List Nat → List (List Nat)
  | 0, _, bs => [bs]
  | j + 1, a, bs => if ct S a (a + H2 (j + 1)) = 0 ∨ ct S a (a + H2 (j + 1)) = H2 (j + 1) then [bs] else canM S j a (bs ++ [48]) ++ canM S j (a + H2 j) (bs ++ [49])
theorem canM_one {S : List (Int × Int)} {j : Nat} {a : Int} {bs : List Nat} (h : ct S a (a + H2 j) = 0 ∨ ct S a (a + H2 j) = H2 j) : canM S j a bs = [bs] := by
  cases j with
  | zero => rfl
  | succ j => unfold canM; rw [if_pos h]
theorem canM_part {S : List (Int × Int)} {j : Nat} {a : Int} {bs : List Nat} (h1 : ct S a (a + H2 (j + 1)) ≠ 0) (h2 : ct S a (a + H2 (j + 1)) ≠ H2 (j + 1)) : canM S (j + 1) a bs = canM S j a (bs ++ [48]) ++ canM S j (a + H2 j) (bs ++ [49]) := by
  conv => lhs; unfold canM
  rw [if_neg (by rintro (h | h); exact h1 h; exact h2 h)]
theorem canM_perm {S R : List (Int × Int)} (h : Rise S) (j : Nat) (a : Int) (bs : List Nat) : (∀ x y, a ≤ x → x ≤ y → y ≤ a + H2 j → ct S x y + ct R x y = y - x) → (canM S j a bs).Perm (canB S j a bs ++ canB R j a bs) :=
  can_cases h (P := fun j a bs => (∀ x y, a ≤ x → x ≤ y → y ≤ a + H2 j → ct S x y + ct R x y = y - x) → (canM S j a bs).Perm (canB S j a bs ++ canB R j a bs)) j a bs
    (fun j a bs e hc => by
      have hj := H2_pos j
      have := hc a (a + H2 j) (Int.le_refl _) (by omega) (Int.le_refl _)
      rw [canM_one (.inl e), canB_none e, canB_full (by omega : ct R a (a + H2 j) = H2 j)]
      exact List.Perm.refl _)
    (fun j a bs e hc => by
      have hj := H2_pos j
      have := hc a (a + H2 j) (Int.le_refl _) (by omega) (Int.le_refl _)
      rw [canM_one (.inr e), canB_full e, canB_none (by omega : ct R a (a + H2 j) = 0)]
      exact List.Perm.refl _)
    (fun j a bs e1 e2 i1 i2 hc => by
      have hj := H2_pos j
      have hs := H2_succ j
      have := hc a (a + H2 (j + 1)) (Int.le_refl _) (by omega) (Int.le_refl _)
      rw [canM_part e1 e2, canB_part e1 e2, canB_part (by omega : ct R a (a + H2 (j + 1)) ≠ 0) (by omega)]
      refine ((i1 fun x y h1 h2 h3 => hc x y h1 h2 (by omega)).append (i2 fun x y h1 h2 h3 => hc x y (by omega) h2 (by omega))).trans ?_
      rw [List.append_assoc, List.append_assoc]
      refine List.Perm.append_left _ ?_
      rw [← List.append_assoc, ← List.append_assoc]
      exact List.Perm.append_right _ List.perm_append_comm)
/-- the one has a 0 where the other has a 1, all alike ahead of it -/
def Apart (x y : List Nat) : Prop := ∃ c u v, x = c ++ 48 :: u ∧ y = c ++ 49 :: v
theorem canM_pre {S : List (Int × Int)} (h : Rise S) (j : Nat) (a : Int) (bs : List Nat) : ∀ x ∈ canM S j a bs, ∃ u, x = bs ++ u ∧ u.length ≤ j ∧ Bits u :=
  can_cases h (P := fun j a bs => ∀ x ∈ canM S j a bs, ∃ u, x = bs ++ u ∧ u.length ≤ j ∧ Bits u) j a bs
    (fun j a bs e x hx => by
      rw [canM_one (.inl e)] at hx
      exact ⟨[], by rw [List.mem_singleton.mp hx, List.append_nil], Nat.zero_le _, Bits.nil⟩)
    (fun j a bs e x hx => by
      rw [canM_one (.inr e)] at hx
      exact ⟨[], by rw [List.mem_singleton.mp hx, List.append_nil], Nat.zero_le _, Bits.nil⟩)
    (fun j a bs e1 e2 i1 i2 x hx => by
      rw [canM_part e1 e2] at hx
      rcases List.mem_append.mp hx with hx | hx
      · obtain ⟨u, rfl, hl, hb⟩ := i1 x hx
        exact ⟨48 :: u, by simp, Nat.succ_le_succ hl, (Bits.one (by decide)).app hb⟩
      · obtain ⟨u, rfl, hl, hb⟩ := i2 x hx
        exact ⟨49 :: u, by simp, Nat.succ_le_succ hl, (Bits.one (by decide)).app hb⟩)
theorem canM_apart {S : List (Int × Int)} (h : Rise S) (j : Nat) (a : Int) (bs : List Nat) : (canM S j a bs).Pairwise Apart :=
  can_cases h (P := fun j a bs => (canM S j a bs).Pairwise Apart) j a bs
    (fun j a bs e => by rw [canM_one (.inl e)]; exact List.pairwise_singleton _ _)
    (fun j a bs e => by rw [canM_one (.inr e)]; exact List.pairwise_singleton _ _)
    (fun j a bs e1 e2 i1 i2 => by
      rw [canM_part e1 e2]
      refine List.pairwise_append.mpr ⟨i1, i2, fun x hx y hy => ?_⟩
      obtain ⟨u, rfl, _⟩ := canM_pre h _ _ _ x hx
      obtain ⟨v, rfl, _⟩ := canM_pre h _ _ _ y hy
      exact ⟨bs, u, v, by simp, by simp⟩)
/-! ### spans one behind the other -/
def Tile : Int → List (Int × Int) → Int → Prop
  | a, [], e => a = e
  | a, s :: T, e => s.1 = a ∧ s.1 < s.2 ∧ Tile s.2 T e
theorem Tile.app : ∀ {T U : List (Int × Int)} {a m e : Int}, Tile a T m → Tile m U e → Tile a (T ++ U) e
  | [], _, _, _, _, h, k => by cases (show _ = _ from h); exact k
  | _ :: _, _, _, _, _, ⟨h1, h2, h3⟩, k => ⟨h1, h2, Tile.app h3 k⟩
theorem Tile.le : ∀ {T : List (Int × Int)} {a e : Int}, Tile a T e → a ≤ e
  | [], _, _, h => Int.le_of_eq h
  | _ :: _, _, _, ⟨h1, h2, h3⟩ => by have := h3.le; omega
theorem Tile.mem : ∀ {T : List (Int × Int)} {a e : Int}, Tile a T e → ∀ s ∈ T, a ≤ s.1 ∧ s.1 < s.2 ∧ s.2 ≤ e
  | s :: T, a, e, ⟨h1, h2, h3⟩, t, ht => by
    rcases List.mem_cons.mp ht with rfl | ht
    · exact ⟨by omega, h2, h3.le⟩
    · have := h3.mem t ht
      omega
theorem Tile.rise : ∀ {T : List (Int × Int)} {a e : Int}, Tile a T e → Rise T
  | [], _, _, _ => ⟨fun _ h => (List.not_mem_nil h).elim, List.Pairwise.nil⟩
  | s :: T, a, e, h@⟨h1, h2, h3⟩ => ⟨fun t ht => (h.mem t ht).2.1, List.pairwise_cons.mpr ⟨fun t ht => (h3.mem t ht).1, h3.rise.2⟩⟩
theorem Tile.ct : ∀ {T : List (Int × Int)} {a e : Int}, Tile a T e → ∀ x y, ct T x y = max 0 (min y e - max x a)
  | [], a, e, h, x, y => by cases (show _ = _ from h); rw [ct_nil]; omega
  | s :: T, a, e, ⟨h1, h2, h3⟩, x, y => by
    rw [ct_cons, h3.ct]
    have := h3.le
    unfold cn1
    omega
theorem Tile.sum : ∀ {T : List (Int × Int)} {a e : Int}, Tile a T e → (T.map fun s => s.2 - s.1).sum = e - a
  | [], a, e, h => by cases (show _ = _ from h); exact (Int.sub_self _).symm
  | s :: T, a, e, ⟨h1, h2, h3⟩ => by rw [List.map_cons, List.sum_cons, h3.sum]; omega
theorem canM_tile {S : List (Int × Int)} (h : Rise S) {w : Nat} (j : Nat) (a : Int) (bs : List Nat) : bs.length + j = w → a = beg bs j → Tile a ((canM S j a bs).map (spB w)) (a + H2 j) := by
  have one : ∀ (j : Nat) (a : Int) (bs : List Nat), bs.length + j = w → a = beg bs j → Tile a ([bs].map (spB w)) (a + H2 j) := fun j a bs hl ha => by
    rw [List.map_cons, spB_at hl, ← ha]
    exact ⟨rfl, by have := H2_pos j; show a < a + H2 j; omega, rfl⟩
  exact can_cases h (P := fun j a bs => bs.length + j = w → a = beg bs j → Tile a ((canM S j a bs).map (spB w)) (a + H2 j)) j a bs
    (fun j a bs e hl ha => by rw [canM_one (.inl e)]; exact one j a bs hl ha)
    (fun j a bs e hl ha => by rw [canM_one (.inr e)]; exact one j a bs hl ha)
    (fun j a bs e1 e2 i1 i2 hl ha => by
      have hs := H2_succ j
      rw [canM_part e1 e2, List.map_append]
      have k2 := i2 (by rw [List.length_append]; show _ + 1 + _ = _; omega) (by rw [beg1, ha])
      rw [show a + H2 j + H2 j = a + H2 (j + 1) by omega] at k2
      exact (i1 (by rw [List.length_append]; show _ + 1 + _ = _; omega) (by rw [beg0]; exact ha)).app k2)
end G
/-! Plain laws: what many laws' texts share. -/
namespace G
open PySem PySem.Spec PyProof.Rows L2 TL
def spanL (w : Nat) (bs : List Nat) : Nat × Nat := (wr bs * 2 ^ (w - bs.length), (wr bs + 1) * 2 ^ (w - bs.length))
theorem notF {α : Type} {a b : α} : (if (!false) = true then a else b) = a := rfl
theorem bin_wr {bs : List Nat} (h : Bits bs) : bin bs.length (wr bs) = bs :=
  wr_inj (bin_bits _ _) h (bin_len _ _) (by rw [wr_bin, Nat.mod_eq_of_lt (wr_lt bs)])
/-! ### the widest block from an address on -/
theorem shlI_w {w J : Nat} (h : J ≤ 60) : shlI (1 : Int) ((w : Int) - ((w : Int) - (J : Int))) = some (H2 J) := by
  rw [show (w : Int) - ((w : Int) - (J : Int)) = (J : Nat) by omega]
  exact shlI_one (by omega)
theorem mod_up {a : Int} {j k : Nat} (h : a % H2 k = 0) (hk : j ≤ k) : a % H2 j = 0 := by
  obtain ⟨d, rfl⟩ := Nat.exists_eq_add_of_le hk
  have : H2 (j + d) = H2 j * H2 d := by show ((2 ^ (j + d) : Nat) : Int) = _; rw [Nat.pow_add, Int.natCast_mul]
  rw [this] at h
  exact Int.emod_eq_zero_of_dvd (Int.dvd_trans (Int.dvd_mul_right _ _) (Int.dvd_of_emod_eq_zero h))
theorem H2_mono {j k : Nat} (h : j ≤ k) : H2 j ≤ H2 k := Int.ofNat_le.mpr (Nat.pow_le_pow_right (by decide) h)
theorem beg_mod (bs : List Nat) (j : Nat) : beg bs j % H2 j = 0 := by
  unfold beg
  rw [Int.natCast_mul]
  exact Int.mul_emod_left _ _
theorem appL_some {α : Type} {l : List α} {x : α} (h : l.length ≤ 1000000) : appL l x = some (l ++ [x]) := by unfold appL; rw [if_pos (by rw [sizeLine_eq]; omega)]
theorem setL_last {α : Type} (F : List α) (x y : α) : setL (F ++ [x]) (-1) y = some (F ++ [y]) := by
  unfold setL ixN
  rw [List.length_append]
  show Option.map _ (if (0 : Int) ≤ -1 then _ else if -((F.length + 1 : Nat) : Int) ≤ -1 then _ else none) = _
  rw [if_neg (by omega), if_pos (by omega)]
  show some ((F ++ [x]).set (-1 + ((F.length + 1 : Nat) : Int)).toNat y) = _
  rw [show (-1 + ((F.length + 1 : Nat) : Int)).toNat = F.length by omega, List.set_append_right _ _ (Nat.le_refl _), Nat.sub_self]
  rfl
theorem gaps_snoc {F : List (Int × Int)} {x : Int × Int} (h : Gaps F) (hx : x.1 < x.2) (hb : ∀ s ∈ F, s.2 < x.1) : Gaps (F ++ [x]) :=
  ⟨fun s hs => (List.mem_append.mp hs).elim (h.1 s) fun e => by rw [List.mem_singleton.mp e]; exact hx,
   List.pairwise_append.mpr ⟨h.2, List.pairwise_singleton _ _, fun s hs t ht => by rw [List.mem_singleton.mp ht]; exact hb s hs⟩⟩
/-! ### drawn stretches -/
theorem rangeL_succ (n : Int) (k : Nat) : rangeL n (k + 1) = n :: rangeL (n + 1) k := by
  unfold rangeL
  rw [List.range_succ_eq_map, List.map_cons, List.map_map]
  congr 1
  · omega
  · refine List.map_congr_left fun i _ => ?_
    show n + ((i + 1 : Nat) : Int) = n + 1 + (i : Nat)
    omega
theorem ins_len (k : Int) : ∀ l : List Int, (ins k l).length ≤ l.length + 1
  | [] => Nat.le_refl _
  | x :: l => by
    unfold ins
    split
    · exact Nat.le_refl _
    · split
      · exact Nat.le_succ _
      · exact Nat.succ_le_succ (ins_len k l)
theorem ssort_len : ∀ l : List Int, (ssort l).length ≤ l.length
  | [] => Nat.le_refl _
  | x :: l => Nat.le_trans (ins_len x (ssort l)) (Nat.succ_le_succ (ssort_len l))
theorem rangeL_add : ∀ (a : Nat) (n : Int) (c : Nat), rangeL n (a + c) = rangeL n a ++ rangeL (n + (a : Nat)) c
  | 0, n, c => by
    rw [Nat.zero_add, show n + ((0 : Nat) : Int) = n by omega]
    rfl
  | a + 1, n, c => by
    rw [show a + 1 + c = (a + c) + 1 by omega, rangeL_succ, rangeL_succ, rangeL_add a (n + 1) c, List.cons_append, show n + 1 + (a : Nat) = n + ((a + 1 : Nat) : Int) by omega]
theorem map_tl_inj : ∀ {xs ys : List Str}, xs.map tl = ys.map tl → xs = ys
  | [], [], _ => rfl
  | [], _ :: _, h => nomatch h
  | _ :: _, [], h => nomatch h
  | x :: xs, y :: ys, h => by
    obtain ⟨h1, h2⟩ := List.cons.inj h
    rw [tl_inj h1, map_tl_inj h2]
/-! ### spans of patterns, by their texts -/
def bsOf (x : Str) : List Nat := (tl x).takeWhile isB
theorem bsOf_pat {w : Nat} {bs : List Nat} {x : Str} (p : Pat w bs x) : bsOf x = bs := by
  unfold bsOf
  rw [p.eq, patL]
  have h : ∀ (l r : List Nat), Bits l → (∀ c, r.head? = some c → isB c = false) → (l ++ r).takeWhile isB = l := by
    intro l r hl hr
    induction l with
    | nil => exact tw0 r hr
    | cons c l ih =>
      show List.takeWhile isB (c :: (l ++ r)) = _
      rw [List.takeWhile_cons, if_pos (hl c (List.mem_cons_self ..)), ih fun d hd => hl d (List.mem_cons_of_mem _ hd)]
  refine h bs _ p.bits fun c hc => ?_
  split at hc
  · have : c = 42 := (Option.some.inj hc).symm
    subst this
    decide
  · cases hc
def spI (w : Nat) (x : Str) : Int × Int := (((spanL w (bsOf x)).1 : Int), ((spanL w (bsOf x)).2 : Int))
def IsPat (w : Nat) (x : Str) : Prop := ∃ bs, Pat w bs x
theorem spI_ok {w : Nat} {x : Str} (p : IsPat w x) : 0 ≤ (spI w x).1 ∧ (spI w x).1 < (spI w x).2 ∧ (spI w x).2 ≤ ((2 ^ w : Nat) : Int) := by
  obtain ⟨bs, p⟩ := p
  unfold spI
  rw [bsOf_pat p]
  have h1 := wr_lt bs
  have hle := p.le
  have h2 : 2 ^ bs.length * 2 ^ (w - bs.length) = 2 ^ w := by rw [← Nat.pow_add]; congr 1; omega
  have h3 : (wr bs + 1) * 2 ^ (w - bs.length) ≤ 2 ^ bs.length * 2 ^ (w - bs.length) := Nat.mul_le_mul_right _ h1
  have h4 : 0 < 2 ^ (w - bs.length) := Nat.two_pow_pos _
  refine ⟨Int.natCast_nonneg _, ?_, ?_⟩
  · show ((wr bs * 2 ^ (w - bs.length) : Nat) : Int) < (((wr bs + 1) * 2 ^ (w - bs.length) : Nat) : Int)
    rw [Nat.add_mul, Nat.one_mul]
    omega
  · show (((wr bs + 1) * 2 ^ (w - bs.length) : Nat) : Int) ≤ _
    omega
/-! ### edges -/
def flat2 (S : List (Int × Int)) : List Int := S.flatMap fun s => [s.1, s.2]
theorem mem_flat2 {S : List (Int × Int)} {k : Int} : k ∈ flat2 S ↔ ∃ s ∈ S, k = s.1 ∨ k = s.2 := by
  unfold flat2
  simp [List.mem_flatMap]
theorem flat2_len (S : List (Int × Int)) : (flat2 S).length = 2 * S.length := by
  induction S with
  | nil => rfl
  | cons s S ih =>
    show ([s.1, s.2] ++ flat2 S).length = _
    rw [List.length_append, ih]
    show 2 + 2 * S.length = 2 * (S.length + 1)
    omega
/-- neighbours -/
def prsL : List Int → List (Int × Int)
  | x :: y :: r => (x, y) :: prsL (y :: r)
  | _ => []
theorem zip_prs : ∀ l : List Int, List.zip l (l.drop 1) = prsL l
  | [] => rfl
  | [_] => rfl
  | x :: y :: r => by
    show (x, y) :: List.zip (y :: r) r = _
    have := zip_prs (y :: r)
    exact congrArg _ this
def edgesOf (w : Nat) (S : List (Int × Int)) : List Int := ssort ([0, ((2 ^ w : Nat) : Int)] ++ flat2 S)
/-! ### what stands in which -/
def hereL (S : List (Int × Int)) (f b : Int) : List Bool := S.map fun s => (decide (s.1 ≤ f)) && (decide (b ≤ s.2))
def apartL (S : List (Int × Int)) (f b : Int) : List Bool := S.map fun s => (decide (b ≤ s.1)) || (decide (s.2 ≤ f))
/-- no edge lies between -/
def Gap (S : List (Int × Int)) (f b : Int) : Prop := f < b ∧ ∀ s ∈ S, s.1 < s.2 ∧ (s.1 ≤ f ∨ b ≤ s.1) ∧ (s.2 ≤ f ∨ b ≤ s.2)
/-- at an edge what stands changes -/
theorem here_ne {S : List (Int × Int)} {p e b : Int} (g1 : Gap S p e) (g2 : Gap S e b) (he : ∃ s ∈ S, e = s.1 ∨ e = s.2) : hereL S e b ≠ hereL S p e := by
  obtain ⟨s, hs, h⟩ := he
  intro z
  have := List.map_eq_map_iff.mp z s hs
  rw [Bool.eq_iff_iff, Bool.and_eq_true, Bool.and_eq_true, decide_eq_true_iff, decide_eq_true_iff, decide_eq_true_iff, decide_eq_true_iff] at this
  obtain ⟨f1, k1⟩ := g1
  obtain ⟨f2, k2⟩ := g2
  obtain ⟨a1, a2, a3⟩ := k1 s hs
  obtain ⟨b1, b2, b3⟩ := k2 s hs
  omega
def El (S : List (Int × Int)) (e : Int) (o : Option (List Bool)) : Prop := o = none ∨ ∃ p, Gap S p e ∧ o = some (hereL S p e) ∧ ∃ s ∈ S, e = s.1 ∨ e = s.2
theorem El.ne {S : List (Int × Int)} {e b : Int} {o : Option (List Bool)} (h : El S e o) (g : Gap S e b) : some (hereL S e b) ≠ o := by
  rcases h with rfl | ⟨p, g1, rfl, hs⟩
  · exact fun z => nomatch z
  · exact fun z => here_ne g1 g hs (Option.some.inj z)
theorem rangeO_len {n : Nat} (h : n ≤ 16777216) : rangeO1 (n : Int) = some (rangeL 0 n) := by
  unfold rangeO1
  rw [if_pos ⟨by omega, by rw [sizeLine_eq]; omega⟩, Int.toNat_natCast]
theorem mem_rangeL {n : Nat} {k : Int} (h : k ∈ rangeL 0 n) : 0 ≤ k ∧ k < (n : Nat) := by
  unfold rangeL at h
  obtain ⟨i, hi, rfl⟩ := List.mem_map.mp h
  have := List.mem_range.mp hi
  omega
/-! ### the edges of a row of spans -/
structure SpOk (w : Nat) (S : List (Int × Int)) : Prop where
  ok : ∀ s ∈ S, 0 ≤ s.1 ∧ s.1 < s.2 ∧ s.2 ≤ ((2 ^ w : Nat) : Int)
theorem prs_adj : ∀ {l : List Int} {f b : Int}, l.Pairwise (· < ·) → (f, b) ∈ prsL l → f < b ∧ ∀ x ∈ l, x ≤ f ∨ b ≤ x
  | [], _, _, _, h => nomatch h
  | [_], _, _, _, h => nomatch h
  | x :: y :: r, f, b, hp, h => by
    obtain ⟨h1, h2⟩ := List.pairwise_cons.mp hp
    rcases List.mem_cons.mp (show (f, b) ∈ (x, y) :: prsL (y :: r) from h) with e | h
    · have e1 : f = x := congrArg Prod.fst e
      have e2 : b = y := congrArg Prod.snd e
      subst e1 e2
      refine ⟨h1 b (List.mem_cons_self ..), fun z hz => ?_⟩
      rcases List.mem_cons.mp hz with rfl | hz
      · exact .inl (Int.le_refl _)
      · rcases List.mem_cons.mp hz with rfl | hz
        · exact .inr (Int.le_refl _)
        · have := (List.pairwise_cons.mp h2).1 z hz
          exact .inr (by omega)
    · obtain ⟨k1, k2⟩ := prs_adj h2 h
      have hf : f ∈ y :: r := prs_mem h
      have hxf := h1 f hf
      refine ⟨k1, fun z hz => ?_⟩
      rcases List.mem_cons.mp hz with rfl | hz
      · exact .inl (by omega)
      · exact k2 z hz
where
  prs_mem : ∀ {l : List Int} {f b : Int}, (f, b) ∈ prsL l → f ∈ l
    | [], _, _, h => nomatch h
    | [_], _, _, h => nomatch h
    | x :: y :: r, f, b, h => by
      rcases List.mem_cons.mp (show (f, b) ∈ (x, y) :: prsL (y :: r) from h) with e | h
      · have e1 : f = x := congrArg Prod.fst e
        subst e1
        exact List.mem_cons_self ..
      · exact List.mem_cons_of_mem _ (prs_mem h)
theorem edges_facts {w : Nat} {S : List (Int × Int)} (h : SpOk w S) : ∃ l, edgesOf w S = 0 :: l ∧ (∀ q ∈ prsL (0 :: l), Gap S q.1 q.2) ∧ (∀ k ∈ l.dropLast, ∃ s ∈ S, k = s.1 ∨ k = s.2) ∧ (0 :: l).getLast? = some ((2 ^ w : Nat) : Int) ∧ l ≠ [] := by
  have hs := ssort_sorted ([0, ((2 ^ w : Nat) : Int)] ++ flat2 S)
  have hm : ∀ k, k ∈ edgesOf w S ↔ k = 0 ∨ k = ((2 ^ w : Nat) : Int) ∨ ∃ s ∈ S, k = s.1 ∨ k = s.2 := fun k => by
    unfold edgesOf
    rw [ssort_mem, List.mem_append, mem_flat2]
    simp only [List.mem_cons, List.not_mem_nil, or_false, or_assoc]
  have hW : (0 : Int) < ((2 ^ w : Nat) : Int) := by have := Nat.two_pow_pos w; omega
  have hlo : ∀ k ∈ edgesOf w S, 0 ≤ k ∧ k ≤ ((2 ^ w : Nat) : Int) := fun k hk => by
    rcases (hm k).mp hk with rfl | rfl | ⟨s, hs, rfl | rfl⟩
    · omega
    · omega
    · have := h.ok s hs; omega
    · have := h.ok s hs; omega
  change (edgesOf w S).Pairwise (· < ·) at hs
  have h0 := (hm 0).mpr (.inl rfl)
  have hWm := (hm ((2 ^ w : Nat) : Int)).mpr (.inr (.inl rfl))
  generalize edgesOf w S = E at hs hm hlo h0 hWm
  cases E with
  | nil => cases h0
  | cons x l =>
    obtain ⟨s1, s2⟩ := List.pairwise_cons.mp hs
    have ex : x = 0 := by
      rcases List.mem_cons.mp h0 with e | e
      · exact e.symm
      · have := s1 0 e
        have := hlo x (List.mem_cons_self ..)
        omega
    subst ex
    have hne : l ≠ [] := fun e => by
      subst e
      have := List.mem_singleton.mp hWm
      omega
    have hlast : (0 :: l).getLast? = some ((2 ^ w : Nat) : Int) := by
      obtain ⟨m, z, rfl⟩ : ∃ m z, l = m ++ [z] := ⟨l.dropLast, l.getLast hne, (List.dropLast_concat_getLast hne).symm⟩
      have hz : z = ((2 ^ w : Nat) : Int) := by
        rcases List.mem_cons.mp hWm with e | e
        · omega
        · rcases List.mem_append.mp e with e | e
          · have h3 := (List.pairwise_append.mp s2).2.2 _ e z (List.mem_singleton.mpr rfl)
            have := hlo z (List.mem_cons_of_mem _ (List.mem_append.mpr (.inr (List.mem_singleton.mpr rfl))))
            omega
          · exact (List.mem_singleton.mp e).symm
      subst hz
      rw [← List.cons_append]
      exact List.getLast?_concat
    refine ⟨l, rfl, fun q hq => ?_, fun k hk => ?_, hlast, hne⟩
    · obtain ⟨k1, k2⟩ := prs_adj hs hq
      exact ⟨k1, fun s hs2 => ⟨(h.ok s hs2).2.1, k2 s.1 ((hm s.1).mpr (.inr (.inr ⟨s, hs2, .inl rfl⟩))), k2 s.2 ((hm s.2).mpr (.inr (.inr ⟨s, hs2, .inr rfl⟩)))⟩⟩
    · rcases (hm k).mp (List.mem_cons_of_mem _ (List.dropLast_subset _ hk)) with rfl | rfl | e
      · have := s1 0 (List.dropLast_subset _ hk); omega
      · exfalso
        obtain ⟨m, z, rfl⟩ : ∃ m z, l = m ++ [z] := ⟨l.dropLast, l.getLast hne, (List.dropLast_concat_getLast hne).symm⟩
        rw [List.dropLast_concat] at hk
        have h3 := (List.pairwise_append.mp s2).2.2 _ hk z (List.mem_singleton.mpr rfl)
        have := hlo z (List.mem_cons_of_mem _ (List.mem_append.mpr (.inr (List.mem_singleton.mpr rfl))))
        omega
      · exact e
theorem spOk {w : Nat} {ps : List Str} (h : ∀ p ∈ ps, IsPat w p) : SpOk w (ps.map (spI w)) := ⟨fun s hs => by
  obtain ⟨p, hp, rfl⟩ := List.mem_map.mp hs
  exact spI_ok (h p hp)⟩
theorem prs_len : ∀ l : List Int, (prsL l).length ≤ l.length
  | [] => Nat.le_refl _
  | [_] => Nat.zero_le _
  | x :: y :: r => by
    show (prsL (y :: r)).length + 1 ≤ (y :: r).length + 1
    exact Nat.succ_le_succ (prs_len (y :: r))
end G
/-! Plain laws: patterns written out of signs; sorted texts; tiles and parts. -/
namespace G
open PySem PySem.Spec PyProof.Rows L2 TL
theorem conL_some {α : Type} {a b : List α} (h : a.length + b.length ≤ 1000000) : conL a b = some (a ++ b) := by unfold conL; rw [if_pos (by rw [sizeLine_eq]; omega)]
section
variable {α β γ R T : Type} {g : R → Option T}
theorem bL0_go {f : Option T} : bindL0 (some (.go ())) f g = f := rfl
theorem bL1_go {f : α → Option T} {a : α} : bindL1 (some (.go a)) f g = f a := rfl
theorem bL2_go {f : α → β → Option T} {a : α} {b : β} : bindL2 (some (.go (a, b))) f g = f a b := rfl
theorem bL3_go {f : α → β → γ → Option T} {a : α} {b : β} {c : γ} : bindL3 (some (.go (a, b, c))) f g = f a b c := rfl
end
theorem shlI_H {k : Nat} (h : k ≤ 1000000) : shlI 1 (k : Int) = some (H2 k) := shlI_one h
theorem rangeO_1 {n : Nat} (h : n ≤ 1000000) : rangeO (1 : Int) ((n : Nat) : Int) = some (rangeL 1 (n - 1)) := by
  unfold rangeO
  rw [if_pos ⟨by omega, by rw [sizeLine_eq]; omega⟩, show (((n : Nat) : Int) - 1).toNat = n - 1 by omega]
theorem mem_range1 {n : Nat} {k : Int} (h : k ∈ rangeL 1 (n - 1)) : ∃ i : Nat, k = ((i + 1 : Nat) : Int) ∧ i + 1 < n := by
  unfold rangeL at h
  obtain ⟨i, hi, rfl⟩ := List.mem_map.mp h
  have := List.mem_range.mp hi
  exact ⟨i, by omega, by omega⟩
/-- texts that write the patterns of some signs -/
structure Pats (w : Nat) (us : List (List Nat)) (ys : List Str) : Prop where
  eq : ys.map tl = us.map (patL w)
  ok : ∀ u ∈ us, Bits u ∧ u.length ≤ w
theorem Pats.app {w : Nat} {us vs : List (List Nat)} {ys zs : List Str} (h : Pats w us ys) (k : Pats w vs zs) : Pats w (us ++ vs) (ys ++ zs) :=
  ⟨by rw [List.map_append, List.map_append, h.eq, k.eq], fun u hu => (List.mem_append.mp hu).elim (h.ok u) (k.ok u)⟩
theorem Pats.len {w : Nat} {us : List (List Nat)} {ys : List Str} (h : Pats w us ys) : ys.length = us.length := by
  have := congrArg List.length h.eq
  rwa [List.length_map, List.length_map] at this
theorem Pats.tail {w : Nat} {u : List Nat} {us : List (List Nat)} {y : Str} {ys : List Str} (h : Pats w (u :: us) (y :: ys)) : Pat w u y ∧ Pats w us ys := by
  have e := h.eq
  rw [List.map_cons, List.map_cons] at e
  obtain ⟨e1, e2⟩ := List.cons.inj e
  have := h.ok u (List.mem_cons_self ..)
  exact ⟨⟨this.1, this.2, e1⟩, e2, fun v hv => h.ok v (List.mem_cons_of_mem _ hv)⟩
theorem Pats.rec_ {w : Nat} {P : List (List Nat) → List Str → Prop} (h0 : P [] []) (h1 : ∀ u us y ys, Pat w u y → Pats w us ys → P us ys → P (u :: us) (y :: ys)) : ∀ {us ys}, Pats w us ys → P us ys
  | [], [], _ => h0
  | [], _ :: _, h => nomatch h.len
  | _ :: _, [], h => nomatch h.len
  | u :: us, y :: ys, h => h1 u us y ys h.tail.1 h.tail.2 (Pats.rec_ h0 h1 h.tail.2)
theorem Pats.each {w : Nat} {us : List (List Nat)} {ys : List Str} (h : Pats w us ys) : ∀ y ∈ ys, IsPat w y :=
  Pats.rec_ (P := fun us ys => ∀ y ∈ ys, IsPat w y) (fun _ h => nomatch h) (fun u us y ys p _ ih z hz => by
    rcases List.mem_cons.mp hz with rfl | hz
    · exact ⟨u, p⟩
    · exact ih z hz) h
theorem spI_spB {w : Nat} {u : List Nat} {y : Str} (p : Pat w u y) : spI w y = spB w u := by
  unfold spI spB spanL
  rw [bsOf_pat p]
  refine Prod.ext rfl ?_
  show (((wr u + 1) * 2 ^ (w - u.length) : Nat) : Int) = ((wr u * 2 ^ (w - u.length) : Nat) : Int) + ((2 ^ (w - u.length) : Nat) : Int)
  rw [Nat.add_mul, Nat.one_mul, Int.natCast_add]
theorem Pats.spans {w : Nat} {us : List (List Nat)} {ys : List Str} (h : Pats w us ys) : ys.map (spI w) = us.map (spB w) :=
  Pats.rec_ (P := fun us ys => ys.map (spI w) = us.map (spB w)) rfl (fun u us y ys p _ ih => by rw [List.map_cons, List.map_cons, ih, spI_spB p]) h
theorem Pats.strip {w : Nat} {us : List (List Nat)} {ys : List Str} (h : Pats w us ys) : (ys.map fun y => Txt.stripChars y ("*" : Str)).map tl = us :=
  Pats.rec_ (P := fun us ys => (ys.map fun y => Txt.stripChars y ("*" : Str)).map tl = us) rfl (fun u us y ys p _ ih => by rw [List.map_cons, List.map_cons, ih, p.strip]) h
/-- the leaves of all addresses -/
theorem canB_root {S : List (Int × Int)} (h : Rise S) (w : Nat) : ∀ u ∈ canB S w 0 [], Bits u ∧ u.length ≤ w := fun u hu => by
  obtain ⟨v, rfl, h1, h2, _⟩ := canB_pre h w 0 [] u hu
  exact ⟨h2, h1⟩
theorem can_pats {S : List (Int × Int)} (h : Rise S) {w : Nat} {ys : List Str} (e : ys.map tl = can S w 0 []) : Pats w (canB S w 0 []) ys :=
  ⟨by rw [e, can_canB h w 0 [] (Nat.zero_add w)], canB_root h w⟩
theorem can_len0 {S : List (Int × Int)} (h : Rise S) (w : Nat) : (can S w 0 []).length ≤ 1 + w * (2 * S.length) := by
  have h1 := can_len h w 0 []
  exact Nat.le_trans h1 (Nat.add_le_add_left (Nat.mul_le_mul_left _ (ends_le _ _ _)) 1)
/-! ### sorted texts -/
theorem Apart.le {x y : List Nat} (h : Apart x y) : x ≤ y := by
  obtain ⟨c, u, v, rfl, rfl⟩ := h
  refine List.le_of_lt ?_
  induction c with
  | nil => exact List.Lex.rel (by decide)
  | cons a c ih => exact List.Lex.cons ih
theorem Apart.take {x y : List Nat} (h : Apart x y) : y.take x.length ≠ x := by
  obtain ⟨c, u, v, rfl, rfl⟩ := h
  intro e
  have h1 : (c ++ 49 :: v).take (c ++ 48 :: u).length = c ++ (49 :: v).take (u.length + 1) := by
    rw [List.length_append, List.take_length_add_append]
    rfl
  rw [h1] at e
  have := List.append_cancel_left e
  rw [List.take_succ_cons] at this
  exact absurd (List.cons.inj this).1 (by decide)
theorem sortT_map {L : List Str} {C : List (List Nat)} (hp : (L.map tl).Perm C) (hs : C.Pairwise fun a b => a ≤ b) : (sortT L).map tl = C := by
  have h1 : ((sortT L).map tl).Perm C := ((sortT_perm L).map tl).trans hp
  have h2 : ((sortT L).map tl).Pairwise fun a b => a ≤ b := List.pairwise_map.mpr ((sortT_sorted L).imp fun h => of_decide_eq_true h)
  exact h1.eq_of_pairwise (le := fun a b => a ≤ b) (fun a b _ _ h3 h4 => List.le_antisymm h3 h4) h2 hs
/-! ### tiles -/
theorem Tile.sortP {T U : List (Int × Int)} {a e : Int} (h : Tile a T e) (hp : T.Perm U) : sortP U = T :=
  sortP_uniq hp (h.rise.2.imp_of_mem fun {s t} hs ht k => decide_eq_true (.inl (by have := (h.mem s hs).2.1; omega)))
theorem Tile.prs : ∀ {T : List (Int × Int)} {a e : Int}, Tile a T e → prsL (a :: T.map (·.2)) = T
  | [], _, _, _ => rfl
  | [s], a, e, ⟨h1, h2, h3⟩ => by
    show [(a, s.2)] = [s]
    rw [← h1]
  | s :: t :: T, a, e, ⟨h1, h2, h3⟩ => by
    show (a, s.2) :: prsL (s.2 :: (t :: T).map (·.2)) = _
    rw [Tile.prs h3, ← h1]
theorem Tile.ends_mem : ∀ {T : List (Int × Int)} {a e k : Int}, Tile a T e → (k ∈ a :: T.map (·.2) ↔ k = a ∨ k = e ∨ ∃ s ∈ T, k = s.1 ∨ k = s.2)
  | [], a, e, k, h => by
    cases (show _ = _ from h)
    simp
  | s :: T, a, e, k, ⟨h1, h2, h3⟩ => by
    have ih := Tile.ends_mem (k := k) h3
    rw [List.map_cons]
    constructor
    · intro h
      rcases List.mem_cons.mp h with rfl | h
      · exact .inl rfl
      · rcases ih.mp h with rfl | rfl | ⟨t, ht, hk⟩
        · exact .inr (.inr ⟨s, List.mem_cons_self .., .inr rfl⟩)
        · exact .inr (.inl rfl)
        · exact .inr (.inr ⟨t, List.mem_cons_of_mem _ ht, hk⟩)
    · rintro (rfl | rfl | ⟨t, ht, hk⟩)
      · exact List.mem_cons_self ..
      · exact List.mem_cons_of_mem _ (ih.mpr (.inr (.inl rfl)))
      · rcases List.mem_cons.mp ht with rfl | ht
        · rcases hk with rfl | rfl
          · rw [h1]; exact List.mem_cons_self ..
          · exact List.mem_cons_of_mem _ (List.mem_cons_self ..)
        · exact List.mem_cons_of_mem _ (ih.mpr (.inr (.inr ⟨t, ht, hk⟩)))
theorem Tile.sorted : ∀ {T : List (Int × Int)} {a e : Int}, Tile a T e → (a :: T.map (·.2)).Pairwise (· < ·)
  | [], a, e, _ => List.pairwise_singleton _ _
  | s :: T, a, e, ⟨h1, h2, h3⟩ => by
    have ih := Tile.sorted h3
    refine List.pairwise_cons.mpr ⟨fun k hk => ?_, ih⟩
    rw [List.map_cons] at hk
    rcases List.mem_cons.mp hk with rfl | hk
    · omega
    · have := (List.pairwise_cons.mp ih).1 k hk
      omega
/-- the parts of tiles are the tiles -/
theorem Tile.parts {T U : List (Int × Int)} {w : Nat} (h : Tile 0 T (H2 w)) (hp : ∀ s, s ∈ U ↔ s ∈ T) : prsL (edgesOf w U) = T := by
  have e : edgesOf w U = 0 :: T.map (·.2) := by
    unfold edgesOf
    refine ssort_uniq h.sorted fun k => ?_
    rw [h.ends_mem, List.mem_append, mem_flat2]
    simp only [List.mem_cons, List.not_mem_nil, or_false, or_assoc, hp]
  rw [e, h.prs]
/-! ### the one leaf of all -/
theorem can_all {S : List (Int × Int)} {w : Nat} (h : ct S 0 (0 + H2 w) = H2 w) (hw : 1 ≤ w) : can S w 0 [] = [[42]] := by
  rw [can_full h]
  unfold leaf
  rw [if_neg (by omega)]
  rfl
theorem star_eq {ys : List Str} (h : ys.map tl = [[42]]) : ys = [("*" : Str)] := map_tl_inj (by rw [h, List.map_cons, tlStar]; rfl)
theorem Tile.all {T : List (Int × Int)} {w : Nat} (h : Tile 0 T (H2 w)) : G.ct T 0 (0 + H2 w) = H2 w := by
  rw [h.ct]
  have := H2_pos w
  omega
theorem prs_tile : ∀ {l : List Int} {a z : Int}, (a :: l).Pairwise (· < ·) → (a :: l).getLast? = some z → Tile a (prsL (a :: l)) z
  | [], a, z, _, hz => Option.some.inj hz
  | b :: l, a, z, hp, hz => by
    obtain ⟨h1, h2⟩ := List.pairwise_cons.mp hp
    refine ⟨rfl, h1 b (List.mem_cons_self ..), prs_tile h2 ?_⟩
    rw [List.getLast?_cons_cons] at hz
    exact hz
theorem parts_tile {w : Nat} {S : List (Int × Int)} (h : SpOk w S) : Tile 0 (prsL (edgesOf w S)) (H2 w) := by
  obtain ⟨l, e1, _, _, e4, _⟩ := edges_facts h
  have hs := ssort_sorted ([0, ((2 ^ w : Nat) : Int)] ++ flat2 S)
  change (edgesOf w S).Pairwise (· < ·) at hs
  rw [e1] at hs ⊢
  exact prs_tile hs e4
/-! ### an address in spans -/
theorem cn1_at (s : Int × Int) (n : Int) : cn1 s n (n + 1) = if ((decide (s.1 ≤ n)) && (decide (n < s.2))) = true then 1 else 0 := by
  unfold cn1
  by_cases h : s.1 ≤ n ∧ n < s.2
  · rw [decide_eq_true h.1, decide_eq_true h.2, if_pos (show (true && true) = true from rfl)]
    omega
  · rw [if_neg (by rw [Bool.and_eq_true, decide_eq_true_iff, decide_eq_true_iff]; exact h)]
    omega
end G
/-! Plain laws: how the signs of two patterns stand to one another. -/
namespace G
open PySem PySem.Spec PyProof.Rows L2 TL
theorem signs_cmp : ∀ (u v : List Nat), Bits u → Bits v → (∃ r, v = u ++ r) ∨ (∃ r, r ≠ [] ∧ u = v ++ r) ∨ Apart u v ∨ Apart v u
  | [], v, _, _ => .inl ⟨v, rfl⟩
  | a :: u, [], _, _ => .inr (.inl ⟨a :: u, by simp, rfl⟩)
  | a :: u, b :: v, hu, hv => by
    have ha := isB_iff.mp (hu a (List.mem_cons_self ..))
    have hb := isB_iff.mp (hv b (List.mem_cons_self ..))
    have diff : a ≠ b → (a = 48 ∧ b = 49) ∨ (b = 48 ∧ a = 49) := fun h => by omega
    by_cases h : a = b
    · subst h
      rcases signs_cmp u v (fun c hc => hu c (List.mem_cons_of_mem _ hc)) (fun c hc => hv c (List.mem_cons_of_mem _ hc)) with ⟨r, rfl⟩ | ⟨r, h1, rfl⟩ | ⟨c, p, q, rfl, rfl⟩ | ⟨c, p, q, rfl, rfl⟩
      · exact .inl ⟨r, rfl⟩
      · exact .inr (.inl ⟨r, h1, rfl⟩)
      · exact .inr (.inr (.inl ⟨a :: c, p, q, rfl, rfl⟩))
      · exact .inr (.inr (.inr ⟨a :: c, p, q, rfl, rfl⟩))
    · rcases diff h with ⟨rfl, rfl⟩ | ⟨rfl, rfl⟩
      · exact .inr (.inr (.inl ⟨[], u, v, rfl, rfl⟩))
      · exact .inr (.inr (.inr ⟨[], v, u, rfl, rfl⟩))
theorem spB_lt (w : Nat) (u : List Nat) : (spB w u).1 < (spB w u).2 := by
  unfold spB
  have := H2_pos (w - u.length)
  show beg u _ < beg u _ + H2 _
  omega
/-- what goes on from some signs lies within -/
theorem spB_nest {w : Nat} {u r : List Nat} (h : (u ++ r).length ≤ w) : (spB w u).1 ≤ (spB w (u ++ r)).1 ∧ (spB w (u ++ r)).2 ≤ (spB w u).2 := by
  rw [List.length_append] at h
  have hr := wr_lt r
  have e1 : beg (u ++ r) (w - (u ++ r).length) = ((wr u * 2 ^ (w - u.length) + wr r * 2 ^ (w - (u ++ r).length) : Nat) : Int) := by
    unfold beg
    rw [wr_app, List.length_append, Nat.add_mul, Nat.mul_assoc, ← Nat.pow_add, show r.length + (w - (u.length + r.length)) = w - u.length by omega]
  have e2 : 2 ^ r.length * 2 ^ (w - (u ++ r).length) = 2 ^ (w - u.length) := by
    rw [← Nat.pow_add, List.length_append, show r.length + (w - (u.length + r.length)) = w - u.length by omega]
  have e3 : (wr r + 1) * 2 ^ (w - (u ++ r).length) ≤ 2 ^ r.length * 2 ^ (w - (u ++ r).length) := Nat.mul_le_mul_right _ hr
  rw [e2, Nat.add_mul, Nat.one_mul] at e3
  unfold spB
  rw [e1]
  show ((wr u * 2 ^ (w - u.length) : Nat) : Int) ≤ _ ∧ _ + ((2 ^ (w - (u ++ r).length) : Nat) : Int) ≤ ((wr u * 2 ^ (w - u.length) : Nat) : Int) + ((2 ^ (w - u.length) : Nat) : Int)
  generalize 2 ^ (w - (u ++ r).length) = x at *
  generalize wr r * x = y at *
  generalize 2 ^ (w - u.length) = z at *
  generalize wr u * z = t at *
  omega
theorem spB_apart {w : Nat} {u v : List Nat} (h : Apart u v) (hu : u.length ≤ w) (hv : v.length ≤ w) : (spB w u).2 ≤ (spB w v).1 := by
  obtain ⟨c, p, q, rfl, rfl⟩ := h
  have e1 : c ++ 48 :: p = (c ++ [48]) ++ p := by simp
  have e2 : c ++ 49 :: q = (c ++ [49]) ++ q := by simp
  rw [e1] at hu ⊢
  rw [e2] at hv ⊢
  have h1 := (spB_nest (w := w) (u := c ++ [48]) (r := p) hu).2
  have h2 := (spB_nest (w := w) (u := c ++ [49]) (r := q) hv).1
  have hl : c.length + 1 ≤ w := by rw [List.length_append, List.length_append] at hu; have : [48].length = 1 := rfl; omega
  have k1 : (spB w (c ++ [48])).2 = (spB w (c ++ [49])).1 := by
    rw [spB_at (j := w - (c.length + 1)) (by rw [List.length_append]; show c.length + 1 + _ = _; omega), spB_at (j := w - (c.length + 1)) (by rw [List.length_append]; show c.length + 1 + _ = _; omega)]
    show beg (c ++ [48]) _ + H2 _ = beg (c ++ [49]) _
    rw [beg0, beg1]
  omega
/-- the second goes on from the first, or is greater at a sign -/
def Ord (u v : List Nat) : Prop := (∃ r, v = u ++ r) ∨ Apart u v
theorem lex_app {a b : Nat} (h : a < b) {x y : List Nat} : ∀ c : List Nat, c ++ a :: x < c ++ b :: y
  | [] => List.Lex.rel h
  | _ :: c => List.Lex.cons (lex_app h c)
theorem ord_of_le {w : Nat} {u v : List Nat} (hu : Bits u ∧ u.length ≤ w) (hv : Bits v ∧ v.length ≤ w) (hle : patL w u ≤ patL w v) : Ord u v := by
  rcases signs_cmp u v hu.1 hv.1 with ⟨r, rfl⟩ | ⟨r, h1, rfl⟩ | h | ⟨c, p, q, rfl, rfl⟩
  · exact .inl ⟨r, rfl⟩
  · exfalso
    cases r with
    | nil => exact h1 rfl
    | cons d r =>
      have hd := isB_iff.mp (hu.1 d (List.mem_append.mpr (.inr (List.mem_cons_self ..))))
      have hl := hu.2
      rw [List.length_append, List.length_cons] at hl
      refine List.not_le.mpr ?_ hle
      unfold patL
      rw [if_pos (show v.length < w by omega), List.append_assoc]
      exact lex_app (by omega) v
  · exact .inr h
  · exfalso
    refine List.not_le.mpr ?_ hle
    unfold patL
    rw [List.append_assoc, List.append_assoc]
    exact lex_app (by decide) c
theorem Ord.span {w : Nat} {u v : List Nat} (hu : u.length ≤ w) (hv : v.length ≤ w) (h : Ord u v) : ((spB w u).1 ≤ (spB w v).1 ∧ (spB w v).2 ≤ (spB w u).2) ∨ (spB w u).2 ≤ (spB w v).1 := by
  rcases h with ⟨r, rfl⟩ | h
  · exact .inl (spB_nest hv)
  · exact .inr (spB_apart h hu hv)
theorem any_span {w : Nat} {u v : List Nat} (hu : Bits u ∧ u.length ≤ w) (hv : Bits v ∧ v.length ≤ w) :
    ((spB w u).1 ≤ (spB w v).1 ∧ (spB w v).2 ≤ (spB w u).2) ∨ ((spB w v).1 ≤ (spB w u).1 ∧ (spB w u).2 ≤ (spB w v).2) ∨ (spB w u).2 ≤ (spB w v).1 ∨ (spB w v).2 ≤ (spB w u).1 := by
  rcases signs_cmp u v hu.1 hv.1 with ⟨r, rfl⟩ | ⟨r, _, rfl⟩ | h | h
  · exact .inl (spB_nest hv.2)
  · exact .inr (.inl (spB_nest hu.2))
  · exact .inr (.inr (.inl (spB_apart h hu.2 hv.2)))
  · exact .inr (.inr (.inr (spB_apart h hv.2 hu.2)))
/-! ### what a pattern's text is -/
def patB (cs : List Nat) (w : Int) : Bool :=
  let o : Bool := decide (cs.drop (cs.length - 1) = [42])
  let bits := cs.take (cs.length - (if o then 1 else 0))
  if bits.all isB then (if o then decide ((bits.length : Int) < w) else decide ((bits.length : Int) = w)) else false
theorem patB_pat {w : Nat} {u : List Nat} (hu : Bits u) (hl : u.length ≤ w) : patB (patL w u) (w : Int) = true := by
  have hall : u.all isB = true := List.all_eq_true.mpr hu
  unfold patL
  by_cases h : u.length < w
  · rw [if_pos h]
    have e1 : (u ++ [42]).drop ((u ++ [42]).length - 1) = [42] := by rw [List.length_append]; exact List.drop_left
    have e2 : (u ++ [42]).take ((u ++ [42]).length - 1) = u := by rw [List.length_append]; exact List.take_left
    have e3 : decide ((u ++ [42]).drop ((u ++ [42]).length - 1) = [42]) = true := decide_eq_true e1
    unfold patB
    simp only [e3, if_true, e2, hall]
    exact decide_eq_true (by omega)
  · rw [if_neg h, List.append_nil]
    have e1 : ¬ u.drop (u.length - 1) = [42] := fun z => hu.no42 (List.mem_of_mem_drop (show 42 ∈ u.drop (u.length - 1) by rw [z]; exact List.mem_singleton.mpr rfl))
    have e3 : decide (u.drop (u.length - 1) = [42]) = false := decide_eq_false e1
    have e2 : u.take (u.length - 0) = u := List.take_length
    unfold patB
    rw [e3]
    show (if (u.take (u.length - 0)).all isB = true then decide (((u.take (u.length - 0)).length : Int) = (w : Int)) else false) = true
    rw [e2, hall, if_pos rfl]
    exact decide_eq_true (by omega)
end G
namespace K07
open PySem PySem.Spec PyProof.Rows L2 TL G
def topS (i : Nat) : Stmt := PySem.Challenge.pw_wishnet_k07_whole_order_of_patterns.main.body.getD i (.Pass ⟨0, 0, 0, 0⟩)
abbrev s_bits_of : Stmt := topS 3
abbrev s_is_pattern : Stmt := topS 4
abbrev s_span_of : Stmt := topS 5
abbrev s_has : Stmt := topS 6
abbrev s_l_bag : Stmt := topS 8
abbrev s_l_draw : Stmt := topS 9
abbrev s_l_bits : Stmt := topS 10
abbrev s_l_worth : Stmt := topS 11
abbrev s_l_size : Stmt := topS 12
abbrev s_l_one : Stmt := topS 13
abbrev s_l_some : Stmt := topS 14
abbrev s_l_nested : Stmt := topS 15
abbrev s_l_chain_right : Stmt := topS 16
abbrev s_law : Stmt := topS 17
structure Txt (K : PySem.W.Frag) (mg : Str → Option Value) where
  a_bits_of : Addr
  d_bits_of : FuncData
  F_bits_of : FnP K "bits_of" s_bits_of a_bits_of d_bits_of
  g_bits_of : mg "bits_of" = some (.ref a_bits_of)
  a_is_pattern : Addr
  d_is_pattern : FuncData
  F_is_pattern : FnP K "is_pattern" s_is_pattern a_is_pattern d_is_pattern
  g_is_pattern : mg "is_pattern" = some (.ref a_is_pattern)
  a_span_of : Addr
  d_span_of : FuncData
  F_span_of : FnP K "span_of" s_span_of a_span_of d_span_of
  g_span_of : mg "span_of" = some (.ref a_span_of)
  a_has : Addr
  d_has : FuncData
  F_has : FnP K "has" s_has a_has d_has
  g_has : mg "has" = some (.ref a_has)
  a_l_bag : Addr
  d_l_bag : FuncData
  F_l_bag : FnP K "_law_bag" s_l_bag a_l_bag d_l_bag
  g_l_bag : mg "_law_bag" = some (.ref a_l_bag)
  a_l_draw : Addr
  d_l_draw : FuncData
  F_l_draw : FnP K "_law_draw" s_l_draw a_l_draw d_l_draw
  g_l_draw : mg "_law_draw" = some (.ref a_l_draw)
  a_l_bits : Addr
  d_l_bits : FuncData
  F_l_bits : FnP K "_law_bits" s_l_bits a_l_bits d_l_bits
  g_l_bits : mg "_law_bits" = some (.ref a_l_bits)
  a_l_worth : Addr
  d_l_worth : FuncData
  F_l_worth : FnP K "_law_worth" s_l_worth a_l_worth d_l_worth
  g_l_worth : mg "_law_worth" = some (.ref a_l_worth)
  a_l_size : Addr
  d_l_size : FuncData
  F_l_size : FnP K "_law_size" s_l_size a_l_size d_l_size
  g_l_size : mg "_law_size" = some (.ref a_l_size)
  a_l_one : Addr
  d_l_one : FuncData
  F_l_one : FnP K "_law_one" s_l_one a_l_one d_l_one
  g_l_one : mg "_law_one" = some (.ref a_l_one)
  a_l_some : Addr
  d_l_some : FuncData
  F_l_some : FnP K "_law_some" s_l_some a_l_some d_l_some
  g_l_some : mg "_law_some" = some (.ref a_l_some)
  a_l_nested : Addr
  d_l_nested : FuncData
  F_l_nested : FnP K "_law_nested" s_l_nested a_l_nested d_l_nested
  g_l_nested : mg "_law_nested" = some (.ref a_l_nested)
  a_l_chain_right : Addr
  d_l_chain_right : FuncData
  F_l_chain_right : FnP K "_law_chain_right" s_l_chain_right a_l_chain_right d_l_chain_right
  g_l_chain_right : mg "_law_chain_right" = some (.ref a_l_chain_right)
  a_law : Addr
  d_law : FuncData
  F_law : FnP K "law" s_law a_law d_law
  g_law : mg "law" = some (.ref a_law)
  n_abs : mg "abs" = none
  n_all : mg "all" = none
  n_bool : mg "bool" = none
  n_int : mg "int" = none
  n_isinstance : mg "isinstance" = none
  n_len : mg "len" = none
  n_list : mg "list" = none
  n_range : mg "range" = none
  n_sorted : mg "sorted" = none
  n_str : mg "str" = none
  n_tuple : mg "tuple" = none
  n_zip : mg "zip" = none
  t_BITS : Tok
  k_BITS : mg "BITS" = some (.str "01" t_BITS)
  t_STAR : Tok
  k_STAR : mg "STAR" = some (.str "*" t_STAR)
/-! ### the bag -/
structure BOk (b : Bag) : Prop where
  lo : 0 ≤ b.seed
  hi : b.seed < 2147483648
  len : b.cells.length ≤ 63
abbrev N_l_bag : List Str := ["_law_script", "_law_seed", "_law_cell"]
theorem sc_l_bag : FnScope N_l_bag ["_law_script"] (defScope s_l_bag) := ⟨rfl, rfl, rfl, by decide +kernel, rfl, by decide +kernel, by decide +kernel⟩
def sp_l_bag (K : PySem.W.Frag) : Sp := fun vs H Q _ => ∃ (a : Addr) (ns : List Int), vs = [.ref a] ∧ SqL K H a (ns.map V.int) ∧ ns.length ≤ 63 ∧ (∀ (B C : Addr) (b : Bag) (F H' : Hp), Same F H' → BagAt F H' B C b → BOk b → Q (.ref B) H')
/-! ### the draw -/
def skip0 : List Int → Nat → Nat
  | [], k => k
  | x :: r, k => if x = 0 then skip0 r (k + 1) else k
def stir (s c : Int) : Int := (s ^ 3 + 48271 * s + 2039 * c + 7) % 2147483647
def m_l_draw (b : Bag) (n : Int) : Option (Int × Bag) :=
  if (0 < n ∧ n.natAbs.log2 < 9000) ∧ (0 ≤ b.seed ∧ b.seed < 2147483648 ∧ b.cells.length ≤ sizeLine) then
    match b.cells[skip0 (b.cells.drop b.at_) b.at_]? with
    | some x => some (x % n, { b with at_ := skip0 (b.cells.drop b.at_) b.at_, cells := b.cells.set (skip0 (b.cells.drop b.at_) b.at_) (x / n) })
    | none => some (stir b.seed (b.cnt + 1) / 16 % n, { b with at_ := skip0 (b.cells.drop b.at_) b.at_, seed := stir b.seed (b.cnt + 1), cnt := b.cnt + 1 })
  else none
theorem BagAt.put {F H : Hp} {B C : Addr} {b b' : Bag} (a : BagAt F H B C b) (e : b'.cells = b.cells) : BagAt F (upd H B (.lst [.ref C, .int (b'.at_ : Nat), .int b'.seed, .int b'.cnt])) B C b' :=
  ⟨upd_same, by rw [upd_ne a.ne.symm, a.hC, e], a.ne, a.fB, a.fC⟩
theorem BagAt.cell {F H : Hp} {B C : Addr} {b : Bag} (a : BagAt F H B C b) (cs : List Int) : BagAt F (upd H C (.lst (cs.map V.int))) B C { b with cells := cs } :=
  ⟨by rw [upd_ne a.ne, a.hB], upd_same, a.ne, a.fB, a.fC⟩
theorem atI_map {xs : List Int} {k : Nat} {x : Int} (h : xs[k]? = some x) : atI (xs.map V.int) (k : Nat) = some (.int x) := atI_nat (by rw [List.getElem?_map, h]; rfl)
theorem ixN_nat {n k : Nat} (h : k < n) : ixN n (k : Nat) = some k := by unfold ixN; simp; omega
abbrev N_l_draw : List Str := ["_law_bag_here", "_law_many", "_law_left"]
theorem sc_l_draw : FnScope N_l_draw ["_law_bag_here", "_law_many"] (defScope s_l_draw) := ⟨rfl, rfl, rfl, by decide +kernel, rfl, by decide +kernel, by decide +kernel⟩
def sp_l_draw (K : PySem.W.Frag) : Sp := fun vs H Q _ => ∃ (F : Hp) (B C : Addr) (b : Bag) (y_many : Int) (r : Int) (b' : Bag), vs = [.ref B, .int y_many] ∧ Same F H ∧ BagAt F H B C b ∧ m_l_draw b y_many = some (r, b') ∧ (∀ F' H', Gr (Bc B C) F H F' H' → BagAt F' H' B C b' → Q (.int r) H')

/-! ### bits_of -/
def m_bits_of (x_pattern : Str) : Str :=
  (partS x_pattern ("*" : Str)).a
abbrev N_bits_of : List Str := ["pattern"]
theorem sc_bits_of : FnScope N_bits_of ["pattern"] (defScope s_bits_of) := ⟨rfl, rfl, rfl, by decide +kernel, rfl, by decide +kernel, by decide +kernel⟩
def sp_bits_of (K : PySem.W.Frag) : Sp := fun vs H Q _ => ∃ (x_pattern : Str), vs = [.str x_pattern] ∧ GS x_pattern ∧ (∀ F' H', Gr M0 H H F' H' → GS (m_bits_of x_pattern) → Q (.str (m_bits_of x_pattern)) H')
/-! ### is_pattern -/
def m_is_pattern_c1  : List Nat → List Str
  | [] => []
  | e26 :: xs_ => if (!decide (e26 ∈ (("01" : Str)).cps.toList)) then (sgn e26) :: m_is_pattern_c1  xs_ else m_is_pattern_c1  xs_
def m_is_pattern (x_text : Str) (x_width : Int) : Option Bool :=
  Option.bind (some (eqS (cutS x_text (some (-(1 : Int))) none) ("*" : Str))) fun x_is_open1 =>
  Option.bind (some (cutS x_text none (some (((x_text.length : Nat) : Int) - (toI x_is_open1))))) fun x_bits4 =>
  if (!eqD (m_is_pattern_c1  (x_bits4).cps.toList) ([] : (List Str))) then (some false) else (some (if x_is_open1 then (decide (((x_bits4.length : Nat) : Int) < x_width)) else (eqI ((x_bits4.length : Nat) : Int) x_width)))
abbrev N_is_pattern : List Str := ["text", "width", "is_open", "bits", "sign"]
theorem sc_is_pattern : FnScope N_is_pattern ["text", "width"] (defScope s_is_pattern) := ⟨rfl, rfl, rfl, by decide +kernel, rfl, by decide +kernel, by decide +kernel⟩
def sp_is_pattern (K : PySem.W.Frag) : Sp := fun vs H Q _ => ∃ (x_text : Str) (x_width : Int) (r : Bool), vs = [.str x_text, .int x_width] ∧ GS x_text ∧ m_is_pattern x_text x_width = some r ∧ (∀ F' H', Gr M0 H H F' H' → Q (.bl r) H')
/-! ### span_of -/
def m_span_of_l1  : List Nat → Int → (Option (Int))
  | [], x_number => some x_number
  | e23 :: xs_, x_number =>
    Option.bind (some (((2 : Int) * x_number) + (toI (eqS (sgn e23) ("1" : Str))))) fun x_number25 =>
    m_span_of_l1  xs_ x_number25
def m_span_of (x_pattern : Str) (x_width : Int) : Option (Int × Int) :=
  Option.bind (some (m_bits_of x_pattern)) fun x_bits7 =>
  Option.bind (m_span_of_l1  (x_bits7).cps.toList (0 : Int)) fun x_number11 =>
  Option.bind (shlI (1 : Int) (x_width - ((x_bits7.length : Nat) : Int))) fun t36 =>
  Option.bind (mulI x_number11 t36) fun t41 =>
  Option.bind (mulI (x_number11 + (1 : Int)) t36) fun t44 =>
  some (t41, t44)
abbrev N_span_of : List Str := ["pattern", "width", "bits", "number", "sign", "size"]
theorem sc_span_of : FnScope N_span_of ["pattern", "width"] (defScope s_span_of) := ⟨rfl, rfl, rfl, by decide +kernel, rfl, by decide +kernel, by decide +kernel⟩
def sp_span_of (K : PySem.W.Frag) : Sp := fun vs H Q _ => ∃ (F : Hp) (x_pattern : Str) (x_width : Int) (r : (Int × Int)), vs = [.str x_pattern, .int x_width] ∧ Same F H ∧ GS x_pattern ∧ m_span_of x_pattern x_width = some r ∧ (∀ v F' H', Gr M0 F H F' H' → R K F' v r → Q v H')
/-! ### has -/
def m_has (x_pattern : Str) (x_address : Int) (x_width : Int) : Option Bool :=
  Option.bind (m_span_of x_pattern x_width) fun r1 =>
  some ((decide (r1.1 ≤ x_address)) && (decide (x_address < r1.2)))
abbrev N_has : List Str := ["pattern", "address", "width", "first", "behind"]
theorem sc_has : FnScope N_has ["pattern", "address", "width"] (defScope s_has) := ⟨rfl, rfl, rfl, by decide +kernel, rfl, by decide +kernel, by decide +kernel⟩
def sp_has (K : PySem.W.Frag) : Sp := fun vs H Q _ => ∃ (x_pattern : Str) (x_address : Int) (x_width : Int) (r : Bool), vs = [.str x_pattern, .int x_address, .int x_width] ∧ GS x_pattern ∧ m_has x_pattern x_address x_width = some r ∧ (∀ F' H', Gr M0 H H F' H' → Q (.bl r) H')
/-! ### l_bits -/
def m_l_bits_c1  : List Int → Bag → Option (List Str × Bag)
  | [], b => some ([], b)
  | e82 :: xs_, b =>
    bind2 (m_l_draw b (2 : Int)) fun r84 b85 =>
    Option.bind (codeAt ("01" : Str) r84) fun c94 =>
    bind2 (m_l_bits_c1  xs_ b85) fun rest97 b98 => some ((sgn c94) :: rest97, b98)
def m_l_bits (b : Bag) (y_size_here : Int) : Option (Str × Bag) :=
  bind2 (m_l_draw b (4 : Int)) fun r1 b2 =>
  if (eqI r1 (0 : Int)) then (bind2 (m_l_draw b2 (2 : Int)) fun r10 b11 =>
 Option.bind (codeAt ("01" : Str) r10) fun c19 =>
 bind2 (if (decide ((0 : Int) < y_size_here)) then (Option.bind (mulS (sgn c19) y_size_here) fun t26 => bind2 (m_l_draw b11 (2 : Int)) fun r29 b30 => Option.bind (codeAt ("01" : Str) r29) fun c39 => Option.bind (catS t26 (sgn c39)) fun t41 => some ((cutS t41 (some (1 : Int)) (some (y_size_here + (1 : Int)))), b30)) else ( some (("" : Str), b11))) fun c21 b22 =>
 some (c21, b22)) else (Option.bind (rangeO1 y_size_here) fun l53 =>
 bind2 (m_l_bits_c1  l53 b2) fun l62 b63 =>
 Option.bind (joinS ("" : Str) l62) fun t118 =>
 some (t118, b63))
abbrev N_l_bits : List Str := ["_law_bag_here", "_law_size_here", "_law_sign", "_law_k"]
theorem sc_l_bits : FnScope N_l_bits ["_law_bag_here", "_law_size_here"] (defScope s_l_bits) := ⟨rfl, rfl, rfl, by decide +kernel, rfl, by decide +kernel, by decide +kernel⟩
def sp_l_bits (K : PySem.W.Frag) : Sp := fun vs H Q _ => ∃ (F : Hp) (B C : Addr) (b : Bag) (y_size_here : Int) (r : Str) (b' : Bag), vs = [.ref B, .int y_size_here] ∧ Same F H ∧ BagAt F H B C b ∧ m_l_bits b y_size_here = some (r, b') ∧ (∀ F' H', Gr (Bc B C) F H F' H' → BagAt F' H' B C b' → GS r → Q (.str r) H')
/-! ### l_worth -/
def m_l_worth_l1  : List Nat → Int → (Option (Int))
  | [], y_found => some y_found
  | e13 :: xs_, y_found =>
    Option.bind (some ((y_found * (2 : Int)) + (toI (eqS (sgn e13) ("1" : Str))))) fun y_found15 =>
    m_l_worth_l1  xs_ y_found15
def m_l_worth (y_bits_here : Str) : Option Int :=
  Option.bind (m_l_worth_l1  (y_bits_here).cps.toList (0 : Int)) fun y_found1 =>
  some y_found1
abbrev N_l_worth : List Str := ["_law_bits_here", "_law_found", "_law_sign"]
theorem sc_l_worth : FnScope N_l_worth ["_law_bits_here"] (defScope s_l_worth) := ⟨rfl, rfl, rfl, by decide +kernel, rfl, by decide +kernel, by decide +kernel⟩
def sp_l_worth (K : PySem.W.Frag) : Sp := fun vs H Q _ => ∃ (y_bits_here : Str) (r : Int), vs = [.str y_bits_here] ∧ GS y_bits_here ∧ m_l_worth y_bits_here = some r ∧ (∀ F' H', Gr M0 H H F' H' → Q (.int r) H')
/-! ### l_size -/
def m_l_size (b : Bag)  : Option (Int × Bag) :=
  bind2 (m_l_draw b (6 : Int)) fun r1 b2 =>
  bind2 (m_l_draw b2 (30 : Int)) fun r10 b11 =>
  bind2 (m_l_draw b11 (3 : Int)) fun r19 b20 =>
  bind2 (m_l_draw b20 (4 : Int)) fun r35 b36 =>
  Option.bind (atI ([((1 : Int) + r1), ((1 : Int) + r10), (30 : Int), ((1 : Int) + r19)] : List Int) r35) fun t45 =>
  some (t45, b36)
abbrev N_l_size : List Str := ["_law_bag_here"]
theorem sc_l_size : FnScope N_l_size ["_law_bag_here"] (defScope s_l_size) := ⟨rfl, rfl, rfl, by decide +kernel, rfl, by decide +kernel, by decide +kernel⟩
def sp_l_size (K : PySem.W.Frag) : Sp := fun vs H Q _ => ∃ (F : Hp) (B C : Addr) (b : Bag) (r : Int) (b' : Bag), vs = [.ref B] ∧ Same F H ∧ BagAt F H B C b ∧ m_l_size b  = some (r, b') ∧ (∀ F' H', Gr (Bc B C) F H F' H' → BagAt F' H' B C b' → Q (.int r) H')
/-! ### l_one -/
def m_l_one (b : Bag) (y_size_here : Int) (y_some_here : (List Str)) : Option (Str × Bag) :=
  bind2 (m_l_draw b (y_size_here + (1 : Int))) fun r1 b2 =>
  bind2 (m_l_bits b2 r1) fun r10 b11 =>
  bind2 (m_l_draw b11 (5 : Int)) fun r19 b20 =>
  bind2 (if ((!eqD y_some_here ([] : (List Str))) && (decide (r19 < (3 : Int)))) then (bind2 (m_l_draw b20 (((y_some_here).length : Nat) : Int)) fun r52 b53 =>
 Option.bind (atI y_some_here r52) fun t62 =>
 Option.bind (some (Txt.stripChars t62 ("*" : Str))) fun y_near68 =>
 Option.bind (some (dgetS [(("0" : Str), ("1" : Str)), (("1" : Str), ("0" : Str))] (cutS y_near68 (some (-(1 : Int))) none) ("" : Str))) fun y_turned79 =>
 bind2 (m_l_draw b53 (((y_near68.length : Nat) : Int) + (1 : Int))) fun r83 b84 =>
 bind2 (m_l_draw b84 (2 : Int)) fun r93 b94 =>
 Option.bind (codeAt ("01" : Str) r93) fun c103 =>
 Option.bind (catS y_near68 (sgn c103)) fun t105 =>
 Option.bind (catS (cutS y_near68 none (some (-(1 : Int)))) y_turned79) fun t108 =>
 Option.bind (atI ([(cutS y_near68 none (some r83)), t105, t108] : List Str) r19) fun t120 =>
 some (t120, b94)) else (some (r10, b20))) fun y_bits_here28 b29 =>
  bind2 (if (eqI r19 (4 : Int)) then (bind2 (m_l_bits b29 (y_size_here - ((y_bits_here28.length : Nat) : Int))) fun r140 b141 =>
 Option.bind (catS y_bits_here28 r140) fun t149 =>
 some (t149, b141)) else (some (y_bits_here28, b29))) fun y_bits_here137 b138 =>
  Option.bind (some (cutS y_bits_here137 none (some y_size_here))) fun y_bits_here163 =>
  Option.bind (mulS ("*" : Str) (toI (decide (((y_bits_here163.length : Nat) : Int) < y_size_here)))) fun t167 =>
  Option.bind (catS y_bits_here163 t167) fun t170 =>
  some (t170, b138)
abbrev N_l_one : List Str := ["_law_bag_here", "_law_size_here", "_law_some_here", "_law_bits_here", "_law_pick", "_law_near", "_law_turned", "_law_cut"]
theorem sc_l_one : FnScope N_l_one ["_law_bag_here", "_law_size_here", "_law_some_here"] (defScope s_l_one) := ⟨rfl, rfl, rfl, by decide +kernel, rfl, by decide +kernel, by decide +kernel⟩
def sp_l_one (K : PySem.W.Frag) : Sp := fun vs H Q _ => ∃ (F : Hp) (B C : Addr) (b : Bag) (y_size_here : Int) (p_y_some_here : Addr) (ws_y_some_here : List V) (y_some_here : (List Str)) (r : Str) (b' : Bag), vs = [.ref B, .int y_size_here, .ref p_y_some_here] ∧ Same F H ∧ BagAt F H B C b ∧ SqL K H p_y_some_here ws_y_some_here ∧ ws_y_some_here.length ≤ sizeLine ∧ RL K F ws_y_some_here y_some_here ∧ ¬ (Bc B C) p_y_some_here ∧ m_l_one b y_size_here y_some_here = some (r, b') ∧ (∀ F' H', Gr (Bc B C) F H F' H' → BagAt F' H' B C b' → GS r → Q (.str r) H')
/-! ### l_some -/
def m_l_some_l1 (y_size_here : Int) : List Int → (List Str) → Bag → (Option ((List Str) × Bag))
  | [], y_found, b => some (y_found, b)
  | e75 :: xs_, y_found, b =>
    bind2 (m_l_one b y_size_here y_found) fun r77 b78 =>
    Option.bind (appL y_found r77) fun t87 =>
    m_l_some_l1 y_size_here xs_ t87 b78
def m_l_some (b : Bag) (y_size_here : Int) (y_most : Int) : Option ((List Str) × Bag) :=
  bind2 (m_l_draw b (6 : Int)) fun r8 b9 =>
  bind2 (m_l_draw b9 (y_most + (1 : Int))) fun r18 b19 =>
  bind2 (m_l_draw b19 (2 : Int)) fun r37 b38 =>
  Option.bind (atI ([r8, r18] : List Int) r37) fun t48 =>
  Option.bind (rangeO1 t48) fun l53 =>
  bind2 (m_l_some_l1 y_size_here l53 ([] : (List Str)) b38) fun y_found56 b57 =>
  some (y_found56, b57)
abbrev N_l_some : List Str := ["_law_bag_here", "_law_size_here", "_law_most", "_law_found", "_law_k"]
theorem sc_l_some : FnScope N_l_some ["_law_bag_here", "_law_size_here", "_law_most"] (defScope s_l_some) := ⟨rfl, rfl, rfl, by decide +kernel, rfl, by decide +kernel, by decide +kernel⟩
def sp_l_some (K : PySem.W.Frag) : Sp := fun vs H Q _ => ∃ (F : Hp) (B C : Addr) (b : Bag) (y_size_here : Int) (y_most : Int) (r : (List Str)) (b' : Bag), vs = [.ref B, .int y_size_here, .int y_most] ∧ Same F H ∧ BagAt F H B C b ∧ m_l_some b y_size_here y_most = some (r, b') ∧ (∀ p ws F' H', Gr (Bc B C) F H F' H' → BagAt F' H' B C b' → H p = none → H' p = some (.lst ws) → F' p = none → ws.length ≤ sizeLine → RL K F' ws r → Q (.ref p) H')
/-! ### l_nested -/
def m_l_nested (y_one_here : Str) (y_other : Str) (y_size_here : Int) : Option Bool :=
  Option.bind (m_span_of y_one_here y_size_here) fun r1 =>
  Option.bind (m_span_of y_other y_size_here) fun r16 =>
  if ((decide (r1.1 ≤ r16.1)) && (decide (r16.2 ≤ r1.2))) then (Option.bind (m_has y_one_here r16.1 y_size_here) fun r41 =>
 Option.bind (if r41 then (Option.bind (m_has y_one_here (r16.2 - (1 : Int)) y_size_here) fun r53 => some (r53)) else some false) fun c48 =>
 some c48) else (if ((decide (r16.1 ≤ r1.1)) && (decide (r1.2 ≤ r16.2))) then (Option.bind (m_has y_other r1.1 y_size_here) fun r76 =>
 Option.bind (if r76 then (Option.bind (m_has y_other (r1.2 - (1 : Int)) y_size_here) fun r88 => some (r88)) else some false) fun c83 =>
 some c83) else (Option.bind (m_has y_one_here r16.1 y_size_here) fun r101 =>
 Option.bind (if r101 then some true else (Option.bind (m_has y_other r1.1 y_size_here) fun r113 => some (r113))) fun c108 =>
 if c108 then (some false) else (some ((decide (r1.2 ≤ r16.1)) || (decide (r16.2 ≤ r1.1))))))
abbrev N_l_nested : List Str := ["_law_one_here", "_law_other", "_law_size_here", "_law_first", "_law_behind", "_law_begun", "_law_ended"]
theorem sc_l_nested : FnScope N_l_nested ["_law_one_here", "_law_other", "_law_size_here"] (defScope s_l_nested) := ⟨rfl, rfl, rfl, by decide +kernel, rfl, by decide +kernel, by decide +kernel⟩
def sp_l_nested (K : PySem.W.Frag) : Sp := fun vs H Q _ => ∃ (y_one_here : Str) (y_other : Str) (y_size_here : Int) (r : Bool), vs = [.str y_one_here, .str y_other, .int y_size_here] ∧ GS y_one_here ∧ GS y_other ∧ m_l_nested y_one_here y_other y_size_here = some r ∧ (∀ F' H', Gr M0 H H F' H' → Q (.bl r) H')
/-! ### l_chain_right -/
def m_l_chain_right_c1 (y_number : Int) (y_size_here : Int) : List Str → Option (List Str)
  | [] => some []
  | e33 :: xs_ =>
    Option.bind (m_has e33 y_number y_size_here) fun r37 =>
    if r37 then (Option.bind (m_l_chain_right_c1 y_number y_size_here xs_) fun rest46 => some (e33 :: rest46)) else m_l_chain_right_c1 y_number y_size_here xs_
def m_l_chain_right_l2 (y_size_here : Int) : List (Str × Str) → (Option (Lp (Unit) (Bool)))
  | [] => some (.go ())
  | e93 :: xs_ =>
    if (neS (cutS e93.2 none (some (((e93.1.length : Nat) : Int) - (1 : Int)))) (cutS e93.1 none (some (-(1 : Int))))) then (some (.ret false)) else (if ((neS e93.1 e93.2) && (decide ((((Txt.stripChars e93.2 ("*" : Str)).length : Nat) : Int) < ((e93.1.length : Nat) : Int)))) then (some (.ret false)) else (Option.bind (m_span_of e93.1 y_size_here) fun r131 =>
 Option.bind (m_span_of e93.2 y_size_here) fun r148 =>
 if (decide ((r131.2 - r131.1) < (r148.2 - r148.1))) then (some (.ret false)) else (m_l_chain_right_l2 y_size_here xs_ )))
def m_l_chain_right (y_some_here : (List Str)) (y_number : Int) (y_size_here : Int) : Option Bool :=
  Option.bind (m_l_chain_right_c1 y_number y_size_here y_some_here) fun l5 =>
  bindL0 (m_l_chain_right_l2 y_size_here (List.zip l5 (cutL l5 (some (1 : Int)) none)) ) (some true) (fun r_ => some r_)
abbrev N_l_chain_right : List Str := ["_law_some_here", "_law_number", "_law_size_here", "_law_chain", "_law_one_here", "_law_other", "_law_first", "_law_behind", "_law_begun", "_law_ended"]
theorem sc_l_chain_right : FnScope N_l_chain_right ["_law_some_here", "_law_number", "_law_size_here"] (defScope s_l_chain_right) := ⟨rfl, rfl, rfl, by decide +kernel, rfl, by decide +kernel, by decide +kernel⟩
def sp_l_chain_right (K : PySem.W.Frag) : Sp := fun vs H Q _ => ∃ (p_y_some_here : Addr) (ws_y_some_here : List V) (y_some_here : (List Str)) (y_number : Int) (y_size_here : Int) (r : Bool), vs = [.ref p_y_some_here, .int y_number, .int y_size_here] ∧ SqL K H p_y_some_here ws_y_some_here ∧ ws_y_some_here.length ≤ sizeLine ∧ RL K H ws_y_some_here y_some_here ∧ ¬ M0 p_y_some_here ∧ m_l_chain_right y_some_here y_number y_size_here = some r ∧ (∀ F' H', Gr M0 H H F' H' → Q (.bl r) H')
/-! ### law -/
def m_law_c1 (y_size_here : Int) : List Str → Option (List (Int × Int))
  | [] => some []
  | e157 :: xs_ =>
    Option.bind (m_span_of e157 y_size_here) fun r161 =>
    Option.bind (m_law_c1 y_size_here xs_) fun rest177 => some (r161 :: rest177)
def m_law_c2  : List (Int × Int) → List (Int × Int)
  | [] => []
  | e262 :: xs_ => (e262.1, ((0 : Int) - e262.2)) :: m_law_c2  xs_
def m_law_c3 (y_size_here : Int) : List Str → Option (List Str)
  | [] => some []
  | e421 :: xs_ =>
    Option.bind (m_is_pattern e421 y_size_here) fun r425 =>
    if (!r425) then (Option.bind (m_law_c3 y_size_here xs_) fun rest443 => some (e421 :: rest443)) else m_law_c3 y_size_here xs_
def m_law_c5 (y_size_here : Int) (y_one_here : Str) : List Str → Option (List Str)
  | [] => some []
  | e566 :: xs_ =>
    Option.bind (m_l_nested y_one_here e566 y_size_here) fun r570 =>
    if (!r570) then (Option.bind (m_law_c5 y_size_here y_one_here xs_) fun rest581 => some (e566 :: rest581)) else m_law_c5 y_size_here y_one_here xs_
def m_law_l4 (y_size_here : Int) (y_some_here : (List Str)) : List Str → Bag → (Option (Lp (Bag) (Bool × Bag)))
  | [], b => some (.go b)
  | e522 :: xs_, b =>
    Option.bind (m_law_c5 y_size_here e522 y_some_here) fun l534 =>
    if (!eqD l534 ([] : (List Str))) then (some (.ret (false, b))) else (m_law_l4 y_size_here y_some_here xs_ b)
def m_law_l6 (y_size_here : Int) (y_some_here : (List Str)) : List Int → Bag → (Option (Lp (Bag) (Bool × Bag)))
  | [], b => some (.go b)
  | e644 :: xs_, b =>
    bind2 (m_l_draw b (((y_some_here).length : Nat) : Int)) fun r646 b647 =>
    Option.bind (atI y_some_here r646) fun t656 =>
    Option.bind (some (Txt.stripChars t656 ("*" : Str))) fun y_bits_here662 =>
    bind2 (m_l_bits b647 (y_size_here - ((y_bits_here662.length : Nat) : Int))) fun r666 b667 =>
    Option.bind (catS y_bits_here662 r666) fun t676 =>
    Option.bind (m_l_worth t676) fun r679 =>
    Option.bind (m_l_chain_right y_some_here r679 y_size_here) fun r688 =>
    if (!r688) then (some (.ret (false, b667))) else (m_law_l6 y_size_here y_some_here xs_ b667)
def m_law (b : Bag)  : Option (Bool × Bag) :=
  bind2 (m_l_size b ) fun r1 b2 =>
  bind2 (m_l_some b2 r1 (16 : Int)) fun r10 b11 =>
  bind2 (m_l_one b11 r1 (sortT r10)) fun r40 b41 =>
  Option.bind (conL (sortT r10) ([r40] : List Str)) fun t62 =>
  Option.bind (m_law_c1 r1 (sortT t62)) fun l117 =>
  if (!eqD (m_law_c2  l117) (sortP (m_law_c2  l117))) then (some (false, b41)) else (Option.bind (m_law_c3 r1 (sortT t62)) fun l375 =>
 if (!eqD l375 ([] : (List Str))) then (some (false, b41)) else (bindL1 (m_law_l4 r1 (sortT t62) (sortT t62) b41) (fun b507 => bindL1 (m_law_l6 r1 (sortT t62) (rangeL (0 : Int) 8) b507) (fun b627 => some (true, b627)) (fun r_ => some r_)) (fun r_ => some r_)))
abbrev N_law : List Str := ["_law_script", "_law_bag_here", "_law_size_here", "_law_some_here", "_law_ends", "_law_one_here", "_law_k", "_law_bits_here", "_law_number", "_law_first", "_law_behind", "_law_other"]
theorem sc_law : FnScope N_law ["_law_script"] (defScope s_law) := ⟨rfl, rfl, rfl, by decide +kernel, rfl, by decide +kernel, by decide +kernel⟩
def sp_law (K : PySem.W.Frag) : Sp := fun vs H Q _ => ∃ (a : Addr) (ns : List Int), vs = [.ref a] ∧ SqL K H a (ns.map V.int) ∧ ns.length ≤ 63 ∧ (∀ H', Q (.bl true) H')

end K07
namespace K07
open PySem PySem.Spec PyProof.Rows L2 TL G
theorem ok_bits_of {P : Program} {w : World} {K : PySem.W.Frag} {mg : Str → Option Value} {base : Heap} (T : Txt K mg) : FnOk P w K mg base CX0 1 T.a_bits_of T.d_bits_of ["pattern"] (sp_bits_of K) := by
  refine fd_ok T.F_bits_of sc_bits_of (fun vs H Q E h => ?_) (fun cdv A outer s H0 vs Q E hr h => ?_)
  · obtain ⟨_, rfl, _⟩ := h
    rfl
  · obtain ⟨x_pattern, rfl, gs_x_pattern, hQ⟩ := h
    refine ⟨_, (pss_one (ps_ret (pe_ix (ix_tupK (K := K)) (pe_partition (pv 0) (pe_glob (v := (V.str ("*" : Str))) rfl T.k_STAR ⟨_, rfl⟩)) pe_int (fun _ _ => rfl)))), ?_⟩
    have g0 : Gr M0 H0 H0 H0 H0 := Gr.refl (Same.refl _)
    unfold m_bits_of at hQ
    refine p_ret ?_
    refine ⟨(V.str x_pattern), rfl, ⟨_, rfl⟩, _, _, rfl, rfl, (by decide +kernel), (gs_x_pattern : GS x_pattern).len, fun p1 np2 => ?_⟩
    have sm3 := same_new (o := (.tup [.str (Txt.partition x_pattern ("*" : Str)).1, .str (Txt.partition x_pattern ("*" : Str)).2.1, .str (Txt.partition x_pattern ("*" : Str)).2.2])) (g0.noneF np2)
    have g4 := g0.frz (o := (.tup [.str (Txt.partition x_pattern ("*" : Str)).1, .str (Txt.partition x_pattern ("*" : Str)).2.1, .str (Txt.partition x_pattern ("*" : Str)).2.2])) np2
    have gp6 := GS.part (gs_x_pattern : GS x_pattern) (⟨by decide +kernel, by decide +kernel⟩ : GS ("*" : Str))
    have r5 : R K (upd H0 p1 (.tup [.str (Txt.partition x_pattern ("*" : Str)).1, .str (Txt.partition x_pattern ("*" : Str)).2.1, .str (Txt.partition x_pattern ("*" : Str)).2.2])) (.ref p1) ((partS x_pattern ("*" : Str)) : (T3 Str Str Str)) := R.mk3 fzT (.str _ gp6.1) (.str _ gp6.2.1) (.str _ gp6.2.2)
    obtain ⟨p7, v10, v11, v12, ev8, hS9, r13, r14, r15⟩ := R.p3_v r5
    obtain ⟨rfl, gs16⟩ := R.str_v r13
    obtain ⟨rfl, gs17⟩ := R.str_v r14
    obtain ⟨rfl, gs18⟩ := R.str_v r15
    refine ⟨p7, _, _, (V.str (partS x_pattern ("*" : Str)).a), ev8, rfl, (SqT_mono g4.fh hS9), rfl, (hQ _ _ g4 gs16)⟩
end K07
namespace K07
open PySem PySem.Spec PyProof.Rows L2 TL G
theorem ok_is_pattern {P : Program} {w : World} {K : PySem.W.Frag} {mg : Str → Option Value} {base : Heap} (T : Txt K mg) : FnOk P w K mg base CX0 1 T.a_is_pattern T.d_is_pattern ["text", "width"] (sp_is_pattern K) := by
  refine fd_ok T.F_is_pattern sc_is_pattern (fun vs H Q E h => ?_) (fun cdv A outer s H0 vs Q E hr h => ?_)
  · obtain ⟨_, _, _, rfl, _⟩ := h
    rfl
  · obtain ⟨x_text, x_width, r, rfl, gs_x_text, hm, hQ⟩ := h
    refine ⟨_, (pss_cons (ps_set (i := 2) sc_is_pattern.nd rfl (.inl rfl) (pe_cmpR op_eq (pe_slice sl_str (pv 0) (po_some (pe_un un_neg pe_int)) po_none) (pe_glob (v := (V.str ("*" : Str))) rfl T.k_STAR ⟨_, rfl⟩) (nomark _))) (pss_cons (ps_set (i := 3) sc_is_pattern.nd rfl (.inl rfl) (pe_slice sl_str (pv 0) po_none (po_some (pe_op op_sub (pe_callB call_len_str (by rfl) T.n_len (by decide +kernel) (pa_cons (pv 0) pa_nil)) (pe_callTy call_toI (by rfl) T.n_int (by decide +kernel) (pa_cons (pv 2) pa_nil)))))) (pss_cons (ps_if (pt_cmpR (op_neDK (K := K) hr.units) (pe_lc (own := [("sign", 4)]) rfl sc_is_pattern.nd (pi_str (pv 3)) (blkOk_by (own := [("sign", 4)]) (N := N_is_pattern) (sc := defScope s_is_pattern) (by decide +kernel)) (fun _ _ _ _ _ => (pg_name (i := 4) sc_is_pattern.nd rfl (Or.inl rfl) (.inr rfl))) (fun _ _ _ _ _ => (pts_one (pt_cmpR op_notIn_sign (pv 4) (pe_glob (v := (V.str ("01" : Str))) rfl T.k_BITS ⟨_, rfl⟩) rfl))) (fun _ _ _ _ _ => (pv 4))) (pe_lst pa_nil) (nomark _)) (pss_one (ps_ret pe_bl)) pss_nil) (pss_one (ps_ret (pe_ifExp (pt_val (pv 2)) (pe_cmpR op_lt (pe_callB call_len_str (by rfl) T.n_len (by decide +kernel) (pa_cons (pv 3) pa_nil)) (pv 1) (nomark _)) (pe_cmpR op_eq (pe_callB call_len_str (by rfl) T.n_len (by decide +kernel) (pa_cons (pv 3) pa_nil)) (pv 1) (nomark _)))))))), ?_⟩
    have g0 : Gr M0 H0 H0 H0 H0 := Gr.refl (Same.refl _)
    unfold m_is_pattern at hm
    refine p_seq ?_
    refine p_asg ?_
    refine ⟨(V.str x_text), rfl, _, rfl, _, rfl, _, rfl, (gs_x_text : GS x_text).len, rfl, ?_⟩
    obtain ⟨x_is_open1, hb2, hm⟩ := bnd hm
    have hx3 : (eqS (cutS x_text (some (-(1 : Int))) none) ("*" : Str)) = x_is_open1 := sjoin hb2
    refine p_nm (v' := (V.bl x_is_open1)) (congrArg V.bl hx3) ?_
    refine p_nx ?_
    refine p_seq ?_
    refine p_asg ?_
    refine ⟨(V.str x_text), rfl, (V.str x_text), rfl, _, rfl, (gs_x_text : GS x_text).len, (V.bl x_is_open1), rfl, _, rfl, _, _, rfl, rfl, _, rfl, _, rfl, (gs_x_text : GS x_text).len, ?_⟩
    obtain ⟨x_bits4, hb5, hm⟩ := bnd hm
    have hx6 : (cutS x_text none (some (((x_text.length : Nat) : Int) - (toI x_is_open1)))) = x_bits4 := sjoin hb5
    have gs7 : GS x_bits4 := hx6 ▸ ((GS.cut gs_x_text none (some (((x_text.length : Nat) : Int) - (toI x_is_open1)))) : GS (cutS x_text none (some (((x_text.length : Nat) : Int) - (toI x_is_open1)))))
    refine p_nm (v' := (V.str x_bits4)) (congrArg V.str hx6) ?_
    refine p_nx ?_
    refine p_seq ?_
    refine p_if ?_
    refine ⟨(V.str x_bits4), rfl, x_bits4, rfl, fun D8 nD9 => ?_⟩
    have g10 := g0.own (o := (.lst [])) nD9
    have ow11 : Ow H0 H0 (upd H0 D8 (.lst [])) D8 [] := Ow.new g0 nD9
    refine lc_str (z := x_bits4) (fun i H' => ∃ (F' : Hp) (acc : List V) (ds : List Str), Gr M0 H0 H0 F' H' ∧ Same H0 F' ∧ Ow H0 F' H' D8 acc ∧ RL K F' acc ds ∧ acc.length ≤ i ∧ ds ++ m_is_pattern_c1  ((x_bits4).cps.toList.drop i) = (m_is_pattern_c1  (x_bits4).cps.toList)) ?_ ?_ ?_
    · exact ⟨H0, [], [], g10, Same.refl _, ow11, RpA.nil, Nat.le_refl _, rfl⟩
    · intro i14 xv13 H16 hx15 hP
      obtain ⟨F17, acc18, ds19, g020, sm21, owD22, hA23, hi24, hr25⟩ := hP
      have he27 := str_at hx15
      rw [drop_at he27, m_is_pattern_c1.eq_2] at hr25
      refine ⟨rfl, (V.str (sgn xv13)), rfl, xv13, ("01" : Str), rfl, rfl, _, rfl, (iteB (fun hc => ?_) (fun hc => ?_))⟩
      · rw [if_pos hc] at hr25
        have hA28 : RL K F17 (acc18 ++ [(V.str (sgn xv13))]) (ds19 ++ [((sgn xv13) : Str)]) := RL.snoc hA23 (Rp.str (sgn xv13) (GS.sg gs7 (List.mem_of_getElem? he27)))
        refine ⟨(V.str (sgn xv13)), rfl, acc18, owD22.h, (lt_line hi24 (str_lt hx15) (gs7 : GS x_bits4).len), ?_⟩
        have g29 := g020.put (o := (.lst (acc18 ++ [(V.str (sgn xv13))]))) owD22
        have ow30 := owD22.put (us := (acc18 ++ [(V.str (sgn xv13))]))
        exact ⟨F17, (acc18 ++ [(V.str (sgn xv13))]), (ds19 ++ [(sgn xv13)]), g29, sm21, ow30, hA28, (by rw [List.length_append]; exact Nat.succ_le_succ hi24), (snoc_rest hr25)⟩
      · rw [if_neg (ne_true_of_eq_false hc)] at hr25
        exact ⟨F17, acc18, ds19, g020, sm21, owD22, hA23, (Nat.le_succ_of_le hi24), hr25⟩
    intro H31 hP
    obtain ⟨F32, acc33, ds34, g036, sm37, owD38, hA39, hi40, hr41⟩ := hP
    rw [drop_end str_size] at hr41
    rw [m_is_pattern_c1.eq_1, List.append_nil] at hr41
    obtain rfl := hr41
    have hl42 : acc33.length ≤ sizeLine := Nat.le_trans hi40 (gs7 : GS x_bits4).len
    refine ⟨(by show 0 ≤ sizeLine; decide), fun p43 np44 => ?_⟩
    have ne45 := owD38.ne np44
    have g46 := g036.own (o := (.lst [])) np44
    have ow47 := owD38.own (o := (.lst [])) np44
    have ow48 : Ow H0 F32 (upd H31 p43 (.lst [])) p43 [] := Ow.new g036 np44
    have rH50 : R K (upd H31 p43 (.lst [])) (V.ref D8) (m_is_pattern_c1  (x_bits4).cps.toList) := (R.mkl ow47.sq hl42 (RpA.up hA39 g46.fh))
    have rH51 : R K (upd H31 p43 (.lst [])) (V.ref p43) ([] : (List Str)) := (R.mkl ow48.sq (by show 0 ≤ sizeLine; decide) (RpA.up RpA.nil g46.fh))
    refine ⟨_, _, (Rp.dp _ _ rH50), (Rp.dp _ _ rH51), (R.shaped rH50), (R.shaped rH51), _, rfl, (iteB (fun hc => ?_) (fun hc => ?_))⟩
    · have hm := ifT hc hm
      refine p_ret ?_
      obtain rfl := sjoin hm
      exact (hQ _ _ g46)
    · have hm := ifF hc hm
      refine p_next ?_
      refine p_nx ?_
      refine p_ret ?_
      refine ⟨(V.bl x_is_open1), rfl, _, rfl, ?_⟩
      refine ifJ (M := M0) (F := F32) (P := fun v' F' H' => v' = V.bl ((if x_is_open1 then (decide (((x_bits4.length : Nat) : Int) < x_width)) else (eqI ((x_bits4.length : Nat) : Int) x_width)) : Bool)) (fun ha => ?_) (fun ha => ?_) ?_
      · intro Q54 q55
        refine ⟨(V.str x_bits4), rfl, _, rfl, (gs7 : GS x_bits4).len, (V.int x_width), rfl, _, _, rfl, rfl, (q55 _ _ _ (Gr.refl (M := M0) g46.fh) (congrArg V.bl (if_pos ha).symm))⟩
      · intro Q56 q57
        refine ⟨(V.str x_bits4), rfl, _, rfl, (gs7 : GS x_bits4).len, (V.int x_width), rfl, rfl, (q57 _ _ _ (Gr.refl (M := M0) g46.fh) (congrArg V.bl (if_neg (ne_true_of_eq_false ha)).symm))⟩
      intro v61 F58 H59 g60 hp62
      have g64 := Gr.trans g46 g60
      have ow65 := ow47.gr0 g60
      have ow66 := ow48.gr0 g60
      obtain rfl := hp62
      obtain rfl := sjoin hm
      exact (hQ _ _ g64)
end K07
namespace K07
open PySem PySem.Spec PyProof.Rows L2 TL G
theorem ok_span_of {P : Program} {w : World} {K : PySem.W.Frag} {mg : Str → Option Value} {base : Heap} (T : Txt K mg) : FnOk P w K mg base CX0 2 T.a_span_of T.d_span_of ["pattern", "width"] (sp_span_of K) := by
  have G_bits_of : FnOk P w K mg base CX0 1 T.a_bits_of T.d_bits_of ["pattern"] (sp_bits_of K) := ok_bits_of T
  have b_bits_of := T.F_bits_of.bindsN (ps := ["pattern"]) fun _ _ _ _ _ _ us hl => match us, hl with | [_], _ => rfl
  refine fd_ok T.F_span_of sc_span_of (fun vs H Q E h => ?_) (fun cdv A outer s H0 vs Q E hr h => ?_)
  · obtain ⟨_, _, _, _, rfl, _⟩ := h
    rfl
  · obtain ⟨F0, x_pattern, x_width, r, rfl, hS0, gs_x_pattern, hm, hQ⟩ := h
    refine ⟨_, (pss_cons (ps_set (i := 2) sc_span_of.nd rfl (.inl rfl) (pe_call G_bits_of (hr.mono (by decide)) (by rfl) T.g_bits_of T.F_bits_of.kp b_bits_of .nil pass0 (pa_cons (pv 0) pa_nil))) (pss_cons (ps_set (i := 3) sc_span_of.nd rfl (.inl rfl) pe_int) (pss_cons (ps_for PassesOwn.never rfl (pi_str (pv 2)) (pg_name (i := 4) sc_span_of.nd rfl (Or.inl rfl)) (pss_one (ps_set (i := 3) sc_span_of.nd rfl (.inl rfl) (pe_op op_add (pe_op op_mul pe_int (pv 3)) (pe_callTy call_toI (by rfl) T.n_int (by decide +kernel) (pa_cons (pe_cmpR op_eq (pv 4) pe_str (nomark _)) pa_nil)))))) (pss_cons (ps_set (i := 5) sc_span_of.nd rfl (.inl rfl) (pe_op op_shl pe_int (pe_op op_sub (pv 1) (pe_callB call_len_str (by rfl) T.n_len (by decide +kernel) (pa_cons (pv 2) pa_nil))))) (pss_one (ps_ret (pe_tup (pa_cons (pe_op op_mulW (pv 3) (pv 5)) (pa_cons (pe_op op_mulW (pe_op op_add (pv 3) pe_int) (pv 5)) pa_nil))))))))), ?_⟩
    have g0 : Gr M0 F0 H0 F0 H0 := Gr.refl hS0
    unfold m_span_of at hm
    refine p_seq ?_
    refine p_asg ?_
    refine ⟨(V.str x_pattern), rfl, x_pattern, rfl, gs_x_pattern, fun F2 H3 g4 gs5 => ?_⟩
    have g6 := Gr.apart g0 g4
    obtain ⟨x_bits7, hb8, hm⟩ := bnd hm
    have hx9 : (m_bits_of x_pattern) = x_bits7 := sjoin hb8
    have gs10 : GS x_bits7 := hx9 ▸ (gs5 : GS (m_bits_of x_pattern))
    refine p_nm (v' := (V.str x_bits7)) (congrArg V.str hx9) ?_
    refine p_nx ?_
    refine p_seq ?_
    refine p_asg ?_
    refine p_name ?_
    refine p_nx ?_
    refine p_seq ?_
    refine p_for ?_
    refine ⟨(V.str x_bits7), rfl, x_bits7, rfl, ?_⟩
    obtain ⟨x_number11, ht12, hm⟩ := bnd hm
    refine for_str (z := x_bits7) (fun i σ' H' => ∃ (F' : Hp) (x_number : Int) (o_x_sign : Option V), σ' = [(some (V.str x_pattern)), (some (V.int x_width)), (some (V.str x_bits7)), (some (V.int x_number)), o_x_sign, none] ∧ Gr M0 F0 H0 F' H' ∧ Same F0 F' ∧ m_span_of_l1  ((x_bits7).cps.toList.drop i) x_number = some x_number11) ?_ ?_ ?_
    · exact ⟨F0, (0 : Int), none, rfl, g6, (Same.refl _), ht12⟩
    · intro i13 xv16 σ' H15 hx14 hP
      obtain ⟨F17, x_number18, o_x_sign19, rfl, g20, sm21, hm22⟩ := hP
      have he24 := str_at hx14
      rw [drop_at he24, m_span_of_l1.eq_2] at hm22
      refine p_name ?_
      refine p_asg ?_
      refine ⟨(V.int x_number18), rfl, _, _, rfl, rfl, (.inl ⟨by decide, by decide⟩), (V.str (sgn xv16)), rfl, rfl, _, rfl, _, _, rfl, rfl, ?_⟩
      obtain ⟨x_number25, hb26, hm22⟩ := bnd hm22
      have hx27 : (((2 : Int) * x_number18) + (toI (eqS (sgn xv16) ("1" : Str)))) = x_number25 := sjoin hb26
      refine p_nm (v' := (V.int x_number25)) (congrArg V.int hx27) ?_
      exact ⟨F17, x_number25, (some (V.str (sgn xv16))), rfl, g20, sm21, hm22⟩
    intro σ28 H29 hP
    obtain ⟨F30, x_number31, o_x_sign32, rfl, g33, sm34, hm35⟩ := hP
    rw [drop_end str_size, m_span_of_l1.eq_1] at hm35
    obtain rfl := sjoin hm35
    refine p_nx ?_
    refine p_seq ?_
    refine p_asg ?_
    obtain ⟨t36, hb37, hm⟩ := bnd hm
    obtain ⟨hk38, rfl⟩ := shlI_ok hb37
    refine ⟨(V.int x_width), rfl, (V.str x_bits7), rfl, _, rfl, (gs10 : GS x_bits7).len, _, _, rfl, rfl, _, _, rfl, rfl, hk38, ?_⟩
    obtain ⟨x_size39, hx40⟩ : ∃ z_, ((1 : Int) * 2 ^ ((x_width - ((x_bits7.length : Nat) : Int))).toNat) = z_ := ⟨_, rfl⟩
    try rw [hx40] at hm
    refine p_nm (v' := (V.int x_size39)) (congrArg V.int hx40) ?_
    refine p_nx ?_
    refine p_ret ?_
    obtain ⟨t41, hb42, hm⟩ := bnd hm
    obtain ⟨hk43, rfl⟩ := mulI_ok hb42
    obtain ⟨t44, hb45, hm⟩ := bnd hm
    obtain ⟨hk46, rfl⟩ := mulI_ok hb45
    refine ⟨(V.int x_number31), rfl, (V.int x_size39), rfl, _, _, rfl, rfl, hk43, (V.int x_number31), rfl, _, _, rfl, rfl, (V.int x_size39), rfl, _, _, rfl, rfl, hk46, (by show 2 ≤ sizeLine; decide), fun p47 np48 => ?_⟩
    have sm49 := same_new (o := (.tup [(V.int (x_number31 * x_size39)), (V.int ((x_number31 + (1 : Int)) * x_size39))])) (g33.noneF np48)
    have g50 := g33.frz (o := (.tup [(V.int (x_number31 * x_size39)), (V.int ((x_number31 + (1 : Int)) * x_size39))])) np48
    have r51 : R K (upd F30 p47 (.tup [(V.int (x_number31 * x_size39)), (V.int ((x_number31 + (1 : Int)) * x_size39))])) (.ref p47) (((x_number31 * x_size39), ((x_number31 + (1 : Int)) * x_size39)) : (Int × Int)) := R.mk2 fzT (Rp.int (x_number31 * x_size39)) (Rp.int ((x_number31 + (1 : Int)) * x_size39))
    obtain rfl := sjoin hm
    exact (hQ _ _ _ g50 r51)
end K07
namespace K07
open PySem PySem.Spec PyProof.Rows L2 TL G
theorem ok_has {P : Program} {w : World} {K : PySem.W.Frag} {mg : Str → Option Value} {base : Heap} (T : Txt K mg) : FnOk P w K mg base CX0 3 T.a_has T.d_has ["pattern", "address", "width"] (sp_has K) := by
  have G_span_of : FnOk P w K mg base CX0 2 T.a_span_of T.d_span_of ["pattern", "width"] (sp_span_of K) := ok_span_of T
  have b_span_of := T.F_span_of.bindsN (ps := ["pattern", "width"]) fun _ _ _ _ _ _ us hl => match us, hl with | [_, _], _ => rfl
  refine fd_ok T.F_has sc_has (fun vs H Q E h => ?_) (fun cdv A outer s H0 vs Q E hr h => ?_)
  · obtain ⟨_, _, _, _, rfl, _⟩ := h
    rfl
  · obtain ⟨x_pattern, x_address, x_width, r, rfl, gs_x_pattern, hm, hQ⟩ := h
    refine ⟨_, (pss_cons (ps_asg (pe_call G_span_of (hr.mono (by decide)) (by rfl) T.g_span_of T.F_span_of.kp b_span_of .nil pass0 (pa_cons (pv 0) (pa_cons (pv 2) pa_nil))) (pg_tupK (K := K) 2 rfl (pgs_cons (pg_name (i := 3) sc_has.nd rfl (Or.inl rfl)) (pgs_cons (pg_name (i := 4) sc_has.nd rfl (Or.inl rfl)) pgs_nil)))) (pss_one (ps_ret (pe_val (pe_chain op_le op_lt (pv 3) (pv 1) (pv 4)))))), ?_⟩
    have g0 : Gr M0 H0 H0 H0 H0 := Gr.refl (Same.refl _)
    unfold m_has at hm
    refine p_seq ?_
    refine p_asg ?_
    obtain ⟨r1, hb2, hm⟩ := bnd hm
    refine ⟨(V.str x_pattern), rfl, (V.int x_width), rfl, H0, x_pattern, x_width, r1, rfl, g0.fh, gs_x_pattern, hb2, fun v6 F3 H4 g5 r7 => ?_⟩
    have g8 := Gr.trans g0 g5
    obtain ⟨p9, v12, v13, ev10, hS11, r14, r15⟩ := R.p2_v r7
    obtain rfl := R.int_v r14
    obtain rfl := R.int_v r15
    refine ⟨p9, [(V.int r1.1), (V.int r1.2)], ev10, (SqT_mono g8.fh hS11), rfl, (V.int r1.1), [(V.int r1.2)], rfl, (V.int r1.2), [], rfl, rfl, ?_⟩
    refine p_nx ?_
    refine p_ret ?_
    obtain rfl := sjoin hm
    refine ⟨(V.bl ((decide (r1.1 ≤ x_address)) && (decide (x_address < r1.2)))), (fun Q q => ⟨(V.int r1.1), rfl, (V.int x_address), rfl, _, _, rfl, rfl, _, rfl, iteB (fun hc => ⟨(V.int r1.2), rfl, _, _, rfl, rfl, qTv hc q⟩) (fun hc => qFv hc q)⟩), (hQ _ _ g8)⟩
end K07
namespace K07
open PySem PySem.Spec PyProof.Rows L2 TL G
theorem ok_l_bag {P : Program} {w : World} {K : PySem.W.Frag} {mg : Str → Option Value} {base : Heap} (T : Txt K mg) : FnOk P w K mg base CX0 1 T.a_l_bag T.d_l_bag ["_law_script"] (sp_l_bag K) := by
  refine fd_ok T.F_l_bag sc_l_bag (fun vs H Q E h => ?_) (fun cdv A outer s H0 vs Q E hr h => ?_)
  · obtain ⟨_, _, rfl, _⟩ := h
    rfl
  · obtain ⟨a, ns, rfl, hS, hl, hQ⟩ := h
    refine ⟨_, (pss_cons (ps_set (i := 1) sc_l_bag.nd rfl (.inl rfl) pe_int)
      (pss_cons (ps_for PassesOwn.never rfl (pi_list (pe_slice sl_list (pv 0) po_none (po_some pe_int))) (pg_name (i := 2) sc_l_bag.nd rfl (Or.inl rfl))
          (pss_one (ps_set (i := 1) sc_l_bag.nd rfl (.inl rfl) (pe_op op_mod (pe_op op_add (pe_op op_add (pe_op op_mul (pv 1) pe_int) (pe_op op_mod (pv 2) pe_int)) pe_int) pe_int))))
      (pss_one (ps_ret (pe_lst (pa_cons (pe_lc (own := [("_law_cell", 2)]) rfl sc_l_bag.nd (pi_list (pe_slice sl_list (pv 0) po_none (po_some pe_int)))
          (blkOk_by (own := [("_law_cell", 2)]) (N := N_l_bag) (sc := defScope s_l_bag) (by decide +kernel)) (fun _ _ _ _ _ => pg_name (i := 2) sc_l_bag.nd rfl (Or.inl rfl)) (fun _ _ _ _ _ => pts_nil)
          (fun _ _ _ _ _ => pe_op op_mod (pe_callB call_abs (by rfl) T.n_abs (by decide +kernel) (pa_cons (pv 2) pa_nil)) (pe_op op_powW (pe_op op_pow pe_int pe_int) pe_int)))
        (pa_cons pe_int (pa_cons (pv 1) (pa_cons pe_int pa_nil))))))))), ?_⟩
    have g0 : Gr M0 (fun _ => none) H0 (fun _ => none) H0 := Gr.refl (fun _ _ h => nomatch h)
    have hcut : ∀ (lo hi : Option Int), cutV (ns.map V.int) lo hi = (cutL ns lo hi).map V.int := fun lo hi => by
      unfold cutV cutL
      rw [List.length_map, List.map_take, List.map_drop]
    have hcl : ∀ (lo hi : Option Int), (cutL ns lo hi).length ≤ 63 := fun lo hi => by
      unfold cutL
      rw [List.length_take, List.length_drop]
      omega
    refine p_seq ?_
    refine p_asg ?_
    refine p_name ?_
    refine p_nx ?_
    refine p_seq ?_
    refine p_for ?_
    refine ⟨.ref a, rfl, 60, rfl, a, ns.map V.int, rfl, hS, fun p np => ?_⟩
    rw [hcut]
    generalize hcs : cutL ns none (some 60) = cs
    have hc1 : cs.length ≤ 63 := by rw [← hcs]; exact hcl _ _
    have hc2 : (cs.map V.int).length = cs.length := List.length_map ..
    have g1 := g0.own (o := .lst (cs.map V.int)) np
    have ow1 : Ow H0 (fun _ => none) _ p (cs.map V.int) := Ow.new g0 np
    generalize hH1 : upd H0 p (.lst (cs.map V.int)) = H1 at g1 ow1 ⊢
    refine ⟨p, rfl, ⟨_, ow1.sq⟩, ?_⟩
    refine for_list (xs := cs.map V.int) (fun i σ' H' => ∃ (z : Int) (c : Option V), σ' = [some (.ref a), some (.int z), c] ∧ 0 ≤ z ∧ z < 2147483648 ∧ H' = H1) ⟨29, none, rfl, by decide, by decide, rfl⟩ (fun i σ' H' _ hP => ?_) (fun i x σ' H' hx hP => ?_) (fun σ' H' hP => ?_)
    · obtain ⟨z, c, _, _, _, rfl⟩ := hP
      exact ow1.sq
    · obtain ⟨z, c, rfl, h1, h2, rfl⟩ := hP
      obtain ⟨x, rfl⟩ : ∃ x', x = V.int x' := by
        rw [List.getElem?_map] at hx
        obtain ⟨y, _, e⟩ := Option.map_eq_some_iff.mp hx
        exact ⟨y, e.symm⟩
      refine p_asg ?_
      refine ⟨.int z, rfl, _, _, rfl, rfl, (.inr ⟨by decide, by decide⟩), .int x, rfl, _, _, rfl, rfl, (show (0 : Int) < 2147483629 by decide), _, _, rfl, rfl, _, _, rfl, rfl, _, _, rfl, rfl, (show (0 : Int) < 2147483647 by decide), ?_⟩
      refine ⟨_, _, rfl, Int.emod_nonneg _ (by decide), ?_, rfl⟩
      have := Int.emod_lt_of_pos (z * 69621 + x % 2147483629 + 1) (show (0 : Int) < 2147483647 by decide)
      omega
    · obtain ⟨z, c, rfl, h1, h2, rfl⟩ := hP
      refine p_nx ?_
      refine p_ret ?_
      have hS1 : SqL K H' a (ns.map V.int) := g1.seq id hS
      refine ⟨.ref a, rfl, 60, rfl, a, ns.map V.int, rfl, hS1, fun p2 np2 => ?_⟩
      rw [hcut, hcs]
      have g2 := g1.own (o := .lst (cs.map V.int)) np2
      have ow2 : Ow H0 (fun _ => none) _ p2 (cs.map V.int) := Ow.new g1 np2
      generalize hH2 : upd H' p2 (.lst (cs.map V.int)) = H2 at g2 ow2 ⊢
      refine ⟨p2, rfl, ⟨_, ow2.sq⟩, fun D nD => ?_⟩
      refine lc_list (xs := cs.map V.int) (fun i H' => ∃ ds : List Int, ds.length = i ∧ H' = upd H2 D (.lst (ds.map V.int))) ⟨[], rfl, rfl⟩ (fun i H' _ hP => ?_) (fun i x H' hx hP => ?_) (fun H' hP => ?_)
      · obtain ⟨ds, _, rfl⟩ := hP
        exact (ow2.own nD).sq
      · obtain ⟨ds, hds, rfl⟩ := hP
        have hi : i < cs.length := by rw [← hc2]; exact (List.getElem?_eq_some_iff.mp hx).1
        obtain ⟨x, rfl⟩ : ∃ x', x = V.int x' := by
          rw [List.getElem?_map] at hx
          obtain ⟨y, _, e⟩ := Option.map_eq_some_iff.mp hx
          exact ⟨y, e.symm⟩
        refine ⟨rfl, p_yes ?_⟩
        refine ⟨.int x, rfl, x, rfl, _, _, rfl, rfl, ⟨by decide, by decide, by decide⟩, _, _, rfl, rfl, ⟨by decide, by decide +kernel⟩, _, _, rfl, rfl, (show (0 : Int) < ((10 : Int) ^ (60 : Int).toNat) ^ (10 : Int).toNat by decide +kernel), ?_⟩
        refine ⟨_, upd_same, ?_, ds ++ [(if x < 0 then -x else x) % ((10 : Int) ^ (60 : Int).toNat) ^ (10 : Int).toNat], ?_, ?_⟩
        · rw [List.length_map, sizeLine_eq]; omega
        · rw [List.length_append, hds]; rfl
        · rw [upd_upd, List.map_append]; rfl
      · obtain ⟨ds, hds, rfl⟩ := hP
        rw [hc2] at hds
        refine ⟨.int z, rfl, (by show 4 ≤ sizeLine; decide), fun B nB => ?_⟩
        have hne : D ≠ B := fun e => by rw [← e, upd_same] at nB; cases nB
        exact hQ B D ⟨ds, 0, z, 0⟩ (fun _ => none) _ (fun _ _ h => nomatch h) ⟨upd_same, by rw [upd_ne hne, upd_same], hne.symm, rfl, rfl⟩ ⟨h1, h2, by show ds.length ≤ 63; omega⟩

end K07
namespace K07
open PySem PySem.Spec PyProof.Rows L2 TL G
theorem ok_l_draw {P : Program} {w : World} {K : PySem.W.Frag} {mg : Str → Option Value} {base : Heap} (T : Txt K mg) : FnOk P w K mg base CX0 1 T.a_l_draw T.d_l_draw ["_law_bag_here", "_law_many"] (sp_l_draw K) := by
  refine fd_ok T.F_l_draw sc_l_draw (fun vs H Q E h => ?_) (fun cdv A outer s H0 vs Q E hr h => ?_)
  · obtain ⟨_, _, _, _, _, _, _, rfl, _⟩ := h
    rfl
  · obtain ⟨F0, B, C, b, n, r, b', rfl, hS0, hB, hm, hQ⟩ := h
    refine ⟨_, (pss_cons (ps_while PassesOwn.never (PW.pt (pw_and (pt_cmpR op_lt (pe_ix ix_list (pv 0) pe_int (fun _ _ => rfl)) (pe_callB call_lenL (by rfl) T.n_len (by decide +kernel) (pa_cons (pe_ix ix_list (pv 0) pe_int (fun _ _ => rfl)) pa_nil)) (nomark _))
        (pw_and1 (pt_cmpR op_eq (pe_ix ix_list (pe_ix ix_list (pv 0) pe_int (fun _ _ => rfl)) (pe_ix ix_list (pv 0) pe_int (fun _ _ => rfl)) (fun _ _ => rfl)) pe_int (nomark _)))))
        (pss_one (ps_asg (pe_op op_add (pe_ix ix_list (pv 0) pe_int (fun _ _ => rfl)) pe_int) (pg_sub (pv 0) pe_int set_list))))
      (pss_cons (ps_if (pt_cmpR op_lt (pe_ix ix_list (pv 0) pe_int (fun _ _ => rfl)) (pe_callB call_lenL (by rfl) T.n_len (by decide +kernel) (pa_cons (pe_ix ix_list (pv 0) pe_int (fun _ _ => rfl)) pa_nil)) (nomark _))
          (pss_cons (ps_set (i := 2) sc_l_draw.nd rfl (.inl rfl) (pe_ix ix_list (pe_ix ix_list (pv 0) pe_int (fun _ _ => rfl)) (pe_ix ix_list (pv 0) pe_int (fun _ _ => rfl)) (fun _ _ => rfl)))
            (pss_cons (ps_asg (pe_op op_fdivW (pv 2) (pv 1)) (pg_sub (pe_ix ix_list (pv 0) pe_int (fun _ _ => rfl)) (pe_ix ix_list (pv 0) pe_int (fun _ _ => rfl)) set_list))
              (pss_one (ps_ret (pe_op op_mod (pv 2) (pv 1)))))) pss_nil)
      (pss_cons (ps_asg (pe_op op_add (pe_ix ix_list (pv 0) pe_int (fun _ _ => rfl)) pe_int) (pg_sub (pv 0) pe_int set_list))
      (pss_cons (ps_asg (pe_op op_mod (pe_op op_add (pe_op op_add (pe_op op_add (pe_op op_pow (pe_ix ix_list (pv 0) pe_int (fun _ _ => rfl)) pe_int) (pe_op op_mul pe_int (pe_ix ix_list (pv 0) pe_int (fun _ _ => rfl)))) (pe_op op_mul pe_int (pe_ix ix_list (pv 0) pe_int (fun _ _ => rfl)))) pe_int) pe_int) (pg_sub (pv 0) pe_int set_list))
      (pss_one (ps_ret (pe_op op_mod (pe_op op_fdiv (pe_ix ix_list (pv 0) pe_int (fun _ _ => rfl)) pe_int) (pv 1)))))))), ?_⟩
    have g0 : Gr (Bc B C) F0 H0 F0 H0 := Gr.refl hS0
    unfold m_l_draw at hm
    have hc : (0 < n ∧ n.natAbs.log2 < 9000) ∧ (0 ≤ b.seed ∧ b.seed < 2147483648 ∧ b.cells.length ≤ sizeLine) := by
      by_cases hc : (0 < n ∧ n.natAbs.log2 < 9000) ∧ (0 ≤ b.seed ∧ b.seed < 2147483648 ∧ b.cells.length ≤ sizeLine)
      · exact hc
      · rw [if_neg hc] at hm; cases hm
    rw [if_pos hc] at hm
    obtain ⟨⟨hn, hn2⟩, hs0, hs1, hsz⟩ := hc
    obtain ⟨cs, a0, sd, ct⟩ := b
    simp only at hm hs0 hs1 hsz
    generalize hK : skip0 (cs.drop a0) a0 = k at hm
    have hpow : CPow sd 3 := ⟨by decide, by decide, by omega⟩
    have lB : ∀ {H : Hp} {a : Nat} {z c : Int}, BagAt F0 H B C ⟨cs, a, z, c⟩ → SqL K H B [V.ref C, .int (a : Nat), .int z, .int c] := fun h => .inl (.inl h.hB)
    have lC : ∀ {H : Hp} {b1 : Bag}, BagAt F0 H B C b1 → SqL K H C (b1.cells.map V.int) := fun h => .inl (.inl h.hC)
    have hz : (cs.map V.int).length = cs.length := List.length_map ..
    refine p_seq ?_
    refine ⟨fun i σ' H' => ∃ a : Nat, σ' = [some (.ref B), some (.int n), none] ∧ Gr (Bc B C) F0 H0 F0 H' ∧ BagAt F0 H' B C ⟨cs, a, sd, ct⟩ ∧ skip0 (cs.drop a) a = k ∧ cs.length - a ≤ i, ⟨cs.length, a0, rfl, g0, hB, hK, Nat.sub_le _ _⟩, ?_⟩
    intro i σ1 H1 hP
    obtain ⟨a, rfl, g, hB, hK, hi⟩ := hP
    refine ⟨_, rfl, _, _, 1, .int (a : Nat), rfl, rfl, lB hB, rfl, _, rfl, _, _, 0, .ref C, rfl, rfl, lB hB, rfl, C, _, _, rfl, .inl (lC hB), hz, _, _, rfl, rfl, _, rfl, ?_⟩
    by_cases hl : a < cs.length
    · obtain ⟨x, hx⟩ : ∃ x, cs[a]? = some x := ⟨_, List.getElem?_eq_getElem hl⟩
      rw [drop_at hx] at hK
      refine ifTr (decide_eq_true (Int.ofNat_lt.mpr hl)) ?_
      refine ⟨_, rfl, _, _, 0, .ref C, rfl, rfl, lB hB, rfl, _, rfl, _, _, 1, .int (a : Nat), rfl, rfl, lB hB, rfl, _, _, (a : Nat), .int x, rfl, rfl, lC hB, atI_map hx, rfl, _, rfl, ?_⟩
      by_cases h0 : x = 0
      · subst h0
        refine ifTr (decide_eq_true rfl) ?_
        refine ⟨fun σ' H' => ∃ a : Nat, σ' = [some (.ref B), some (.int n), none] ∧ Gr (Bc B C) F0 H0 F0 H' ∧ BagAt F0 H' B C ⟨cs, a, sd, ct⟩ ∧ skip0 (cs.drop a) a = k ∧ cs.length - a ≤ i - 1, fun _ _ ⟨z1, z2, z3, z4, z5, z6⟩ => ⟨i - 1, by omega, z1, z2, z3, z4, z5, z6⟩, ?_⟩
        refine p_asg ?_
        refine ⟨_, rfl, _, _, 1, .int (a : Nat), rfl, rfl, lB hB, rfl, _, _, rfl, rfl, _, rfl, B, _, 1, 1, rfl, rfl, hB.hB, rfl, ?_⟩
        exact ⟨a + 1, rfl, g.mut hB.fB (.inr (.inl rfl)), BagAt.put (b' := ⟨cs, a + 1, sd, ct⟩) hB rfl, by rw [skip0, if_pos rfl] at hK; exact hK, by omega⟩
      · refine ifFr (decide_eq_false fun e => h0 (V.int.inj e)) ?_
        rw [skip0, if_neg h0] at hK
        subst hK
        rw [hx] at hm
        obtain ⟨rfl, rfl⟩ := pjoin hm
        refine p_nx ?_
        refine p_seq ?_
        refine p_if ?_
        refine ⟨_, rfl, _, _, 1, .int (a : Nat), rfl, rfl, lB hB, rfl, _, rfl, _, _, 0, .ref C, rfl, rfl, lB hB, rfl, C, _, _, rfl, .inl (lC hB), hz, _, _, rfl, rfl, _, rfl, ?_⟩
        refine ifTr (decide_eq_true (Int.ofNat_lt.mpr hl)) ?_
        refine p_seq ?_
        refine p_asg ?_
        refine ⟨_, rfl, _, _, 0, .ref C, rfl, rfl, lB hB, rfl, _, rfl, _, _, 1, .int (a : Nat), rfl, rfl, lB hB, rfl, _, _, (a : Nat), .int x, rfl, rfl, lC hB, atI_map hx, ?_⟩
        refine p_name ?_
        refine p_nx ?_
        refine p_seq ?_
        refine p_asg ?_
        refine ⟨.int x, rfl, .int n, rfl, x, n, rfl, rfl, ⟨hn, hn2⟩, _, rfl, _, _, 0, .ref C, rfl, rfl, lB hB, rfl, _, rfl, _, _, 1, .int (a : Nat), rfl, rfl, lB hB, rfl, C, _, (a : Nat), a, rfl, rfl, hB.hC, ixN_nat (by rw [hz]; exact hl), ?_⟩
        refine p_nx ?_
        refine p_ret ?_
        refine ⟨.int x, rfl, .int n, rfl, x, n, rfl, rfl, hn, ?_⟩
        have e : (cs.map V.int).set a (V.int (x / n)) = (cs.set a (x / n)).map V.int := List.map_set.symm
        rw [e]
        exact hQ _ _ (g.mut hB.fC (.inr (.inr rfl))) (BagAt.cell hB _)
    · refine ifFr (decide_eq_false fun e => hl (Int.ofNat_lt.mp e)) ?_
      have hd : cs.drop a = [] := List.drop_eq_nil_of_le (by omega)
      rw [hd, skip0] at hK
      subst hK
      rw [List.getElem?_eq_none (by omega)] at hm
      obtain ⟨rfl, rfl⟩ := pjoin hm
      refine p_nx ?_
      refine p_seq ?_
      refine p_if ?_
      refine ⟨_, rfl, _, _, 1, .int (a : Nat), rfl, rfl, lB hB, rfl, _, rfl, _, _, 0, .ref C, rfl, rfl, lB hB, rfl, C, _, _, rfl, .inl (lC hB), hz, _, _, rfl, rfl, _, rfl, ?_⟩
      refine ifFr (decide_eq_false fun e => hl (Int.ofNat_lt.mp e)) ?_
      refine p_next ?_
      refine p_nx ?_
      refine p_seq ?_
      refine p_asg ?_
      refine ⟨_, rfl, _, _, 3, .int ct, rfl, rfl, lB hB, rfl, _, _, rfl, rfl, _, rfl, B, _, 3, 3, rfl, rfl, hB.hB, rfl, ?_⟩
      have hB2 := BagAt.put (b' := ⟨cs, a, sd, ct + 1⟩) hB rfl
      have g2 := g.mut (o := .lst [.ref C, .int (a : Nat), .int sd, .int (ct + 1)]) hB.fB (.inr (.inl rfl))
      refine p_nx ?_
      refine p_seq ?_
      refine p_asg ?_
      refine ⟨_, rfl, _, _, 2, .int sd, rfl, rfl, lB hB2, rfl, _, _, rfl, rfl, hpow, _, rfl, _, _, 2, .int sd, rfl, rfl, lB hB2, rfl, _, _, rfl, rfl, (.inl ⟨by decide, by decide⟩), _, _, rfl, rfl, _, rfl, _, _, 3, .int (ct + 1), rfl, rfl, lB hB2, rfl, _, _, rfl, rfl, (.inl ⟨by decide, by decide⟩), _, _, rfl, rfl, _, _, rfl, rfl, _, _, rfl, rfl, (show (0 : Int) < 2147483647 by decide), _, rfl, B, _, 2, 2, rfl, rfl, hB2.hB, rfl, ?_⟩
      have hB3 := BagAt.put (b' := ⟨cs, a, stir sd (ct + 1), ct + 1⟩) hB2 rfl
      have g3 := g2.mut (o := .lst [.ref C, .int (a : Nat), .int (stir sd (ct + 1)), .int (ct + 1)]) hB2.fB (.inr (.inl rfl))
      refine p_nx ?_
      refine p_ret ?_
      refine ⟨_, rfl, _, _, 2, .int (stir sd (ct + 1)), rfl, rfl, lB hB3, rfl, _, _, rfl, rfl, ⟨by decide, by decide⟩, .int n, rfl, _, _, rfl, rfl, hn, ?_⟩
      exact hQ _ _ g3 hB3

end K07
namespace K07
open PySem PySem.Spec PyProof.Rows L2 TL G
theorem ok_l_bits {P : Program} {w : World} {K : PySem.W.Frag} {mg : Str → Option Value} {base : Heap} (T : Txt K mg) : FnOk P w K mg base CX0 2 T.a_l_bits T.d_l_bits ["_law_bag_here", "_law_size_here"] (sp_l_bits K) := by
  have G_l_draw : FnOk P w K mg base CX0 1 T.a_l_draw T.d_l_draw ["_law_bag_here", "_law_many"] (sp_l_draw K) := ok_l_draw T
  have b_l_draw := T.F_l_draw.bindsN (ps := ["_law_bag_here", "_law_many"]) fun _ _ _ _ _ _ us hl => match us, hl with | [_, _], _ => rfl
  refine fd_ok T.F_l_bits sc_l_bits (fun vs H Q E h => ?_) (fun cdv A outer s H0 vs Q E hr h => ?_)
  · obtain ⟨_, _, _, _, _, _, _, rfl, _⟩ := h
    rfl
  · obtain ⟨F0, B, C, b, y_size_here, r, b', rfl, hS0, hB, hm, hQ⟩ := h
    refine ⟨_, (pss_cons (ps_if (pt_cmpR op_eq (pe_call G_l_draw (hr.mono (by decide)) (by rfl) T.g_l_draw T.F_l_draw.kp b_l_draw .nil pass0 (pa_cons (pv 0) (pa_cons pe_int pa_nil))) pe_int (nomark _)) (pss_cons (ps_set (i := 2) sc_l_bits.nd rfl (.inl rfl) (pe_ix ix_str pe_str (pe_call G_l_draw (hr.mono (by decide)) (by rfl) T.g_l_draw T.F_l_draw.kp b_l_draw .nil pass0 (pa_cons (pv 0) (pa_cons pe_int pa_nil))) (fun _ _ => rfl))) (pss_one (ps_ret (pe_ifExp (pt_cmpR op_gt (pv 1) pe_int (nomark _)) (pe_slice sl_str (pe_op op_add_str (pe_op op_mulS (pv 2) (pv 1)) (pe_ix ix_str pe_str (pe_call G_l_draw (hr.mono (by decide)) (by rfl) T.g_l_draw T.F_l_draw.kp b_l_draw .nil pass0 (pa_cons (pv 0) (pa_cons pe_int pa_nil))) (fun _ _ => rfl))) (po_some pe_int) (po_some (pe_op op_add (pv 1) pe_int))) pe_str)))) pss_nil) (pss_one (ps_ret (pe_joinK (K := K) pe_str (pe_lc (own := [("_law_k", 3)]) rfl sc_l_bits.nd (pi_range1 (by rfl) T.n_range (pa_cons (pv 1) pa_nil)) (blkOk_by (own := [("_law_k", 3)]) (N := N_l_bits) (sc := defScope s_l_bits) (by decide +kernel)) (fun _ _ _ _ _ => (pg_name (i := 3) sc_l_bits.nd rfl (Or.inl rfl) (.inr rfl))) (fun _ _ _ _ _ => pts_nil) (fun _ _ _ _ _ => (pe_ix ix_str pe_str (pe_call G_l_draw (hr.mono (by decide)) (by rfl) T.g_l_draw T.F_l_draw.kp b_l_draw .nil pass0 (pa_cons (pv 0) (pa_cons pe_int pa_nil))) (fun _ _ => rfl)))))))), ?_⟩
    have g0 : Gr (Bc B C) F0 H0 F0 H0 := Gr.refl hS0
    unfold m_l_bits at hm
    refine p_seq ?_
    refine p_if ?_
    obtain ⟨r1, b2, hb3, hm⟩ := bnd2 hm
    refine ⟨(V.ref B), rfl, F0, B, C, b, (4 : Int), r1, b2, rfl, g0.fh, hB, hb3, fun F4 H5 g6 hB7 => ?_⟩
    have g9 := Gr.trans g0 g6
    refine ⟨rfl, _, rfl, (iteB (fun hc => ?_) (fun hc => ?_))⟩
    · have hm := ifT hc hm
      refine p_seq ?_
      refine p_asg ?_
      obtain ⟨r10, b11, hb12, hm⟩ := bnd2 hm
      refine ⟨(V.ref B), rfl, F4, B, C, b2, (2 : Int), r10, b11, rfl, g9.fh, hB7, hb12, fun F13 H14 g15 hB16 => ?_⟩
      have g18 := Gr.trans g9 g15
      obtain ⟨c19, hb20, hm⟩ := bnd hm
      refine ⟨_, _, c19, rfl, rfl, (⟨by decide +kernel, by decide +kernel⟩ : GS ("01" : Str)).len, hb20, ?_⟩
      refine p_name ?_
      refine p_nx ?_
      refine p_ret ?_
      refine ⟨(V.int y_size_here), rfl, _, _, rfl, rfl, _, rfl, ?_⟩
      obtain ⟨c21, b22, hc23, hm⟩ := bnd2 hm
      refine ifJ (M := (Bc B C)) (F := F13) (P := fun v' F' H' => v' = V.str (c21 : Str) ∧ GS (c21 : Str) ∧ BagAt F' H' B C b22) (fun ha => ?_) (fun ha => ?_) ?_
      · intro Q24 q25
        have hc23 := ifT ha hc23
        obtain ⟨t26, hb27, hc23⟩ := bnd hc23
        obtain ⟨hk28, rfl⟩ := mulS_ok hb27
        obtain ⟨r29, b30, hb31, hc23⟩ := bnd2 hc23
        refine ⟨(V.str (sgn c19)), rfl, (V.int y_size_here), rfl, _, _, rfl, rfl, hk28, (V.ref B), rfl, F13, B, C, b11, (2 : Int), r29, b30, rfl, g18.fh, hB16, hb31, fun F32 H33 g34 hB35 => ?_⟩
        have g37 := Gr.trans g18 g34
        have g38 := Gr.trans (Gr.refl (M := (Bc B C)) g18.fh) g34
        obtain ⟨c39, hb40, hc23⟩ := bnd hc23
        obtain ⟨t41, hb42, hc23⟩ := bnd hc23
        obtain ⟨hk43, rfl⟩ := catS_ok hb42
        obtain ⟨rfl, rfl⟩ := pjoin hc23
        refine ⟨_, _, c39, rfl, rfl, (⟨by decide +kernel, by decide +kernel⟩ : GS ("01" : Str)).len, hb40, _, _, rfl, rfl, hk43, _, rfl, (V.int y_size_here), rfl, _, _, rfl, rfl, _, rfl, _, rfl, ((GS.cat (GS.mul (GS.sg ⟨by decide +kernel, by decide +kernel⟩ (codeAt_mem hb20)) hb27) (GS.sg ⟨by decide +kernel, by decide +kernel⟩ (codeAt_mem hb40)) hb42) : GS ((Txt.mul (sgn c19) y_size_here) ++ (sgn c39))).len, (q25 _ _ _ g38 ⟨rfl, (GS.cut (GS.cat (GS.mul (GS.sg ⟨by decide +kernel, by decide +kernel⟩ (codeAt_mem hb20)) hb27) (GS.sg ⟨by decide +kernel, by decide +kernel⟩ (codeAt_mem hb40)) hb42) (some (1 : Int)) (some (y_size_here + (1 : Int)))), hB35⟩)⟩
      · intro Q44 q45
        have hc23 := ifF ha hc23
        obtain ⟨rfl, rfl⟩ := pjoin hc23
        exact (q45 _ _ _ (Gr.refl (M := (Bc B C)) g18.fh) ⟨rfl, ⟨by decide +kernel, by decide +kernel⟩, hB16⟩)
      intro v49 F46 H47 g48 hp50
      obtain ⟨hp50, hp50g, hB51⟩ := hp50
      have g52 := Gr.trans g18 g48
      obtain rfl := hp50
      obtain ⟨rfl, rfl⟩ := pjoin hm
      exact (hQ _ _ g52 hB51 hp50g)
    · have hm := ifF hc hm
      refine p_next ?_
      refine p_nx ?_
      refine p_ret ?_
      obtain ⟨l53, hb55, hm⟩ := bnd hm
      obtain ⟨hk54, rfl⟩ := rangeO1_ok hb55
      refine ⟨⟨_, rfl⟩, (V.int y_size_here), rfl, _, rfl, hk54.1.1, hk54.1.2, fun D56 nD57 => ?_⟩
      have nb58 := hB7.nb nD57
      have g59 := g9.own (o := (.lst [])) nD57
      have hB60 := hB7.own (o := (.lst [])) nD57
      have ow61 : Ow H0 F4 (upd H5 D56 (.lst [])) D56 [] := Ow.new g9 nD57
      obtain ⟨l62, b63, hb64, hm⟩ := bnd2 hm
      refine lc_range (lo := (0 : Int)) (n := (y_size_here).toNat) (fun i H' => ∃ (F' : Hp) (acc : List V) (ds : List Str) (rest : List Str) (b : Bag), Gr (Bc B C) F0 H0 F' H' ∧ Same F4 F' ∧ Ow H0 F' H' D56 acc ∧ RL K F' acc ds ∧ acc.length ≤ i ∧ BagAt F' H' B C b ∧ m_l_bits_c1  ((rangeL (0 : Int) (y_size_here).toNat).drop i) b = some (rest, b63) ∧ ds ++ rest = l62) ?_ ?_ ?_
      · exact ⟨F4, [], [], l62, b2, g59, Same.refl _, ow61, RpA.nil, Nat.le_refl _, hB60, hb64, rfl⟩
      · intro i66 H68 hx67 hP
        obtain ⟨F69, acc70, ds71, rest72, b73, g074, sm75, owD76, hA77, hi78, hB79, hm80, hr81⟩ := hP
        have he83 := rangeL_at (lo := (0 : Int)) hx67
        rw [drop_at he83, m_l_bits_c1.eq_2] at hm80
        refine ⟨rfl, (p_yes ?_)⟩
        obtain ⟨r84, b85, hb86, hm80⟩ := bnd2 hm80
        refine ⟨(V.ref B), rfl, F69, B, C, b73, (2 : Int), r84, b85, rfl, g074.fh, hB79, hb86, fun F87 H88 g89 hB90 => ?_⟩
        have g92 := Gr.trans g074 g89
        have ow93 := owD76.gr g89 nb58
        obtain ⟨c94, hb95, hm80⟩ := bnd hm80
        have hA96 : RL K F87 (acc70 ++ [(V.str (sgn c94))]) (ds71 ++ [((sgn c94) : Str)]) := RL.snoc (hA77.up g89.ff) (Rp.str (sgn c94) (GS.sg ⟨by decide +kernel, by decide +kernel⟩ (codeAt_mem hb95)))
        obtain ⟨rest97, b98, h99, h100⟩ := bnd2 hm80
        obtain ⟨rfl, rfl⟩ := pjoin h100
        refine ⟨_, _, c94, rfl, rfl, (⟨by decide +kernel, by decide +kernel⟩ : GS ("01" : Str)).len, hb95, acc70, ow93.h, (lt_line hi78 hx67 hk54.2), ?_⟩
        have g101 := g92.put (o := (.lst (acc70 ++ [(V.str (sgn c94))]))) ow93
        have hB102 := hB90.other (o := (.lst (acc70 ++ [(V.str (sgn c94))]))) nb58
        have ow103 := ow93.put (us := (acc70 ++ [(V.str (sgn c94))]))
        exact ⟨F87, (acc70 ++ [(V.str (sgn c94))]), (ds71 ++ [(sgn c94)]), rest97, b85, g101, (Same.trans sm75 g89.ff), ow103, hA96, (by rw [List.length_append]; exact Nat.succ_le_succ hi78), hB102, h99, (snoc_rest hr81)⟩
      intro H104 hP
      obtain ⟨F105, acc106, ds107, _rest, b108, g0109, sm110, owD111, hA112, hi113, hB114, hm115, hr116⟩ := hP
      rw [drop_end (rangeL_len _ _).symm] at hm115
      rw [m_l_bits_c1.eq_1] at hm115
      obtain ⟨rfl, rfl⟩ := pjoin hm115
      rw [List.append_nil] at hr116
      obtain rfl := hr116
      have hl117 : acc106.length ≤ sizeLine := Nat.le_trans hi113 hk54.2
      obtain ⟨t118, hb119, hm⟩ := bnd hm
      obtain ⟨hk120, rfl⟩ := joinS_ok hb119
      obtain ⟨rfl, rfl⟩ := pjoin hm
      refine ⟨_, D56, ds107, rfl, rfl, (.inl (by rw [← (RL.strs hA112).1]; exact owD111.sq)), hk120, (hQ _ _ g0109 hB114 (GS.join ⟨by decide +kernel, by decide +kernel⟩ (RL.strs hA112).2 hb119))⟩
end K07
namespace K07
open PySem PySem.Spec PyProof.Rows L2 TL G
theorem ok_l_worth {P : Program} {w : World} {K : PySem.W.Frag} {mg : Str → Option Value} {base : Heap} (T : Txt K mg) : FnOk P w K mg base CX0 1 T.a_l_worth T.d_l_worth ["_law_bits_here"] (sp_l_worth K) := by
  refine fd_ok T.F_l_worth sc_l_worth (fun vs H Q E h => ?_) (fun cdv A outer s H0 vs Q E hr h => ?_)
  · obtain ⟨_, _, rfl, _⟩ := h
    rfl
  · obtain ⟨y_bits_here, r, rfl, gs_y_bits_here, hm, hQ⟩ := h
    refine ⟨_, (pss_cons (ps_set (i := 1) sc_l_worth.nd rfl (.inl rfl) pe_int) (pss_cons (ps_for PassesOwn.never rfl (pi_str (pv 0)) (pg_name (i := 2) sc_l_worth.nd rfl (Or.inl rfl)) (pss_one (ps_set (i := 1) sc_l_worth.nd rfl (.inl rfl) (pe_op op_add (pe_op op_mul (pv 1) pe_int) (pe_callTy call_toI (by rfl) T.n_int (by decide +kernel) (pa_cons (pe_cmpR op_eq (pv 2) pe_str (nomark _)) pa_nil)))))) (pss_one (ps_ret (pv 1))))), ?_⟩
    have g0 : Gr M0 H0 H0 H0 H0 := Gr.refl (Same.refl _)
    unfold m_l_worth at hm
    refine p_seq ?_
    refine p_asg ?_
    refine p_name ?_
    refine p_nx ?_
    refine p_seq ?_
    refine p_for ?_
    refine ⟨(V.str y_bits_here), rfl, y_bits_here, rfl, ?_⟩
    obtain ⟨y_found1, ht2, hm⟩ := bnd hm
    refine for_str (z := y_bits_here) (fun i σ' H' => ∃ (F' : Hp) (y_found : Int) (o_y_sign : Option V), σ' = [(some (V.str y_bits_here)), (some (V.int y_found)), o_y_sign] ∧ Gr M0 H0 H0 F' H' ∧ Same H0 F' ∧ m_l_worth_l1  ((y_bits_here).cps.toList.drop i) y_found = some y_found1) ?_ ?_ ?_
    · exact ⟨H0, (0 : Int), none, rfl, g0, (Same.refl _), ht2⟩
    · intro i3 xv6 σ' H5 hx4 hP
      obtain ⟨F7, y_found8, o_y_sign9, rfl, g10, sm11, hm12⟩ := hP
      have he14 := str_at hx4
      rw [drop_at he14, m_l_worth_l1.eq_2] at hm12
      refine p_name ?_
      refine p_asg ?_
      refine ⟨(V.int y_found8), rfl, _, _, rfl, rfl, (.inr ⟨by decide, by decide⟩), (V.str (sgn xv6)), rfl, rfl, _, rfl, _, _, rfl, rfl, ?_⟩
      obtain ⟨y_found15, hb16, hm12⟩ := bnd hm12
      have hx17 : ((y_found8 * (2 : Int)) + (toI (eqS (sgn xv6) ("1" : Str)))) = y_found15 := sjoin hb16
      refine p_nm (v' := (V.int y_found15)) (congrArg V.int hx17) ?_
      exact ⟨F7, y_found15, (some (V.str (sgn xv6))), rfl, g10, sm11, hm12⟩
    intro σ18 H19 hP
    obtain ⟨F20, y_found21, o_y_sign22, rfl, g23, sm24, hm25⟩ := hP
    rw [drop_end str_size, m_l_worth_l1.eq_1] at hm25
    obtain rfl := sjoin hm25
    refine p_nx ?_
    refine p_ret ?_
    obtain rfl := sjoin hm
    refine ⟨(V.int y_found21), rfl, (hQ _ _ g23)⟩
end K07
namespace K07
open PySem PySem.Spec PyProof.Rows L2 TL G
theorem ok_l_size {P : Program} {w : World} {K : PySem.W.Frag} {mg : Str → Option Value} {base : Heap} (T : Txt K mg) : FnOk P w K mg base CX0 2 T.a_l_size T.d_l_size ["_law_bag_here"] (sp_l_size K) := by
  have G_l_draw : FnOk P w K mg base CX0 1 T.a_l_draw T.d_l_draw ["_law_bag_here", "_law_many"] (sp_l_draw K) := ok_l_draw T
  have b_l_draw := T.F_l_draw.bindsN (ps := ["_law_bag_here", "_law_many"]) fun _ _ _ _ _ _ us hl => match us, hl with | [_, _], _ => rfl
  refine fd_ok T.F_l_size sc_l_size (fun vs H Q E h => ?_) (fun cdv A outer s H0 vs Q E hr h => ?_)
  · obtain ⟨_, _, _, _, _, _, rfl, _⟩ := h
    rfl
  · obtain ⟨F0, B, C, b, r, b', rfl, hS0, hB, hm, hQ⟩ := h
    refine ⟨_, (pss_one (ps_ret (pe_ix (ix_listK (K := K)) (pe_lst (pa_cons (pe_op op_add pe_int (pe_call G_l_draw (hr.mono (by decide)) (by rfl) T.g_l_draw T.F_l_draw.kp b_l_draw .nil pass0 (pa_cons (pv 0) (pa_cons pe_int pa_nil)))) (pa_cons (pe_op op_add pe_int (pe_call G_l_draw (hr.mono (by decide)) (by rfl) T.g_l_draw T.F_l_draw.kp b_l_draw .nil pass0 (pa_cons (pv 0) (pa_cons pe_int pa_nil)))) (pa_cons pe_int (pa_cons (pe_op op_add pe_int (pe_call G_l_draw (hr.mono (by decide)) (by rfl) T.g_l_draw T.F_l_draw.kp b_l_draw .nil pass0 (pa_cons (pv 0) (pa_cons pe_int pa_nil)))) pa_nil))))) (pe_call G_l_draw (hr.mono (by decide)) (by rfl) T.g_l_draw T.F_l_draw.kp b_l_draw .nil pass0 (pa_cons (pv 0) (pa_cons pe_int pa_nil))) (fun _ _ => rfl)))), ?_⟩
    have g0 : Gr (Bc B C) F0 H0 F0 H0 := Gr.refl hS0
    unfold m_l_size at hm
    refine p_ret ?_
    obtain ⟨r1, b2, hb3, hm⟩ := bnd2 hm
    refine ⟨(V.ref B), rfl, F0, B, C, b, (6 : Int), r1, b2, rfl, g0.fh, hB, hb3, fun F4 H5 g6 hB7 => ?_⟩
    have g9 := Gr.trans g0 g6
    obtain ⟨r10, b11, hb12, hm⟩ := bnd2 hm
    refine ⟨_, _, rfl, rfl, (V.ref B), rfl, F4, B, C, b2, (30 : Int), r10, b11, rfl, g9.fh, hB7, hb12, fun F13 H14 g15 hB16 => ?_⟩
    have g18 := Gr.trans g9 g15
    obtain ⟨r19, b20, hb21, hm⟩ := bnd2 hm
    refine ⟨_, _, rfl, rfl, (V.ref B), rfl, F13, B, C, b11, (3 : Int), r19, b20, rfl, g18.fh, hB16, hb21, fun F22 H23 g24 hB25 => ?_⟩
    have g27 := Gr.trans g18 g24
    refine ⟨_, _, rfl, rfl, (by show 4 ≤ sizeLine; decide), fun p28 np29 => ?_⟩
    have nb30 := hB25.nb np29
    have g31 := g27.own (o := (.lst [(V.int ((1 : Int) + r1)), (V.int ((1 : Int) + r10)), (V.int (30 : Int)), (V.int ((1 : Int) + r19))])) np29
    have hB32 := hB25.own (o := (.lst [(V.int ((1 : Int) + r1)), (V.int ((1 : Int) + r10)), (V.int (30 : Int)), (V.int ((1 : Int) + r19))])) np29
    have ow33 : Ow H0 F22 (upd H23 p28 (.lst [(V.int ((1 : Int) + r1)), (V.int ((1 : Int) + r10)), (V.int (30 : Int)), (V.int ((1 : Int) + r19))])) p28 [(V.int ((1 : Int) + r1)), (V.int ((1 : Int) + r10)), (V.int (30 : Int)), (V.int ((1 : Int) + r19))] := Ow.new g27 np29
    have hA34 : RL K F22 [(V.int ((1 : Int) + r1)), (V.int ((1 : Int) + r10)), (V.int (30 : Int)), (V.int ((1 : Int) + r19))] ([((1 : Int) + r1), ((1 : Int) + r10), (30 : Int), ((1 : Int) + r19)] : List Int) := (RpA.cons (Rp.int ((1 : Int) + r1)) (RpA.cons (Rp.int ((1 : Int) + r10)) (RpA.cons (Rp.int (30 : Int)) (RpA.cons (Rp.int ((1 : Int) + r19)) RpA.nil))))
    obtain ⟨r35, b36, hb37, hm⟩ := bnd2 hm
    refine ⟨(V.ref B), rfl, F22, B, C, b20, (4 : Int), r35, b36, rfl, g31.fh, hB32, hb37, fun F38 H39 g40 hB41 => ?_⟩
    have g43 := Gr.trans g31 g40
    have ow44 := ow33.gr g40 nb30
    obtain ⟨t45, hb46, hm⟩ := bnd hm
    obtain ⟨v47, ha48, r49⟩ := RL.at (hA34.up g40.ff) hb46
    obtain rfl := R.int_v r49
    obtain ⟨rfl, rfl⟩ := pjoin hm
    refine ⟨p28, [(V.int ((1 : Int) + r1)), (V.int ((1 : Int) + r10)), (V.int (30 : Int)), (V.int ((1 : Int) + r19))], _, (V.int t45), rfl, rfl, ow44.sq, ha48, (hQ _ _ g43 hB41)⟩
end K07
namespace K07
open PySem PySem.Spec PyProof.Rows L2 TL G
theorem ok_l_one {P : Program} {w : World} {K : PySem.W.Frag} {mg : Str → Option Value} {base : Heap} (T : Txt K mg) : FnOk P w K mg base CX0 3 T.a_l_one T.d_l_one ["_law_bag_here", "_law_size_here", "_law_some_here"] (sp_l_one K) := by
  have G_l_bits : FnOk P w K mg base CX0 2 T.a_l_bits T.d_l_bits ["_law_bag_here", "_law_size_here"] (sp_l_bits K) := ok_l_bits T
  have b_l_bits := T.F_l_bits.bindsN (ps := ["_law_bag_here", "_law_size_here"]) fun _ _ _ _ _ _ us hl => match us, hl with | [_, _], _ => rfl
  have G_l_draw : FnOk P w K mg base CX0 1 T.a_l_draw T.d_l_draw ["_law_bag_here", "_law_many"] (sp_l_draw K) := ok_l_draw T
  have b_l_draw := T.F_l_draw.bindsN (ps := ["_law_bag_here", "_law_many"]) fun _ _ _ _ _ _ us hl => match us, hl with | [_, _], _ => rfl
  refine fd_ok T.F_l_one sc_l_one (fun vs H Q E h => ?_) (fun cdv A outer s H0 vs Q E hr h => ?_)
  · obtain ⟨_, _, _, _, _, _, _, _, _, _, rfl, _⟩ := h
    rfl
  · obtain ⟨F0, B, C, b, y_size_here, p_y_some_here, ws_y_some_here, y_some_here, r, b', rfl, hS0, hB, hS_y_some_here, hl_y_some_here, hA_y_some_here, nm_y_some_here, hm, hQ⟩ := h
    refine ⟨_, (pss_cons (ps_set (i := 3) sc_l_one.nd rfl (.inl rfl) (pe_call G_l_bits (hr.mono (by decide)) (by rfl) T.g_l_bits T.F_l_bits.kp b_l_bits .nil pass0 (pa_cons (pv 0) (pa_cons (pe_call G_l_draw (hr.mono (by decide)) (by rfl) T.g_l_draw T.F_l_draw.kp b_l_draw .nil pass0 (pa_cons (pv 0) (pa_cons (pe_op op_add (pv 1) pe_int) pa_nil))) pa_nil)))) (pss_cons (ps_set (i := 4) sc_l_one.nd rfl (.inl rfl) (pe_call G_l_draw (hr.mono (by decide)) (by rfl) T.g_l_draw T.F_l_draw.kp b_l_draw .nil pass0 (pa_cons (pv 0) (pa_cons pe_int pa_nil)))) (pss_cut (ps_if (PW.pt (pw_and (pt_cmpR (op_neDK (K := K) hr.units) (pv 2) (pe_lst pa_nil) (nomark _)) (pw_and1 (pt_cmpR op_lt (pv 4) pe_int (nomark _))))) (pss_cons (ps_set (i := 5) sc_l_one.nd rfl (.inl rfl) (pe_bmK (K := K) PySem.F.plainAttrs_str PySem.F.slot_str_strip PySem.F.type_str_strip mt_stripChars (pe_ix (ix_listK (K := K)) (pv 2) (pe_call G_l_draw (hr.mono (by decide)) (by rfl) T.g_l_draw T.F_l_draw.kp b_l_draw .nil pass0 (pa_cons (pv 0) (pa_cons (pe_callB (call_lenLK (K := K)) (by rfl) T.n_len (by decide +kernel) (pa_cons (pv 2) pa_nil)) pa_nil))) (fun _ _ => rfl)) (pa_cons pe_str pa_nil))) (pss_cons (ps_set (i := 6) sc_l_one.nd rfl (.inl rfl) (pe_dget2 (hu_of hr) (pe_disp (pps_cons pe_str pe_str (pps_cons pe_str pe_str pps_nil)) (by rfl) (by rfl) (fun z => by cases z) (by decide)) (pe_slice sl_str (pv 5) (po_some (pe_un un_neg pe_int)) po_none) pe_str ⟨by rfl, by rfl, by rfl, by rfl⟩)) (pss_cons (ps_set (i := 7) sc_l_one.nd rfl (.inl rfl) (pe_call G_l_draw (hr.mono (by decide)) (by rfl) T.g_l_draw T.F_l_draw.kp b_l_draw .nil pass0 (pa_cons (pv 0) (pa_cons (pe_op op_add (pe_callB call_len_str (by rfl) T.n_len (by decide +kernel) (pa_cons (pv 5) pa_nil)) pe_int) pa_nil)))) (pss_one (ps_set (i := 3) sc_l_one.nd rfl (.inl rfl) (pe_ix (ix_listK (K := K)) (pe_lst (pa_cons (pe_slice sl_str (pv 5) po_none (po_some (pv 7))) (pa_cons (pe_op op_add_str (pv 5) (pe_ix ix_str pe_str (pe_call G_l_draw (hr.mono (by decide)) (by rfl) T.g_l_draw T.F_l_draw.kp b_l_draw .nil pass0 (pa_cons (pv 0) (pa_cons pe_int pa_nil))) (fun _ _ => rfl))) (pa_cons (pe_op op_add_str (pe_slice sl_str (pv 5) po_none (po_some (pe_un un_neg pe_int))) (pv 6)) pa_nil)))) (pv 4) (fun _ _ => rfl))))))) pss_nil) (pss_cut (ps_if (pt_cmpR op_eq (pv 4) pe_int (nomark _)) (pss_one (ps_set (i := 3) sc_l_one.nd rfl (.inl rfl) (pe_op op_add_str (pv 3) (pe_call G_l_bits (hr.mono (by decide)) (by rfl) T.g_l_bits T.F_l_bits.kp b_l_bits .nil pass0 (pa_cons (pv 0) (pa_cons (pe_op op_sub (pv 1) (pe_callB call_len_str (by rfl) T.n_len (by decide +kernel) (pa_cons (pv 3) pa_nil))) pa_nil)))))) pss_nil) (pss_cons (ps_set (i := 3) sc_l_one.nd rfl (.inl rfl) (pe_slice sl_str (pv 3) po_none (po_some (pv 1)))) (pss_one (ps_ret (pe_op op_add_str (pv 3) (pe_op op_mulS pe_str (pe_callTy call_toI (by rfl) T.n_int (by decide +kernel) (pa_cons (pe_cmpR op_lt (pe_callB call_len_str (by rfl) T.n_len (by decide +kernel) (pa_cons (pv 3) pa_nil)) (pv 1) (nomark _)) pa_nil))))))))))), ?_⟩
    have g0 : Gr (Bc B C) F0 H0 F0 H0 := Gr.refl hS0
    unfold m_l_one at hm
    refine p_seq ?_
    refine p_asg ?_
    obtain ⟨r1, b2, hb3, hm⟩ := bnd2 hm
    refine ⟨(V.ref B), rfl, (V.ref B), rfl, (V.int y_size_here), rfl, _, _, rfl, rfl, F0, B, C, b, (y_size_here + (1 : Int)), r1, b2, rfl, g0.fh, hB, hb3, fun F4 H5 g6 hB7 => ?_⟩
    have g9 := Gr.trans g0 g6
    obtain ⟨r10, b11, hb12, hm⟩ := bnd2 hm
    refine ⟨F4, B, C, b2, r1, r10, b11, rfl, g9.fh, hB7, hb12, fun F13 H14 g15 hB16 gs17 => ?_⟩
    have g18 := Gr.trans g9 g15
    refine p_name ?_
    refine p_nx ?_
    refine p_seq ?_
    refine p_asg ?_
    obtain ⟨r19, b20, hb21, hm⟩ := bnd2 hm
    refine ⟨(V.ref B), rfl, F13, B, C, b11, (5 : Int), r19, b20, rfl, g18.fh, hB16, hb21, fun F22 H23 g24 hB25 => ?_⟩
    have g27 := Gr.trans g18 g24
    refine p_name ?_
    refine p_nx ?_
    obtain ⟨y_bits_here28, b29, hj30, hm⟩ := bnd2 hm
    refine ⟨fun σ' H' => ∃ (F' : Hp) (o_y_near : Option V) (o_y_turned : Option V) (o_y_cut : Option V), σ' = [(some (V.ref B)), (some (V.int y_size_here)), (some (V.ref p_y_some_here)), (some (V.str y_bits_here28)), (some (V.int r19)), o_y_near, o_y_turned, o_y_cut] ∧ Gr (Bc B C) F0 H0 F' H' ∧ Same F22 F' ∧ GS y_bits_here28 ∧ BagAt F' H' B C b29, ?_, ?_⟩
    · refine p_if ?_
      refine ⟨(V.ref p_y_some_here), rfl, (by show 0 ≤ sizeLine; decide), fun p31 np32 => ?_⟩
      have nb33 := hB25.nb np32
      have g34 := g27.own (o := (.lst [])) np32
      have hB35 := hB25.own (o := (.lst [])) np32
      have ow36 : Ow H0 F22 (upd H23 p31 (.lst [])) p31 [] := Ow.new g27 np32
      have rH38 : R K (upd H23 p31 (.lst [])) (V.ref p_y_some_here) y_some_here := (R.mkl (g34.seq nm_y_some_here hS_y_some_here) hl_y_some_here (RpA.up (hA_y_some_here.up (Same.trans g6.ff (Same.trans g15.ff g24.ff))) g34.fh))
      have rH39 : R K (upd H23 p31 (.lst [])) (V.ref p31) ([] : (List Str)) := (R.mkl ow36.sq (by show 0 ≤ sizeLine; decide) (RpA.up RpA.nil g34.fh))
      refine ⟨_, _, (Rp.dp _ _ rH38), (Rp.dp _ _ rH39), (R.shaped rH38), (R.shaped rH39), _, rfl, ?_⟩
      refine andJT (M := M0) (F := F22) (c := ((!eqD y_some_here ([] : (List Str))) && (decide (r19 < (3 : Int))))) (P := fun _ _ => True) (fun ha => ?_) (fun ha => ⟨(anF ha), trivial⟩) g34.fh ?_
      · intro Q43 q44
        refine ⟨(V.int r19), rfl, _, _, rfl, rfl, _, rfl, (qTb ha (q44 _ _ (Gr.refl (M := M0) g34.fh) trivial))⟩
      intro F45 H46 g47 hB48
      have g49 := Gr.trans g34 (Gr.of0 g47)
      have ow50 := ow36.gr0 g47
      have hB51 := hB35.gr0 g47
      refine (iteB (fun hc => ?_) (fun hc => ?_))
      · have hj30 := ifT hc hj30
        refine p_seq ?_
        refine p_asg ?_
        obtain ⟨r52, b53, hb54, hj30⟩ := bnd2 hj30
        refine ⟨(V.ref p_y_some_here), rfl, (V.ref B), rfl, (V.ref p_y_some_here), rfl, p_y_some_here, ws_y_some_here, _, rfl, (.inl (g49.seq nm_y_some_here hS_y_some_here)), (RL.len (hA_y_some_here.up (Same.trans g6.ff (Same.trans g15.ff (Same.trans g24.ff g47.ff))))), F45, B, C, b20, (((y_some_here).length : Nat) : Int), r52, b53, rfl, g49.fh, hB51, hb54, fun F55 H56 g57 hB58 => ?_⟩
        have g60 := Gr.trans g49 g57
        have ow61 := ow50.gr g57 nb33
        obtain ⟨t62, hb63, hj30⟩ := bnd hj30
        obtain ⟨v64, ha65, r66⟩ := RL.at (hA_y_some_here.up (Same.trans g6.ff (Same.trans g15.ff (Same.trans g24.ff (Same.trans g47.ff g57.ff))))) hb63
        obtain ⟨rfl, gs67⟩ := R.str_v r66
        refine ⟨p_y_some_here, ws_y_some_here, _, (V.str t62), rfl, rfl, (g60.seq nm_y_some_here hS_y_some_here), ha65, rfl, _, _, rfl, rfl, (gs67 : GS t62).len, ?_⟩
        obtain ⟨y_near68, hb69, hj30⟩ := bnd hj30
        have hx70 : (Txt.stripChars t62 ("*" : Str)) = y_near68 := sjoin hb69
        have gs71 : GS y_near68 := hx70 ▸ ((GS.strip (gs67 : GS t62) ("*" : Str)) : GS (Txt.stripChars t62 ("*" : Str)))
        refine p_nm (v' := (V.str y_near68)) (congrArg V.str hx70) ?_
        refine p_nx ?_
        refine p_seq ?_
        refine p_asg ?_
        refine rd_dgets (k := (cutS y_near68 (some (-(1 : Int))) none)) (d := ("" : Str)) _ [(("0" : Str), ("1" : Str)), (("1" : Str), ("0" : Str))] rfl (by decide) (by decide +kernel) (fun H1 Q q => ⟨(V.str y_near68), rfl, _, rfl, _, rfl, _, rfl, (gs71 : GS y_near68).len, q⟩) (fun H1 Q q => q) (fun p72 np73 => ?_)
        have ne74 := ow61.ne np73
        have nb75 := hB58.nb np73
        have g76 := g60.own (o := (.dK (kvS [(("0" : Str), ("1" : Str)), (("1" : Str), ("0" : Str))]))) np73
        have ow77 := ow61.own (o := (.dK (kvS [(("0" : Str), ("1" : Str)), (("1" : Str), ("0" : Str))]))) np73
        have hB78 := hB58.own (o := (.dK (kvS [(("0" : Str), ("1" : Str)), (("1" : Str), ("0" : Str))]))) np73
        obtain ⟨y_turned79, hb80, hj30⟩ := bnd hj30
        have hx81 : (dgetS [(("0" : Str), ("1" : Str)), (("1" : Str), ("0" : Str))] (cutS y_near68 (some (-(1 : Int))) none) ("" : Str)) = y_turned79 := sjoin hb80
        have gs82 : GS y_turned79 := hx81 ▸ ((GS.dg (fun kv h => by simp only [List.mem_cons, List.not_mem_nil, or_false] at h; rcases h with rfl | rfl <;> exact ⟨by decide +kernel, by decide +kernel⟩) ⟨by decide +kernel, by decide +kernel⟩) : GS (dgetS [(("0" : Str), ("1" : Str)), (("1" : Str), ("0" : Str))] (cutS y_near68 (some (-(1 : Int))) none) ("" : Str)))
        refine p_nm (v' := (V.str y_turned79)) (congrArg V.str hx81) ?_
        refine p_nx ?_
        refine p_seq ?_
        refine p_asg ?_
        obtain ⟨r83, b84, hb85, hj30⟩ := bnd2 hj30
        refine ⟨(V.ref B), rfl, (V.str y_near68), rfl, _, rfl, (gs71 : GS y_near68).len, _, _, rfl, rfl, F55, B, C, b53, (((y_near68.length : Nat) : Int) + (1 : Int)), r83, b84, rfl, g76.fh, hB78, hb85, fun F86 H87 g88 hB89 => ?_⟩
        have g91 := Gr.trans g76 g88
        have ow92 := ow77.gr g88 nb33
        refine p_name ?_
        refine p_nx ?_
        refine p_asg ?_
        obtain ⟨r93, b94, hb95, hj30⟩ := bnd2 hj30
        refine ⟨(V.str y_near68), rfl, (V.int r83), rfl, _, rfl, _, rfl, (gs71 : GS y_near68).len, (V.str y_near68), rfl, (V.ref B), rfl, F86, B, C, b84, (2 : Int), r93, b94, rfl, g91.fh, hB89, hb95, fun F96 H97 g98 hB99 => ?_⟩
        have g101 := Gr.trans g91 g98
        have ow102 := ow92.gr g98 nb33
        obtain ⟨c103, hb104, hj30⟩ := bnd hj30
        obtain ⟨t105, hb106, hj30⟩ := bnd hj30
        obtain ⟨hk107, rfl⟩ := catS_ok hb106
        obtain ⟨t108, hb109, hj30⟩ := bnd hj30
        obtain ⟨hk110, rfl⟩ := catS_ok hb109
        refine ⟨_, _, c103, rfl, rfl, (⟨by decide +kernel, by decide +kernel⟩ : GS ("01" : Str)).len, hb104, _, _, rfl, rfl, hk107, (V.str y_near68), rfl, _, rfl, _, rfl, _, rfl, (gs71 : GS y_near68).len, (V.str y_turned79), rfl, _, _, rfl, rfl, hk110, (by show 3 ≤ sizeLine; decide), fun p111 np112 => ?_⟩
        have ne113 := ow102.ne np112
        have nb114 := hB99.nb np112
        have g115 := g101.own (o := (.lst [(V.str (cutS y_near68 none (some r83))), (V.str (y_near68 ++ (sgn c103))), (V.str ((cutS y_near68 none (some (-(1 : Int)))) ++ y_turned79))])) np112
        have ow116 := ow102.own (o := (.lst [(V.str (cutS y_near68 none (some r83))), (V.str (y_near68 ++ (sgn c103))), (V.str ((cutS y_near68 none (some (-(1 : Int)))) ++ y_turned79))])) np112
        have hB117 := hB99.own (o := (.lst [(V.str (cutS y_near68 none (some r83))), (V.str (y_near68 ++ (sgn c103))), (V.str ((cutS y_near68 none (some (-(1 : Int)))) ++ y_turned79))])) np112
        have ow118 : Ow H0 F96 (upd H97 p111 (.lst [(V.str (cutS y_near68 none (some r83))), (V.str (y_near68 ++ (sgn c103))), (V.str ((cutS y_near68 none (some (-(1 : Int)))) ++ y_turned79))])) p111 [(V.str (cutS y_near68 none (some r83))), (V.str (y_near68 ++ (sgn c103))), (V.str ((cutS y_near68 none (some (-(1 : Int)))) ++ y_turned79))] := Ow.new g101 np112
        have hA119 : RL K F96 [(V.str (cutS y_near68 none (some r83))), (V.str (y_near68 ++ (sgn c103))), (V.str ((cutS y_near68 none (some (-(1 : Int)))) ++ y_turned79))] ([(cutS y_near68 none (some r83)), (y_near68 ++ (sgn c103)), ((cutS y_near68 none (some (-(1 : Int)))) ++ y_turned79)] : List Str) := (RpA.cons (Rp.str (cutS y_near68 none (some r83)) (GS.cut gs71 none (some r83))) (RpA.cons (Rp.str (y_near68 ++ (sgn c103)) (GS.cat gs71 (GS.sg ⟨by decide +kernel, by decide +kernel⟩ (codeAt_mem hb104)) hb106)) (RpA.cons (Rp.str ((cutS y_near68 none (some (-(1 : Int)))) ++ y_turned79) (GS.cat (GS.cut gs71 none (some (-(1 : Int)))) gs82 hb109)) RpA.nil)))
        obtain ⟨t120, hb121, hj30⟩ := bnd hj30
        obtain ⟨v122, ha123, r124⟩ := RL.at hA119 hb121
        obtain ⟨rfl, gs125⟩ := R.str_v r124
        refine ⟨(V.int r19), rfl, p111, [(V.str (cutS y_near68 none (some r83))), (V.str (y_near68 ++ (sgn c103))), (V.str ((cutS y_near68 none (some (-(1 : Int)))) ++ y_turned79))], _, (V.str t120), rfl, rfl, ow118.sq, ha123, ?_⟩
        refine p_name ?_
        obtain ⟨rfl, rfl⟩ := pjoin hj30
        exact ⟨F96, (some (V.str y_near68)), (some (V.str y_turned79)), (some (V.int r83)), rfl, g115, (Same.trans g47.ff (Same.trans g57.ff (Same.trans g88.ff g98.ff))), gs125, hB117⟩
      · have hj30 := ifF hc hj30
        refine p_next ?_
        obtain ⟨rfl, rfl⟩ := pjoin hj30
        exact ⟨F45, none, none, none, rfl, g49, g47.ff, gs17, hB51⟩
    intro σ126 H127 hMid
    obtain ⟨F128, o_y_near134, o_y_turned135, o_y_cut136, rfl, g129, sm130, gs_y_bits_here28131, hB132⟩ := hMid
    obtain ⟨y_bits_here137, b138, hj139, hm⟩ := bnd2 hm
    refine ⟨fun σ' H' => ∃ (F' : Hp), σ' = [(some (V.ref B)), (some (V.int y_size_here)), (some (V.ref p_y_some_here)), (some (V.str y_bits_here137)), (some (V.int r19)), o_y_near134, o_y_turned135, o_y_cut136] ∧ Gr (Bc B C) F0 H0 F' H' ∧ Same F128 F' ∧ GS y_bits_here137 ∧ BagAt F' H' B C b138, ?_, ?_⟩
    · refine p_if ?_
      refine ⟨(V.int r19), rfl, rfl, _, rfl, (iteB (fun hc => ?_) (fun hc => ?_))⟩
      · have hj139 := ifT hc hj139
        refine p_asg ?_
        obtain ⟨r140, b141, hb142, hj139⟩ := bnd2 hj139
        refine ⟨(V.str y_bits_here28), rfl, (V.ref B), rfl, (V.int y_size_here), rfl, (V.str y_bits_here28), rfl, _, rfl, (gs_y_bits_here28131 : GS y_bits_here28).len, _, _, rfl, rfl, F128, B, C, b29, (y_size_here - ((y_bits_here28.length : Nat) : Int)), r140, b141, rfl, g129.fh, hB132, hb142, fun F143 H144 g145 hB146 gs147 => ?_⟩
        have g148 := Gr.trans g129 g145
        obtain ⟨t149, hb150, hj139⟩ := bnd hj139
        obtain ⟨hk151, rfl⟩ := catS_ok hb150
        refine ⟨_, _, rfl, rfl, hk151, ?_⟩
        obtain ⟨y_bits_here152, hx153⟩ : ∃ z_, (y_bits_here28 ++ r140) = z_ := ⟨_, rfl⟩
        try rw [hx153] at hj139
        have gs154 : GS y_bits_here152 := hx153 ▸ ((GS.cat gs_y_bits_here28131 gs147 hb150) : GS (y_bits_here28 ++ r140))
        refine p_nm (v' := (V.str y_bits_here152)) (congrArg V.str hx153) ?_
        obtain ⟨rfl, rfl⟩ := pjoin hj139
        exact ⟨F143, rfl, g148, g145.ff, gs154, hB146⟩
      · have hj139 := ifF hc hj139
        refine p_next ?_
        obtain ⟨rfl, rfl⟩ := pjoin hj139
        exact ⟨F128, rfl, g129, (Same.refl _), gs_y_bits_here28131, hB132⟩
    intro σ155 H156 hMid
    obtain ⟨F157, rfl, g158, sm159, gs_y_bits_here137160, hB161⟩ := hMid
    refine p_seq ?_
    refine p_asg ?_
    refine ⟨(V.str y_bits_here137), rfl, (V.int y_size_here), rfl, _, rfl, _, rfl, (gs_y_bits_here137160 : GS y_bits_here137).len, ?_⟩
    obtain ⟨y_bits_here163, hb164, hm⟩ := bnd hm
    have hx165 : (cutS y_bits_here137 none (some y_size_here)) = y_bits_here163 := sjoin hb164
    have gs166 : GS y_bits_here163 := hx165 ▸ ((GS.cut gs_y_bits_here137160 none (some y_size_here)) : GS (cutS y_bits_here137 none (some y_size_here)))
    refine p_nm (v' := (V.str y_bits_here163)) (congrArg V.str hx165) ?_
    refine p_nx ?_
    refine p_ret ?_
    obtain ⟨t167, hb168, hm⟩ := bnd hm
    obtain ⟨hk169, rfl⟩ := mulS_ok hb168
    obtain ⟨t170, hb171, hm⟩ := bnd hm
    obtain ⟨hk172, rfl⟩ := catS_ok hb171
    obtain ⟨rfl, rfl⟩ := pjoin hm
    refine ⟨(V.str y_bits_here163), rfl, (V.str y_bits_here163), rfl, _, rfl, (gs166 : GS y_bits_here163).len, (V.int y_size_here), rfl, _, _, rfl, rfl, _, rfl, _, _, rfl, rfl, hk169, _, _, rfl, rfl, hk172, (hQ _ _ g158 hB161 (GS.cat gs166 (GS.mul ⟨by decide +kernel, by decide +kernel⟩ hb168) hb171))⟩
end K07
namespace K07
open PySem PySem.Spec PyProof.Rows L2 TL G
theorem ok_l_some {P : Program} {w : World} {K : PySem.W.Frag} {mg : Str → Option Value} {base : Heap} (T : Txt K mg) : FnOk P w K mg base CX0 4 T.a_l_some T.d_l_some ["_law_bag_here", "_law_size_here", "_law_most"] (sp_l_some K) := by
  have G_l_draw : FnOk P w K mg base CX0 1 T.a_l_draw T.d_l_draw ["_law_bag_here", "_law_many"] (sp_l_draw K) := ok_l_draw T
  have b_l_draw := T.F_l_draw.bindsN (ps := ["_law_bag_here", "_law_many"]) fun _ _ _ _ _ _ us hl => match us, hl with | [_, _], _ => rfl
  have G_l_one : FnOk P w K mg base CX0 3 T.a_l_one T.d_l_one ["_law_bag_here", "_law_size_here", "_law_some_here"] (sp_l_one K) := ok_l_one T
  have b_l_one := T.F_l_one.bindsN (ps := ["_law_bag_here", "_law_size_here", "_law_some_here"]) fun _ _ _ _ _ _ us hl => match us, hl with | [_, _, _], _ => rfl
  refine fd_ok T.F_l_some sc_l_some (fun vs H Q E h => ?_) (fun cdv A outer s H0 vs Q E hr h => ?_)
  · obtain ⟨_, _, _, _, _, _, _, _, rfl, _⟩ := h
    rfl
  · obtain ⟨F0, B, C, b, y_size_here, y_most, r, b', rfl, hS0, hB, hm, hQ⟩ := h
    refine ⟨_, (pss_cons (ps_set (i := 3) sc_l_some.nd rfl (.inl rfl) (pe_lst pa_nil)) (pss_cons (ps_for PassesOwn.never rfl (pi_range1 (by rfl) T.n_range (pa_cons (pe_ix (ix_listK (K := K)) (pe_lst (pa_cons (pe_call G_l_draw (hr.mono (by decide)) (by rfl) T.g_l_draw T.F_l_draw.kp b_l_draw .nil pass0 (pa_cons (pv 0) (pa_cons pe_int pa_nil))) (pa_cons (pe_call G_l_draw (hr.mono (by decide)) (by rfl) T.g_l_draw T.F_l_draw.kp b_l_draw .nil pass0 (pa_cons (pv 0) (pa_cons (pe_op op_add (pv 2) pe_int) pa_nil))) pa_nil))) (pe_call G_l_draw (hr.mono (by decide)) (by rfl) T.g_l_draw T.F_l_draw.kp b_l_draw .nil pass0 (pa_cons (pv 0) (pa_cons pe_int pa_nil))) (fun _ _ => rfl)) pa_nil)) (pg_name (i := 4) sc_l_some.nd rfl (Or.inl rfl)) (pss_one (ps_expr (pe_bmK (K := K) PySem.F.plainAttrs_list PySem.F.slot_list_append PySem.F.type_list_append mt_append (pv 3) (pa_cons (pe_call G_l_one (hr.mono (by decide)) (by rfl) T.g_l_one T.F_l_one.kp b_l_one .nil pass0 (pa_cons (pv 0) (pa_cons (pv 1) (pa_cons (pv 3) pa_nil)))) pa_nil))))) (pss_one (ps_ret (pv 3))))), ?_⟩
    have g0 : Gr (Bc B C) F0 H0 F0 H0 := Gr.refl hS0
    unfold m_l_some at hm
    refine p_seq ?_
    refine p_asg ?_
    refine ⟨(by show 0 ≤ sizeLine; decide), fun p1 np2 => ?_⟩
    have nb3 := hB.nb np2
    have g4 := g0.own (o := (.lst [])) np2
    have hB5 := hB.own (o := (.lst [])) np2
    have ow6 : Ow H0 F0 (upd H0 p1 (.lst [])) p1 [] := Ow.new g0 np2
    refine p_name ?_
    refine p_nx ?_
    refine p_seq ?_
    refine p_for ?_
    obtain ⟨r8, b9, hb10, hm⟩ := bnd2 hm
    refine ⟨(V.ref B), rfl, F0, B, C, b, (6 : Int), r8, b9, rfl, g4.fh, hB5, hb10, fun F11 H12 g13 hB14 => ?_⟩
    have g16 := Gr.trans g4 g13
    have ow17 := ow6.gr g13 nb3
    obtain ⟨r18, b19, hb20, hm⟩ := bnd2 hm
    refine ⟨(V.ref B), rfl, (V.int y_most), rfl, _, _, rfl, rfl, F11, B, C, b9, (y_most + (1 : Int)), r18, b19, rfl, g16.fh, hB14, hb20, fun F21 H22 g23 hB24 => ?_⟩
    have g26 := Gr.trans g16 g23
    have ow27 := ow17.gr g23 nb3
    refine ⟨(by show 2 ≤ sizeLine; decide), fun p28 np29 => ?_⟩
    have ne30 := ow27.ne np29
    have nb31 := hB24.nb np29
    have g32 := g26.own (o := (.lst [(V.int r8), (V.int r18)])) np29
    have ow33 := ow27.own (o := (.lst [(V.int r8), (V.int r18)])) np29
    have hB34 := hB24.own (o := (.lst [(V.int r8), (V.int r18)])) np29
    have ow35 : Ow H0 F21 (upd H22 p28 (.lst [(V.int r8), (V.int r18)])) p28 [(V.int r8), (V.int r18)] := Ow.new g26 np29
    have hA36 : RL K F21 [(V.int r8), (V.int r18)] ([r8, r18] : List Int) := (RpA.cons (Rp.int r8) (RpA.cons (Rp.int r18) RpA.nil))
    obtain ⟨r37, b38, hb39, hm⟩ := bnd2 hm
    refine ⟨(V.ref B), rfl, F21, B, C, b19, (2 : Int), r37, b38, rfl, g32.fh, hB34, hb39, fun F40 H41 g42 hB43 => ?_⟩
    have g45 := Gr.trans g32 g42
    have ow46 := ow33.gr g42 nb3
    have ow47 := ow35.gr g42 nb31
    obtain ⟨t48, hb49, hm⟩ := bnd hm
    obtain ⟨v50, ha51, r52⟩ := RL.at (hA36.up g42.ff) hb49
    obtain rfl := R.int_v r52
    obtain ⟨l53, hb55, hm⟩ := bnd hm
    obtain ⟨hk54, rfl⟩ := rangeO1_ok hb55
    refine ⟨p28, [(V.int r8), (V.int r18)], _, (V.int t48), rfl, rfl, ow47.sq, ha51, _, rfl, hk54.1.1, hk54.1.2, ?_⟩
    obtain ⟨y_found56, b57, ht58, hm⟩ := bnd2 hm
    refine for_range (lo := (0 : Int)) (n := (t48).toNat) (fun i σ' H' => ∃ (F' : Hp) (o_y_k : Option V) (y_found : (List Str)) (ws_y_found : List V) (b : Bag), σ' = [(some (V.ref B)), (some (V.int y_size_here)), (some (V.int y_most)), (some (V.ref p1)), o_y_k] ∧ Gr (Bc B C) F0 H0 F' H' ∧ Same F40 F' ∧ Ow H0 F' H' p1 ws_y_found ∧ ws_y_found.length ≤ sizeLine ∧ RL K F' ws_y_found y_found ∧ BagAt F' H' B C b ∧ m_l_some_l1 y_size_here ((rangeL (0 : Int) (t48).toNat).drop i) y_found b = some (y_found56, b57)) ?_ ?_ ?_
    · exact ⟨F40, none, ([] : (List Str)), [], b38, rfl, g45, (Same.refl _), ow46, (by show 0 ≤ sizeLine; decide), (RpA.nil.up (Same.trans g13.ff (Same.trans g23.ff g42.ff))), hB43, ht58⟩
    · intro i59 σ' H61 hx60 hP
      obtain ⟨F63, o_y_k64, y_found65, ws_y_found66, b67, rfl, g68, sm69, ow_y_found70, hl_y_found71, hA_y_found72, hB73, hm74⟩ := hP
      have he76 := rangeL_at (lo := (0 : Int)) hx60
      rw [drop_at he76, m_l_some_l1.eq_2] at hm74
      refine p_name ?_
      refine p_drop ?_
      obtain ⟨r77, b78, hb79, hm74⟩ := bnd2 hm74
      refine ⟨(V.ref p1), rfl, (.inl ⟨rfl, _, ow_y_found70.sq⟩), (V.ref B), rfl, (V.int y_size_here), rfl, (V.ref p1), rfl, F63, B, C, b67, y_size_here, p1, ws_y_found66, y_found65, r77, b78, rfl, g68.fh, hB73, ow_y_found70.sq, hl_y_found71, hA_y_found72, nb3, hb79, fun F80 H81 g82 hB83 gs84 => ?_⟩
      have g85 := Gr.trans g68 g82
      have ow86 := ow_y_found70.gr g82 nb3
      obtain ⟨t87, hb88, hm74⟩ := bnd hm74
      obtain ⟨hk89, rfl⟩ := appL_ok hb88
      refine ⟨p1, ws_y_found66, (V.str r77), rfl, rfl, ow86.h, (by rw [RL.len (hA_y_found72.up g82.ff)]; exact hk89), ?_⟩
      have hA90 : RL K F80 (ws_y_found66 ++ [(V.str r77)]) (y_found65 ++ [(r77 : Str)]) := RL.snoc (hA_y_found72.up g82.ff) (Rp.str r77 gs84)
      have hl91 : (ws_y_found66 ++ [(V.str r77)]).length ≤ sizeLine := by rw [List.length_append, RL.len (hA_y_found72.up g82.ff)]; exact hk89
      have g92 := g85.put (o := (.lst (ws_y_found66 ++ [(V.str r77)]))) ow86
      have hB93 := hB83.other (o := (.lst (ws_y_found66 ++ [(V.str r77)]))) nb3
      have ow94 := ow86.put (us := (ws_y_found66 ++ [(V.str r77)]))
      exact ⟨F80, (some (V.int ((0 : Int) + ((i59 : Nat) : Int)))), (y_found65 ++ [r77]), (ws_y_found66 ++ [(V.str r77)]), b78, rfl, g92, (Same.trans sm69 g82.ff), ow94, hl91, hA90, hB93, hm74⟩
    intro σ95 H96 hP
    obtain ⟨F97, o_y_k98, y_found99, ws_y_found100, b101, rfl, g102, sm103, ow_y_found104, hl_y_found105, hA_y_found106, hB107, hm108⟩ := hP
    rw [drop_end (rangeL_len _ _).symm, m_l_some_l1.eq_1] at hm108
    obtain ⟨rfl, rfl⟩ := pjoin hm108
    refine p_nx ?_
    refine p_ret ?_
    obtain ⟨rfl, rfl⟩ := pjoin hm
    refine ⟨(V.ref p1), rfl, (hQ _ _ _ _ g102 hB107 ow_y_found104.n0 ow_y_found104.h ow_y_found104.nF hl_y_found105 hA_y_found106)⟩
end K07
namespace K07
open PySem PySem.Spec PyProof.Rows L2 TL G
theorem ok_l_nested {P : Program} {w : World} {K : PySem.W.Frag} {mg : Str → Option Value} {base : Heap} (T : Txt K mg) : FnOk P w K mg base CX0 4 T.a_l_nested T.d_l_nested ["_law_one_here", "_law_other", "_law_size_here"] (sp_l_nested K) := by
  have G_span_of : FnOk P w K mg base CX0 2 T.a_span_of T.d_span_of ["pattern", "width"] (sp_span_of K) := ok_span_of T
  have b_span_of := T.F_span_of.bindsN (ps := ["pattern", "width"]) fun _ _ _ _ _ _ us hl => match us, hl with | [_, _], _ => rfl
  have G_has : FnOk P w K mg base CX0 3 T.a_has T.d_has ["pattern", "address", "width"] (sp_has K) := ok_has T
  have b_has := T.F_has.bindsN (ps := ["pattern", "address", "width"]) fun _ _ _ _ _ _ us hl => match us, hl with | [_, _, _], _ => rfl
  refine fd_ok T.F_l_nested sc_l_nested (fun vs H Q E h => ?_) (fun cdv A outer s H0 vs Q E hr h => ?_)
  · obtain ⟨_, _, _, _, rfl, _⟩ := h
    rfl
  · obtain ⟨y_one_here, y_other, y_size_here, r, rfl, gs_y_one_here, gs_y_other, hm, hQ⟩ := h
    refine ⟨_, (pss_cons (ps_asg (pe_call G_span_of (hr.mono (by decide)) (by rfl) T.g_span_of T.F_span_of.kp b_span_of .nil pass0 (pa_cons (pv 0) (pa_cons (pv 2) pa_nil))) (pg_tupK (K := K) 2 rfl (pgs_cons (pg_name (i := 3) sc_l_nested.nd rfl (Or.inl rfl)) (pgs_cons (pg_name (i := 4) sc_l_nested.nd rfl (Or.inl rfl)) pgs_nil)))) (pss_cons (ps_asg (pe_call G_span_of (hr.mono (by decide)) (by rfl) T.g_span_of T.F_span_of.kp b_span_of .nil pass0 (pa_cons (pv 1) (pa_cons (pv 2) pa_nil))) (pg_tupK (K := K) 2 rfl (pgs_cons (pg_name (i := 5) sc_l_nested.nd rfl (Or.inl rfl)) (pgs_cons (pg_name (i := 6) sc_l_nested.nd rfl (Or.inl rfl)) pgs_nil)))) (pss_cons (ps_if (PW.pt (pw_and (pt_cmpR op_le (pv 3) (pv 5) (nomark _)) (pw_and1 (pt_cmpR op_le (pv 6) (pv 4) (nomark _))))) (pss_one (ps_ret (pe_and (pe_call G_has (hr.mono (by decide)) (by rfl) T.g_has T.F_has.kp b_has .nil pass0 (pa_cons (pv 0) (pa_cons (pv 5) (pa_cons (pv 2) pa_nil)))) (pe_one (pe_call G_has (hr.mono (by decide)) (by rfl) T.g_has T.F_has.kp b_has .nil pass0 (pa_cons (pv 0) (pa_cons (pe_op op_sub (pv 6) pe_int) (pa_cons (pv 2) pa_nil)))))))) pss_nil) (pss_cons (ps_if (PW.pt (pw_and (pt_cmpR op_le (pv 5) (pv 3) (nomark _)) (pw_and1 (pt_cmpR op_le (pv 4) (pv 6) (nomark _))))) (pss_one (ps_ret (pe_and (pe_call G_has (hr.mono (by decide)) (by rfl) T.g_has T.F_has.kp b_has .nil pass0 (pa_cons (pv 1) (pa_cons (pv 3) (pa_cons (pv 2) pa_nil)))) (pe_one (pe_call G_has (hr.mono (by decide)) (by rfl) T.g_has T.F_has.kp b_has .nil pass0 (pa_cons (pv 1) (pa_cons (pe_op op_sub (pv 4) pe_int) (pa_cons (pv 2) pa_nil)))))))) pss_nil) (pss_cons (ps_if (PW.pt (pw_or (pt_val (pe_call G_has (hr.mono (by decide)) (by rfl) T.g_has T.F_has.kp b_has .nil pass0 (pa_cons (pv 0) (pa_cons (pv 5) (pa_cons (pv 2) pa_nil))))) (pw_or1 (pt_val (pe_call G_has (hr.mono (by decide)) (by rfl) T.g_has T.F_has.kp b_has .nil pass0 (pa_cons (pv 1) (pa_cons (pv 3) (pa_cons (pv 2) pa_nil)))))))) (pss_one (ps_ret pe_bl)) pss_nil) (pss_one (ps_ret (pe_or (pe_cmpR op_le (pv 4) (pv 5) (nomark _)) (pe_one (pe_cmpR op_le (pv 6) (pv 3) (nomark _))))))))))), ?_⟩
    have g0 : Gr M0 H0 H0 H0 H0 := Gr.refl (Same.refl _)
    unfold m_l_nested at hm
    refine p_seq ?_
    refine p_asg ?_
    obtain ⟨r1, hb2, hm⟩ := bnd hm
    refine ⟨(V.str y_one_here), rfl, (V.int y_size_here), rfl, H0, y_one_here, y_size_here, r1, rfl, g0.fh, gs_y_one_here, hb2, fun v6 F3 H4 g5 r7 => ?_⟩
    have g8 := Gr.trans g0 g5
    obtain ⟨p9, v12, v13, ev10, hS11, r14, r15⟩ := R.p2_v r7
    obtain rfl := R.int_v r14
    obtain rfl := R.int_v r15
    refine ⟨p9, [(V.int r1.1), (V.int r1.2)], ev10, (SqT_mono g8.fh hS11), rfl, (V.int r1.1), [(V.int r1.2)], rfl, (V.int r1.2), [], rfl, rfl, ?_⟩
    refine p_nx ?_
    refine p_seq ?_
    refine p_asg ?_
    obtain ⟨r16, hb17, hm⟩ := bnd hm
    refine ⟨(V.str y_other), rfl, (V.int y_size_here), rfl, F3, y_other, y_size_here, r16, rfl, g8.fh, gs_y_other, hb17, fun v21 F18 H19 g20 r22 => ?_⟩
    have g23 := Gr.trans g8 g20
    obtain ⟨p24, v27, v28, ev25, hS26, r29, r30⟩ := R.p2_v r22
    obtain rfl := R.int_v r29
    obtain rfl := R.int_v r30
    refine ⟨p24, [(V.int r16.1), (V.int r16.2)], ev25, (SqT_mono g23.fh hS26), rfl, (V.int r16.1), [(V.int r16.2)], rfl, (V.int r16.2), [], rfl, rfl, ?_⟩
    refine p_nx ?_
    refine p_seq ?_
    refine p_if ?_
    refine ⟨(V.int r1.1), rfl, (V.int r16.1), rfl, _, _, rfl, rfl, _, rfl, ?_⟩
    refine andJT (M := M0) (F := F18) (c := ((decide (r1.1 ≤ r16.1)) && (decide (r16.2 ≤ r1.2)))) (P := fun _ _ => True) (fun ha => ?_) (fun ha => ⟨(anF ha), trivial⟩) g23.fh ?_
    · intro Q34 q35
      refine ⟨(V.int r16.2), rfl, (V.int r1.2), rfl, _, _, rfl, rfl, _, rfl, (qTb ha (q35 _ _ (Gr.refl (M := M0) g23.fh) trivial))⟩
    intro F36 H37 g38 hB39
    have g40 := Gr.trans g23 g38
    refine (iteB (fun hc => ?_) (fun hc => ?_))
    · have hm := ifT hc hm
      refine p_ret ?_
      obtain ⟨r41, hb42, hm⟩ := bnd hm
      refine ⟨(V.str y_one_here), rfl, (V.int r16.1), rfl, (V.int y_size_here), rfl, y_one_here, r16.1, y_size_here, r41, rfl, gs_y_one_here, hb42, fun F43 H44 g45 => ?_⟩
      have g47 := Gr.apart g40 g45
      refine ⟨_, rfl, ?_⟩
      obtain ⟨c48, hc49, hm⟩ := bnd hm
      refine andJV (M := M0) (F := F36) (c := c48) (P := fun _ _ => True) (fun ha => ?_) (fun ha => ⟨(sjoin (ifF ha hc49)).symm, trivial⟩) g47.fh ?_
      · intro Q51 q52
        have hc49 := ifT ha hc49
        obtain ⟨r53, hb54, hc49⟩ := bnd hc49
        refine ⟨(V.str y_one_here), rfl, (V.int r16.2), rfl, _, _, rfl, rfl, (V.int y_size_here), rfl, y_one_here, (r16.2 - (1 : Int)), y_size_here, r53, rfl, gs_y_one_here, hb54, fun F55 H56 g57 => ?_⟩
        have g59 := Gr.apart g47 g57
        have g60 := Gr.apart (Gr.refl (M := M0) g47.fh) g57
        obtain rfl := sjoin hc49
        exact (q52 _ _ g60 trivial)
      intro F61 H62 g63 hB64
      have g65 := Gr.trans g47 g63
      obtain rfl := sjoin hm
      exact (hQ _ _ g65)
    · have hm := ifF hc hm
      refine p_next ?_
      refine p_nx ?_
      refine p_seq ?_
      refine p_if ?_
      refine ⟨(V.int r16.1), rfl, (V.int r1.1), rfl, _, _, rfl, rfl, _, rfl, ?_⟩
      refine andJT (M := M0) (F := F36) (c := ((decide (r16.1 ≤ r1.1)) && (decide (r1.2 ≤ r16.2)))) (P := fun _ _ => True) (fun ha => ?_) (fun ha => ⟨(anF ha), trivial⟩) g40.fh ?_
      · intro Q69 q70
        refine ⟨(V.int r1.2), rfl, (V.int r16.2), rfl, _, _, rfl, rfl, _, rfl, (qTb ha (q70 _ _ (Gr.refl (M := M0) g40.fh) trivial))⟩
      intro F71 H72 g73 hB74
      have g75 := Gr.trans g40 g73
      refine (iteB (fun hc => ?_) (fun hc => ?_))
      · have hm := ifT hc hm
        refine p_ret ?_
        obtain ⟨r76, hb77, hm⟩ := bnd hm
        refine ⟨(V.str y_other), rfl, (V.int r1.1), rfl, (V.int y_size_here), rfl, y_other, r1.1, y_size_here, r76, rfl, gs_y_other, hb77, fun F78 H79 g80 => ?_⟩
        have g82 := Gr.apart g75 g80
        refine ⟨_, rfl, ?_⟩
        obtain ⟨c83, hc84, hm⟩ := bnd hm
        refine andJV (M := M0) (F := F71) (c := c83) (P := fun _ _ => True) (fun ha => ?_) (fun ha => ⟨(sjoin (ifF ha hc84)).symm, trivial⟩) g82.fh ?_
        · intro Q86 q87
          have hc84 := ifT ha hc84
          obtain ⟨r88, hb89, hc84⟩ := bnd hc84
          refine ⟨(V.str y_other), rfl, (V.int r1.2), rfl, _, _, rfl, rfl, (V.int y_size_here), rfl, y_other, (r1.2 - (1 : Int)), y_size_here, r88, rfl, gs_y_other, hb89, fun F90 H91 g92 => ?_⟩
          have g94 := Gr.apart g82 g92
          have g95 := Gr.apart (Gr.refl (M := M0) g82.fh) g92
          obtain rfl := sjoin hc84
          exact (q87 _ _ g95 trivial)
        intro F96 H97 g98 hB99
        have g100 := Gr.trans g82 g98
        obtain rfl := sjoin hm
        exact (hQ _ _ g100)
      · have hm := ifF hc hm
        refine p_next ?_
        refine p_nx ?_
        refine p_seq ?_
        refine p_if ?_
        obtain ⟨r101, hb102, hm⟩ := bnd hm
        refine ⟨(V.str y_one_here), rfl, (V.int r16.1), rfl, (V.int y_size_here), rfl, y_one_here, r16.1, y_size_here, r101, rfl, gs_y_one_here, hb102, fun F103 H104 g105 => ?_⟩
        have g107 := Gr.apart g75 g105
        refine ⟨_, rfl, ?_⟩
        obtain ⟨c108, hc109, hm⟩ := bnd hm
        refine orJT (M := M0) (F := F71) (c := c108) (P := fun _ _ => True) (fun ha => ?_) (fun ha => ⟨(sjoin (ifT ha hc109)).symm, trivial⟩) g107.fh ?_
        · intro Q111 q112
          have hc109 := ifF ha hc109
          obtain ⟨r113, hb114, hc109⟩ := bnd hc109
          refine ⟨(V.str y_other), rfl, (V.int r1.1), rfl, (V.int y_size_here), rfl, y_other, r1.1, y_size_here, r113, rfl, gs_y_other, hb114, fun F115 H116 g117 => ?_⟩
          have g119 := Gr.apart g107 g117
          have g120 := Gr.apart (Gr.refl (M := M0) g107.fh) g117
          obtain rfl := sjoin hc109
          refine ⟨_, rfl, (q112 _ _ g120 trivial)⟩
        intro F121 H122 g123 hB124
        have g125 := Gr.trans g107 g123
        refine (iteB (fun hc => ?_) (fun hc => ?_))
        · have hm := ifT hc hm
          refine p_ret ?_
          obtain rfl := sjoin hm
          exact (hQ _ _ g125)
        · have hm := ifF hc hm
          refine p_next ?_
          refine p_nx ?_
          refine p_ret ?_
          refine ⟨(V.int r1.2), rfl, (V.int r16.1), rfl, _, _, rfl, rfl, _, rfl, ?_⟩
          refine orJV (M := M0) (F := F121) (c := ((decide (r1.2 ≤ r16.1)) || (decide (r16.2 ≤ r1.1)))) (P := fun _ _ => True) (fun ha => ?_) (fun ha => ⟨(orTt ha), trivial⟩) g125.fh ?_
          · intro Q129 q130
            refine ⟨(V.int r16.2), rfl, (V.int r1.1), rfl, _, _, rfl, rfl, (qOv ha (q130 _ _ (Gr.refl (M := M0) g125.fh) trivial))⟩
          intro F131 H132 g133 hB134
          have g135 := Gr.trans g125 g133
          obtain rfl := sjoin hm
          exact (hQ _ _ g135)
end K07
namespace K07
open PySem PySem.Spec PyProof.Rows L2 TL G
theorem ok_l_chain_right {P : Program} {w : World} {K : PySem.W.Frag} {mg : Str → Option Value} {base : Heap} (T : Txt K mg) : FnOk P w K mg base CX0 4 T.a_l_chain_right T.d_l_chain_right ["_law_some_here", "_law_number", "_law_size_here"] (sp_l_chain_right K) := by
  have G_has : FnOk P w K mg base CX0 3 T.a_has T.d_has ["pattern", "address", "width"] (sp_has K) := ok_has T
  have b_has := T.F_has.bindsN (ps := ["pattern", "address", "width"]) fun _ _ _ _ _ _ us hl => match us, hl with | [_, _, _], _ => rfl
  have G_span_of : FnOk P w K mg base CX0 2 T.a_span_of T.d_span_of ["pattern", "width"] (sp_span_of K) := ok_span_of T
  have b_span_of := T.F_span_of.bindsN (ps := ["pattern", "width"]) fun _ _ _ _ _ _ us hl => match us, hl with | [_, _], _ => rfl
  refine fd_ok T.F_l_chain_right sc_l_chain_right (fun vs H Q E h => ?_) (fun cdv A outer s H0 vs Q E hr h => ?_)
  · obtain ⟨_, _, _, _, _, _, rfl, _⟩ := h
    rfl
  · obtain ⟨p_y_some_here, ws_y_some_here, y_some_here, y_number, y_size_here, r, rfl, hS_y_some_here, hl_y_some_here, hA_y_some_here, nm_y_some_here, hm, hQ⟩ := h
    refine ⟨_, (pss_cons (ps_setLc (i := 3) (own := [("_law_one_here", 4)]) rfl sc_l_chain_right.nd rfl rfl (sw_true rfl rfl rfl (by decide +kernel)) (pi_listK (K := K) (pv 0)) (blkOk_by (own := [("_law_one_here", 4)]) (N := N_l_chain_right) (sc := defScope s_l_chain_right) (by decide +kernel)) (fun _ _ _ _ _ => (pg_name (i := 4) sc_l_chain_right.nd rfl (Or.inl rfl) (.inr rfl))) (fun _ _ _ _ _ => (pts_one (pt_val (pe_call G_has (hr.mono (by decide)) (by rfl) T.g_has T.F_has.kp b_has .nil pass0 (pa_cons (pv 4) (pa_cons (pv 1) (pa_cons (pv 2) pa_nil))))))) (fun _ _ _ _ _ => (pv 4))) (pss_cons (ps_for PassesOwn.never rfl (pi_zipK (by rfl) T.n_zip (pa_cons (pv 3) (pa_cons (pe_slice (sl_listK (K := K)) (pv 3) (po_some pe_int) po_none) pa_nil))) (pg_tupK (K := K) 2 rfl (pgs_cons (pg_name (i := 4) sc_l_chain_right.nd rfl (Or.inl rfl)) (pgs_cons (pg_name (i := 5) sc_l_chain_right.nd rfl (Or.inl rfl)) pgs_nil))) (pss_cons (ps_if (pt_cmpR op_ne (pe_slice sl_str (pv 5) po_none (po_some (pe_op op_sub (pe_callB call_len_str (by rfl) T.n_len (by decide +kernel) (pa_cons (pv 4) pa_nil)) pe_int))) (pe_slice sl_str (pv 4) po_none (po_some (pe_un un_neg pe_int))) (nomark _)) (pss_one (ps_ret pe_bl)) pss_nil) (pss_cons (ps_if (PW.pt (pw_and (pt_cmpR op_ne (pv 4) (pv 5) (nomark _)) (pw_and1 (pt_cmpR op_lt (pe_callB call_len_str (by rfl) T.n_len (by decide +kernel) (pa_cons (pe_bmK (K := K) PySem.F.plainAttrs_str PySem.F.slot_str_strip PySem.F.type_str_strip mt_stripChars (pv 5) (pa_cons pe_str pa_nil)) pa_nil)) (pe_callB call_len_str (by rfl) T.n_len (by decide +kernel) (pa_cons (pv 4) pa_nil)) (nomark _))))) (pss_one (ps_ret pe_bl)) pss_nil) (pss_cons (ps_asg (pe_call G_span_of (hr.mono (by decide)) (by rfl) T.g_span_of T.F_span_of.kp b_span_of .nil pass0 (pa_cons (pv 4) (pa_cons (pv 2) pa_nil))) (pg_tupK (K := K) 2 rfl (pgs_cons (pg_name (i := 6) sc_l_chain_right.nd rfl (Or.inl rfl)) (pgs_cons (pg_name (i := 7) sc_l_chain_right.nd rfl (Or.inl rfl)) pgs_nil)))) (pss_cons (ps_asg (pe_call G_span_of (hr.mono (by decide)) (by rfl) T.g_span_of T.F_span_of.kp b_span_of .nil pass0 (pa_cons (pv 5) (pa_cons (pv 2) pa_nil))) (pg_tupK (K := K) 2 rfl (pgs_cons (pg_name (i := 8) sc_l_chain_right.nd rfl (Or.inl rfl)) (pgs_cons (pg_name (i := 9) sc_l_chain_right.nd rfl (Or.inl rfl)) pgs_nil)))) (pss_one (ps_if (pt_cmpR op_gt (pe_op op_sub (pv 9) (pv 8)) (pe_op op_sub (pv 7) (pv 6)) (nomark _)) (pss_one (ps_ret pe_bl)) pss_nil))))))) (pss_one (ps_ret pe_bl)))), ?_⟩
    have g0 : Gr M0 H0 H0 H0 H0 := Gr.refl (Same.refl _)
    unfold m_l_chain_right at hm
    refine p_seq ?_
    refine p_asg ?_
    refine ⟨(V.ref p_y_some_here), rfl, p_y_some_here, rfl, ⟨_, (g0.seq nm_y_some_here hS_y_some_here)⟩, fun D1 nD2 => ?_⟩
    have g3 := g0.own (o := (.lst [])) nD2
    have ow4 : Ow H0 H0 (upd H0 D1 (.lst [])) D1 [] := Ow.new g0 nD2
    obtain ⟨l5, hb6, hm⟩ := bnd hm
    refine lc_list (K := K) (a := p_y_some_here) (xs := ws_y_some_here) (fun i H' => ∃ (F' : Hp) (acc : List V) (ds : List Str) (rest : List Str), Gr M0 H0 H0 F' H' ∧ Same H0 F' ∧ Ow H0 F' H' D1 acc ∧ RL K F' acc ds ∧ acc.length ≤ i ∧ m_l_chain_right_c1 y_number y_size_here (y_some_here.drop i) = some rest ∧ ds ++ rest = l5) ?_ ?_ ?_ ?_
    · exact ⟨H0, [], [], l5, g3, Same.refl _, ow4, RpA.nil, Nat.le_refl _, hb6, rfl⟩
    · intro i H' _ hP
      obtain ⟨F7, acc8, ds9, rest10, g011, sm12, owD13, hA14, hi15, hm16, hr17⟩ := hP
      exact (g011.seq nm_y_some_here hS_y_some_here)
    · intro i19 xv18 H21 hx20 hP
      obtain ⟨F22, acc23, ds24, rest25, g026, sm27, owD28, hA29, hi30, hm31, hr32⟩ := hP
      obtain ⟨e33, he34, r35⟩ := RL.get (hA_y_some_here.up sm27) hx20
      obtain ⟨rfl, gs36⟩ := R.str_v r35
      rw [drop_at he34, m_l_chain_right_c1.eq_2] at hm31
      obtain ⟨r37, hb38, hm31⟩ := bnd hm31
      refine ⟨rfl, (V.str e33), rfl, (V.int y_number), rfl, (V.int y_size_here), rfl, e33, y_number, y_size_here, r37, rfl, gs36, hb38, fun F39 H40 g41 => ?_⟩
      have g43 := Gr.apart g026 g41
      have ow44 := owD28.apart g41
      refine ⟨_, rfl, (iteB (fun hc => ?_) (fun hc => ?_))⟩
      · have hm31 := ifT hc hm31
        have hA45 : RL K F22 (acc23 ++ [(V.str e33)]) (ds24 ++ [(e33 : Str)]) := RL.snoc hA29 (Rp.str e33 gs36)
        obtain ⟨rest46, h47, h48⟩ := bnd hm31
        obtain rfl := sjoin h48
        refine ⟨(V.str e33), rfl, acc23, ow44.h, (lt_line hi30 (List.getElem?_eq_some_iff.mp hx20).1 hl_y_some_here), ?_⟩
        have g49 := g43.put (o := (.lst (acc23 ++ [(V.str e33)]))) ow44
        have ow50 := ow44.put (us := (acc23 ++ [(V.str e33)]))
        exact ⟨F22, (acc23 ++ [(V.str e33)]), (ds24 ++ [e33]), rest46, g49, sm27, ow50, hA45, (by rw [List.length_append]; exact Nat.succ_le_succ hi30), h47, (snoc_rest hr32)⟩
      · have hm31 := ifF hc hm31
        exact ⟨F22, acc23, ds24, rest25, g43, sm27, ow44, hA29, (Nat.le_succ_of_le hi30), hm31, hr32⟩
    intro H51 hP
    obtain ⟨F52, acc53, ds54, _rest, g056, sm57, owD58, hA59, hi60, hm61, hr62⟩ := hP
    rw [drop_end (RL.len hA_y_some_here)] at hm61
    rw [m_l_chain_right_c1.eq_1] at hm61
    obtain rfl := sjoin hm61
    rw [List.append_nil] at hr62
    obtain rfl := hr62
    have hl63 : acc53.length ≤ sizeLine := Nat.le_trans hi60 hl_y_some_here
    refine p_name ?_
    refine p_nx ?_
    refine p_seq ?_
    refine p_for ?_
    refine ⟨(V.ref D1), rfl, (V.ref D1), rfl, _, rfl, D1, acc53, rfl, owD58.sq, fun p64 np65 => ?_⟩
    have hA66 := RL.cut (some (1 : Int)) none hA59
    have ne67 := owD58.ne np65
    have g68 := g056.own (o := (.lst (cutV acc53 (some (1 : Int)) none))) np65
    have ow69 := owD58.own (o := (.lst (cutV acc53 (some (1 : Int)) none))) np65
    have ow70 : Ow H0 F52 (upd H51 p64 (.lst (cutV acc53 (some (1 : Int)) none))) p64 (cutV acc53 (some (1 : Int)) none) := Ow.new g056 np65
    refine ⟨D1, p64, acc53, (cutV acc53 (some (1 : Int)) none), rfl, ow69.sq, ow70.sq, ?_⟩
    obtain ⟨l71, ht72, hm⟩ := bndL0 hm
    refine for_zip (K := K) (a := D1) (b := p64) (xs := acc53) (ys := (cutV acc53 (some (1 : Int)) none)) (fun i σ' H' => ∃ (F' : Hp) (o_y_one_here : Option V) (o_y_other : Option V) (o_y_first : Option V) (o_y_behind : Option V) (o_y_begun : Option V) (o_y_ended : Option V), σ' = [(some (V.ref p_y_some_here)), (some (V.int y_number)), (some (V.int y_size_here)), (some (V.ref D1)), o_y_one_here, o_y_other, o_y_first, o_y_behind, o_y_begun, o_y_ended] ∧ Gr M0 H0 H0 F' H' ∧ Same F52 F' ∧ Ow H0 F' H' D1 acc53 ∧ Ow H0 F' H' p64 (cutV acc53 (some (1 : Int)) none) ∧ m_l_chain_right_l2 y_size_here ((List.zip ds54 (cutL ds54 (some (1 : Int)) none)).drop i)  = some l71) ?_ ?_ ?_ ?_
    · exact ⟨F52, none, none, none, none, none, none, rfl, g68, (Same.refl _), ow69, ow70, ht72⟩
    · intro i σ' H' _ hP
      obtain ⟨F', o_y_one_here, o_y_other, o_y_first, o_y_behind, o_y_begun, o_y_ended, rfl, g_, sm_, owk0_, owk1_, hm_⟩ := hP
      exact ⟨owk0_.sq, owk1_.sq⟩
    · intro i73 xv76 xw77 T78 σ' H75 hx74 hw79 nT80 hP
      obtain ⟨F81, o_y_one_here82, o_y_other83, o_y_first84, o_y_behind85, o_y_begun86, o_y_ended87, rfl, g88, sm89, owk090, owk191, hm92⟩ := hP
      obtain ⟨e94, he95, r96⟩ := RL.get (hA59.up sm89) hx74
      obtain ⟨rfl, gs97⟩ := R.str_v r96
      obtain ⟨e98, he99, r100⟩ := RL.get (hA66.up sm89) hw79
      obtain ⟨rfl, gs101⟩ := R.str_v r100
      have he102 : (List.zip ds54 (cutL ds54 (some (1 : Int)) none))[i73]? = some (e94, e98) := gzip_get he95 he99
      have ne103 := owk090.ne nT80
      have ne104 := owk191.ne nT80
      have sm105 := same_new (o := (.tup [(V.str e94), (V.str e98)])) (g88.noneF nT80)
      have g106 := g88.frz (o := (.tup [(V.str e94), (V.str e98)])) nT80
      have ow107 := owk090.frz (o := (.tup [(V.str e94), (V.str e98)])) nT80
      have ow108 := owk191.frz (o := (.tup [(V.str e94), (V.str e98)])) nT80
      have r109 : R K (upd F81 T78 (.tup [(V.str e94), (V.str e98)])) (.ref T78) ((e94, e98) : (Str × Str)) := R.mk2 fzT (Rp.str e94 gs97) (Rp.str e98 gs101)
      rw [drop_at he102, m_l_chain_right_l2.eq_2] at hm92
      obtain ⟨p110, v113, v114, ev111, hS112, r115, r116⟩ := R.p2_v r109
      obtain ⟨rfl, gs117⟩ := R.str_v r115
      obtain ⟨rfl, gs118⟩ := R.str_v r116
      refine ⟨p110, [(V.str (e94, e98).1), (V.str (e94, e98).2)], ev111, (SqT_mono g106.fh hS112), rfl, (V.str (e94, e98).1), [(V.str (e94, e98).2)], rfl, (V.str (e94, e98).2), [], rfl, rfl, ?_⟩
      refine p_seq ?_
      refine p_if ?_
      refine ⟨(V.str (e94, e98).2), rfl, (V.str (e94, e98).1), rfl, _, rfl, (gs117 : GS (e94, e98).1).len, _, _, rfl, rfl, _, rfl, _, rfl, (gs118 : GS (e94, e98).2).len, (V.str (e94, e98).1), rfl, _, rfl, _, rfl, _, rfl, (gs117 : GS (e94, e98).1).len, rfl, _, rfl, (iteB (fun hc => ?_) (fun hc => ?_))⟩
      · have hm92 := ifT hc hm92
        refine p_ret ?_
        obtain rfl := sjoin hm92
        have hm := bret hm
        obtain rfl := sjoin hm
        exact (hQ _ _ g106)
      · have hm92 := ifF hc hm92
        refine p_next ?_
        refine p_nx ?_
        refine p_seq ?_
        refine p_if ?_
        refine ⟨(V.str (e94, e98).1), rfl, (V.str (e94, e98).2), rfl, rfl, _, rfl, ?_⟩
        refine andJT (M := M0) (F := (upd F81 T78 (.tup [(V.str e94), (V.str e98)]))) (c := ((neS (e94, e98).1 (e94, e98).2) && (decide ((((Txt.stripChars (e94, e98).2 ("*" : Str)).length : Nat) : Int) < (((e94, e98).1.length : Nat) : Int))))) (P := fun _ _ => True) (fun ha => ?_) (fun ha => ⟨(anF ha), trivial⟩) g106.fh ?_
        · intro Q122 q123
          refine ⟨(V.str (e94, e98).2), rfl, rfl, _, _, rfl, rfl, (gs118 : GS (e94, e98).2).len, _, rfl, ((GS.strip (gs118 : GS (e94, e98).2) ("*" : Str)) : GS (Txt.stripChars (e94, e98).2 ("*" : Str))).len, (V.str (e94, e98).1), rfl, _, rfl, (gs117 : GS (e94, e98).1).len, _, _, rfl, rfl, _, rfl, (qTb ha (q123 _ _ (Gr.refl (M := M0) g106.fh) trivial))⟩
        intro F124 H125 g126 hB127
        have g128 := Gr.trans g106 g126
        have ow129 := ow107.gr0 g126
        have ow130 := ow108.gr0 g126
        refine (iteB (fun hc => ?_) (fun hc => ?_))
        · have hm92 := ifT hc hm92
          refine p_ret ?_
          obtain rfl := sjoin hm92
          have hm := bret hm
          obtain rfl := sjoin hm
          exact (hQ _ _ g128)
        · have hm92 := ifF hc hm92
          refine p_next ?_
          refine p_nx ?_
          refine p_seq ?_
          refine p_asg ?_
          obtain ⟨r131, hb132, hm92⟩ := bnd hm92
          refine ⟨(V.str (e94, e98).1), rfl, (V.int y_size_here), rfl, F124, (e94, e98).1, y_size_here, r131, rfl, g128.fh, gs117, hb132, fun v136 F133 H134 g135 r137 => ?_⟩
          have g138 := Gr.trans g128 g135
          have ow139 := ow129.gr0 g135
          have ow140 := ow130.gr0 g135
          obtain ⟨p141, v144, v145, ev142, hS143, r146, r147⟩ := R.p2_v r137
          obtain rfl := R.int_v r146
          obtain rfl := R.int_v r147
          refine ⟨p141, [(V.int r131.1), (V.int r131.2)], ev142, (SqT_mono g138.fh hS143), rfl, (V.int r131.1), [(V.int r131.2)], rfl, (V.int r131.2), [], rfl, rfl, ?_⟩
          refine p_nx ?_
          refine p_seq ?_
          refine p_asg ?_
          obtain ⟨r148, hb149, hm92⟩ := bnd hm92
          refine ⟨(V.str (e94, e98).2), rfl, (V.int y_size_here), rfl, F133, (e94, e98).2, y_size_here, r148, rfl, g138.fh, gs118, hb149, fun v153 F150 H151 g152 r154 => ?_⟩
          have g155 := Gr.trans g138 g152
          have ow156 := ow139.gr0 g152
          have ow157 := ow140.gr0 g152
          obtain ⟨p158, v161, v162, ev159, hS160, r163, r164⟩ := R.p2_v r154
          obtain rfl := R.int_v r163
          obtain rfl := R.int_v r164
          refine ⟨p158, [(V.int r148.1), (V.int r148.2)], ev159, (SqT_mono g155.fh hS160), rfl, (V.int r148.1), [(V.int r148.2)], rfl, (V.int r148.2), [], rfl, rfl, ?_⟩
          refine p_nx ?_
          refine p_if ?_
          refine ⟨(V.int r148.2), rfl, (V.int r148.1), rfl, _, _, rfl, rfl, (V.int r131.2), rfl, (V.int r131.1), rfl, _, _, rfl, rfl, _, _, rfl, rfl, _, rfl, (iteB (fun hc => ?_) (fun hc => ?_))⟩
          · have hm92 := ifT hc hm92
            refine p_ret ?_
            obtain rfl := sjoin hm92
            have hm := bret hm
            obtain rfl := sjoin hm
            exact (hQ _ _ g155)
          · have hm92 := ifF hc hm92
            refine p_next ?_
            exact ⟨F150, (some (V.str (e94, e98).1)), (some (V.str (e94, e98).2)), (some (V.int r131.1)), (some (V.int r131.2)), (some (V.int r148.1)), (some (V.int r148.2)), rfl, g155, (Same.trans sm89 (Same.trans sm105 (Same.trans g126.ff (Same.trans g135.ff g152.ff)))), ow156, ow157, hm92⟩
    intro σ165 H166 hP
    obtain ⟨F167, o_y_one_here168, o_y_other169, o_y_first170, o_y_behind171, o_y_begun172, o_y_ended173, rfl, g174, sm175, owk0176, owk1177, hm178⟩ := hP
    rw [drop_end (show (min acc53.length (cutV acc53 (some (1 : Int)) none).length) = ((List.zip ds54 (cutL ds54 (some (1 : Int)) none))).length from zip_lenV (RL.len (hA59.up sm175)) (RL.len (hA66.up sm175))), m_l_chain_right_l2.eq_1] at hm178
    obtain rfl := sjoin hm178
    have hm := bgo0 hm
    refine p_nx ?_
    refine p_ret ?_
    obtain rfl := sjoin hm
    exact (hQ _ _ g174)
end K07
namespace K07
open PySem PySem.Spec PyProof.Rows L2 TL G
theorem ok_law {P : Program} {w : World} {K : PySem.W.Frag} {mg : Str → Option Value} {base : Heap} (T : Txt K mg) (hlaw : ∀ b : Bag, BOk b → ∃ b', m_law b = some (true, b')) : FnOk P w K mg base CX0 5 T.a_law T.d_law ["_law_script"] (sp_law K) := by
  have G_l_bag : FnOk P w K mg base CX0 1 T.a_l_bag T.d_l_bag ["_law_script"] (sp_l_bag K) := ok_l_bag T
  have b_l_bag := T.F_l_bag.bindsN (ps := ["_law_script"]) fun _ _ _ _ _ _ us hl => match us, hl with | [_], _ => rfl
  have G_l_size : FnOk P w K mg base CX0 2 T.a_l_size T.d_l_size ["_law_bag_here"] (sp_l_size K) := ok_l_size T
  have b_l_size := T.F_l_size.bindsN (ps := ["_law_bag_here"]) fun _ _ _ _ _ _ us hl => match us, hl with | [_], _ => rfl
  have G_l_some : FnOk P w K mg base CX0 4 T.a_l_some T.d_l_some ["_law_bag_here", "_law_size_here", "_law_most"] (sp_l_some K) := ok_l_some T
  have b_l_some := T.F_l_some.bindsN (ps := ["_law_bag_here", "_law_size_here", "_law_most"]) fun _ _ _ _ _ _ us hl => match us, hl with | [_, _, _], _ => rfl
  have G_l_one : FnOk P w K mg base CX0 3 T.a_l_one T.d_l_one ["_law_bag_here", "_law_size_here", "_law_some_here"] (sp_l_one K) := ok_l_one T
  have b_l_one := T.F_l_one.bindsN (ps := ["_law_bag_here", "_law_size_here", "_law_some_here"]) fun _ _ _ _ _ _ us hl => match us, hl with | [_, _, _], _ => rfl
  have G_span_of : FnOk P w K mg base CX0 2 T.a_span_of T.d_span_of ["pattern", "width"] (sp_span_of K) := ok_span_of T
  have b_span_of := T.F_span_of.bindsN (ps := ["pattern", "width"]) fun _ _ _ _ _ _ us hl => match us, hl with | [_, _], _ => rfl
  have G_is_pattern : FnOk P w K mg base CX0 1 T.a_is_pattern T.d_is_pattern ["text", "width"] (sp_is_pattern K) := ok_is_pattern T
  have b_is_pattern := T.F_is_pattern.bindsN (ps := ["text", "width"]) fun _ _ _ _ _ _ us hl => match us, hl with | [_, _], _ => rfl
  have G_l_nested : FnOk P w K mg base CX0 4 T.a_l_nested T.d_l_nested ["_law_one_here", "_law_other", "_law_size_here"] (sp_l_nested K) := ok_l_nested T
  have b_l_nested := T.F_l_nested.bindsN (ps := ["_law_one_here", "_law_other", "_law_size_here"]) fun _ _ _ _ _ _ us hl => match us, hl with | [_, _, _], _ => rfl
  have G_l_draw : FnOk P w K mg base CX0 1 T.a_l_draw T.d_l_draw ["_law_bag_here", "_law_many"] (sp_l_draw K) := ok_l_draw T
  have b_l_draw := T.F_l_draw.bindsN (ps := ["_law_bag_here", "_law_many"]) fun _ _ _ _ _ _ us hl => match us, hl with | [_, _], _ => rfl
  have G_l_worth : FnOk P w K mg base CX0 1 T.a_l_worth T.d_l_worth ["_law_bits_here"] (sp_l_worth K) := ok_l_worth T
  have b_l_worth := T.F_l_worth.bindsN (ps := ["_law_bits_here"]) fun _ _ _ _ _ _ us hl => match us, hl with | [_], _ => rfl
  have G_l_bits : FnOk P w K mg base CX0 2 T.a_l_bits T.d_l_bits ["_law_bag_here", "_law_size_here"] (sp_l_bits K) := ok_l_bits T
  have b_l_bits := T.F_l_bits.bindsN (ps := ["_law_bag_here", "_law_size_here"]) fun _ _ _ _ _ _ us hl => match us, hl with | [_, _], _ => rfl
  have G_l_chain_right : FnOk P w K mg base CX0 4 T.a_l_chain_right T.d_l_chain_right ["_law_some_here", "_law_number", "_law_size_here"] (sp_l_chain_right K) := ok_l_chain_right T
  have b_l_chain_right := T.F_l_chain_right.bindsN (ps := ["_law_some_here", "_law_number", "_law_size_here"]) fun _ _ _ _ _ _ us hl => match us, hl with | [_, _, _], _ => rfl
  refine fd_ok T.F_law sc_law (fun vs H Q E h => ?_) (fun cdv A outer s H0 vs Q E hr h => ?_)
  · obtain ⟨_, _, rfl, _⟩ := h
    rfl
  · obtain ⟨a_, ns_, rfl, hS_, hl_, hQ_⟩ := h
    refine ⟨_, (pss_cons (ps_set (i := 1) sc_law.nd rfl (.inl rfl) (pe_call G_l_bag (hr.mono (by decide)) (by rfl) T.g_l_bag T.F_l_bag.kp b_l_bag .nil pass0 (pa_cons (pv 0) pa_nil))) (pss_cons (ps_set (i := 2) sc_law.nd rfl (.inr rfl) (pe_call G_l_size (hr.mono (by decide)) (by rfl) T.g_l_size T.F_l_size.kp b_l_size .nil pass0 (pa_cons (pv 1) pa_nil))) (pss_cons (ps_set (i := 3) sc_law.nd rfl (.inl rfl) (pe_callB (cr_sortedSA_ (K := K)) (by rfl) T.n_sorted (by decide +kernel) (pa_cons (pe_call G_l_some (hr.mono (by decide)) (by rfl) T.g_l_some T.F_l_some.kp b_l_some .nil pass0 (pa_cons (pv 1) (pa_cons (pv 2) (pa_cons pe_int pa_nil)))) pa_nil))) (pss_cons (ps_set (i := 3) sc_law.nd rfl (.inl rfl) (pe_callB (cr_sortedSA_ (K := K)) (by rfl) T.n_sorted (by decide +kernel) (pa_cons (pe_op (op_catLK (K := K)) (pv 3) (pe_lst (pa_cons (pe_call G_l_one (hr.mono (by decide)) (by rfl) T.g_l_one T.F_l_one.kp b_l_one .nil pass0 (pa_cons (pv 1) (pa_cons (pv 2) (pa_cons (pv 3) pa_nil)))) pa_nil))) pa_nil))) (pss_cons (ps_setLc (i := 4) (own := [("_law_one_here", 5)]) rfl sc_law.nd rfl rfl (sw_true rfl rfl rfl (by decide +kernel)) (pi_listK (K := K) (pv 3)) (blkOk_by (own := [("_law_one_here", 5)]) (N := N_law) (sc := defScope s_law) (by decide +kernel)) (fun _ _ _ _ _ => (pg_name (i := 5) sc_law.nd rfl (Or.inl rfl) (.inr rfl))) (fun _ _ _ _ _ => pts_nil) (fun _ _ _ _ _ => (pe_call G_span_of (hr.mono (by decide)) (by rfl) T.g_span_of T.F_span_of.kp b_span_of .nil pass0 (pa_cons (pv 5) (pa_cons (pv 2) pa_nil))))) (pss_cons (ps_setLc (i := 4) (own := [("_law_first", 9), ("_law_behind", 10)]) rfl sc_law.nd rfl rfl (sw_true rfl rfl rfl (by decide +kernel)) (pi_listK (K := K) (pv 4)) (blkOk_by (own := [("_law_first", 9), ("_law_behind", 10)]) (N := N_law) (sc := defScope s_law) (by decide +kernel)) (fun _ _ _ _ _ => (pg_tupK (K := K) 2 rfl (pgs_cons (pg_name (i := 9) sc_law.nd rfl (Or.inl rfl) (.inr rfl)) (pgs_cons (pg_name (i := 10) sc_law.nd rfl (Or.inl rfl) (.inr rfl)) pgs_nil)))) (fun _ _ _ _ _ => pts_nil) (fun _ _ _ _ _ => (pe_tup (pa_cons (pv 9) (pa_cons (pe_op op_sub pe_int (pv 10)) pa_nil))))) (pss_cons (ps_if (pt_cmpR (op_neDK (K := K) hr.units) (pv 4) (pe_callB (cr_sortedPK_ (K := K)) (by rfl) T.n_sorted (by decide +kernel) (pa_cons (pv 4) pa_nil)) (nomark _)) (pss_one (ps_ret pe_bl)) pss_nil) (pss_cons (ps_if (pt_cmpR (op_neDK (K := K) hr.units) (pe_lc (own := [("_law_one_here", 5)]) rfl sc_law.nd (pi_listK (K := K) (pv 3)) (blkOk_by (own := [("_law_one_here", 5)]) (N := N_law) (sc := defScope s_law) (by decide +kernel)) (fun _ _ _ _ _ => (pg_name (i := 5) sc_law.nd rfl (Or.inl rfl) (.inr rfl))) (fun _ _ _ _ _ => (pts_one (pt_not (pt_val (pe_call G_is_pattern (hr.mono (by decide)) (by rfl) T.g_is_pattern T.F_is_pattern.kp b_is_pattern .nil pass0 (pa_cons (pv 5) (pa_cons (pv 2) pa_nil))))))) (fun _ _ _ _ _ => (pv 5))) (pe_lst pa_nil) (nomark _)) (pss_one (ps_ret pe_bl)) pss_nil) (pss_cons (ps_for PassesOwn.never rfl (pi_listK (K := K) (pv 3)) (pg_name (i := 5) sc_law.nd rfl (Or.inr rfl)) (pss_one (ps_if (pt_cmpR (op_neDK (K := K) hr.units) (pe_lc (own := [("_law_other", 11)]) rfl sc_law.nd (pi_listK (K := K) (pv 3)) (blkOk_by (own := [("_law_other", 11)]) (N := N_law) (sc := defScope s_law) (by decide +kernel)) (fun _ _ _ _ _ => (pg_name (i := 11) sc_law.nd rfl (Or.inl rfl) (.inr rfl))) (fun _ _ _ _ _ => (pts_one (pt_not (pt_val (pe_call G_l_nested (hr.mono (by decide)) (by rfl) T.g_l_nested T.F_l_nested.kp b_l_nested .nil pass0 (pa_cons (pv 5) (pa_cons (pv 11) (pa_cons (pv 2) pa_nil)))))))) (fun _ _ _ _ _ => (pv 11))) (pe_lst pa_nil) (nomark _)) (pss_one (ps_ret pe_bl)) pss_nil))) (pss_cons (ps_for PassesOwn.never rfl (pi_range1 (by rfl) T.n_range (pa_cons pe_int pa_nil)) (pg_name (i := 6) sc_law.nd rfl (Or.inl rfl)) (pss_cons (ps_set (i := 7) sc_law.nd rfl (.inl rfl) (pe_bmK (K := K) PySem.F.plainAttrs_str PySem.F.slot_str_strip PySem.F.type_str_strip mt_stripChars (pe_ix (ix_listK (K := K)) (pv 3) (pe_call G_l_draw (hr.mono (by decide)) (by rfl) T.g_l_draw T.F_l_draw.kp b_l_draw .nil pass0 (pa_cons (pv 1) (pa_cons (pe_callB (call_lenLK (K := K)) (by rfl) T.n_len (by decide +kernel) (pa_cons (pv 3) pa_nil)) pa_nil))) (fun _ _ => rfl)) (pa_cons pe_str pa_nil))) (pss_cons (ps_set (i := 8) sc_law.nd rfl (.inl rfl) (pe_call G_l_worth (hr.mono (by decide)) (by rfl) T.g_l_worth T.F_l_worth.kp b_l_worth .nil pass0 (pa_cons (pe_op op_add_str (pv 7) (pe_call G_l_bits (hr.mono (by decide)) (by rfl) T.g_l_bits T.F_l_bits.kp b_l_bits .nil pass0 (pa_cons (pv 1) (pa_cons (pe_op op_sub (pv 2) (pe_callB call_len_str (by rfl) T.n_len (by decide +kernel) (pa_cons (pv 7) pa_nil))) pa_nil)))) pa_nil))) (pss_one (ps_if (pt_not (pt_val (pe_call G_l_chain_right (hr.mono (by decide)) (by rfl) T.g_l_chain_right T.F_l_chain_right.kp b_l_chain_right .nil pass0 (pa_cons (pv 3) (pa_cons (pv 8) (pa_cons (pv 2) pa_nil)))))) (pss_one (ps_ret pe_bl)) pss_nil))))) (pss_one (ps_ret pe_bl)))))))))))), ?_⟩
    refine p_seq ?_
    refine p_asg ?_
    refine ⟨_, rfl, a_, ns_, rfl, hS_, hl_, fun B C b F0 H0 hS0 hB hb_ => ?_⟩
    refine p_name ?_
    refine p_nx ?_
    obtain ⟨b_, hm⟩ := hlaw b hb_
    have hQ : ∀ F' H', Gr (Bc B C) F0 H0 F' H' → BagAt F' H' B C b_ → Q (.bl true) H' := fun _ H' _ _ => hQ_ H'
    have g0 : Gr (Bc B C) F0 H0 F0 H0 := Gr.refl hS0
    unfold m_law at hm
    refine p_seq ?_
    refine p_asg ?_
    obtain ⟨r1, b2, hb3, hm⟩ := bnd2 hm
    refine ⟨(V.ref B), rfl, F0, B, C, b, r1, b2, rfl, g0.fh, hB, hb3, fun F4 H5 g6 hB7 => ?_⟩
    have g9 := Gr.trans g0 g6
    refine p_name ?_
    refine p_nx ?_
    refine p_seq ?_
    refine p_asg ?_
    obtain ⟨r10, b11, hb12, hm⟩ := bnd2 hm
    refine ⟨(V.ref B), rfl, (V.int r1), rfl, F4, B, C, b2, r1, (16 : Int), r10, b11, rfl, g9.fh, hB7, hb12, fun p17 ws18 F13 H14 g15 hB16 np19 h20 nF21 hl22 hA23 => ?_⟩
    have nb24 := hB7.nb np19
    have n025 := g9.none0 np19
    have g26 := Gr.trans g9 g15
    have ow27 : Ow H0 F13 H14 p17 ws18 := ⟨h20, nF21, n025⟩
    have ln30 := RL.len hA23
    have gs31 := (RL.strs hA23).2
    refine ⟨p17, r10, rfl, (by rw [← (RL.strs hA23).1]; exact ow27.sq), fun p28 np29 => ?_⟩
    have hl32 : ((sortT r10).map V.str).length ≤ sizeLine := by rw [List.length_map, sortT_len, ← ln30]; exact hl22
    have hA33 : RL K F13 ((sortT r10).map V.str) (sortT r10) := RL.ofStrs _ fun z_ hz_ => gs31 z_ ((sortT_perm _).mem_iff.mp hz_)
    have ne34 := ow27.ne np29
    have nb35 := hB16.nb np29
    have g36 := g26.own (o := (.lst ((sortT r10).map V.str))) np29
    have ow37 := ow27.own (o := (.lst ((sortT r10).map V.str))) np29
    have hB38 := hB16.own (o := (.lst ((sortT r10).map V.str))) np29
    have ow39 : Ow H0 F13 (upd H14 p28 (.lst ((sortT r10).map V.str))) p28 ((sortT r10).map V.str) := Ow.new g26 np29
    refine p_name ?_
    refine p_nx ?_
    refine p_seq ?_
    refine p_asg ?_
    obtain ⟨r40, b41, hb42, hm⟩ := bnd2 hm
    refine ⟨(V.ref p28), rfl, (V.ref B), rfl, (V.int r1), rfl, (V.ref p28), rfl, F13, B, C, b11, r1, p28, ((sortT r10).map V.str), (sortT r10), r40, b41, rfl, g36.fh, hB38, ow39.sq, hl32, hA33, nb35, hb42, fun F43 H44 g45 hB46 gs47 => ?_⟩
    have g48 := Gr.trans g36 g45
    have ow49 := ow37.gr g45 nb24
    have ow50 := ow39.gr g45 nb35
    refine ⟨(by show 1 ≤ sizeLine; decide), fun p51 np52 => ?_⟩
    have ne53 := ow49.ne np52
    have ne54 := ow50.ne np52
    have nb55 := hB46.nb np52
    have g56 := g48.own (o := (.lst [(V.str r40)])) np52
    have ow57 := ow49.own (o := (.lst [(V.str r40)])) np52
    have ow58 := ow50.own (o := (.lst [(V.str r40)])) np52
    have hB59 := hB46.own (o := (.lst [(V.str r40)])) np52
    have ow60 : Ow H0 F43 (upd H44 p51 (.lst [(V.str r40)])) p51 [(V.str r40)] := Ow.new g48 np52
    have hA61 : RL K F43 [(V.str r40)] ([r40] : List Str) := (RpA.cons (Rp.str r40 gs47) RpA.nil)
    obtain ⟨t62, hb63, hm⟩ := bnd hm
    obtain ⟨hk64, rfl⟩ := conL_ok hb63
    have hz67 : (((sortT r10).map V.str) ++ [(V.str r40)]).length ≤ sizeLine := by rw [List.length_append, RL.len (hA33.up g45.ff), RL.len hA61]; exact hk64
    refine ⟨p28, p51, ((sortT r10).map V.str), [(V.str r40)], rfl, rfl, ow58.sq, ow60.sq, (by rw [RL.len (hA33.up g45.ff), RL.len hA61]; exact hk64), fun p65 np66 => ?_⟩
    have hA68 := RL.app (hA33.up g45.ff) hA61
    have ne70 := ow57.ne np66
    have ne71 := ow58.ne np66
    have ne72 := ow60.ne np66
    have nb73 := hB59.nb np66
    have g74 := g56.own (o := (.lst (((sortT r10).map V.str) ++ [(V.str r40)]))) np66
    have ow75 := ow57.own (o := (.lst (((sortT r10).map V.str) ++ [(V.str r40)]))) np66
    have ow76 := ow58.own (o := (.lst (((sortT r10).map V.str) ++ [(V.str r40)]))) np66
    have ow77 := ow60.own (o := (.lst (((sortT r10).map V.str) ++ [(V.str r40)]))) np66
    have hB78 := hB59.own (o := (.lst (((sortT r10).map V.str) ++ [(V.str r40)]))) np66
    have ow79 : Ow H0 F43 (upd (upd H44 p51 (.lst [(V.str r40)])) p65 (.lst (((sortT r10).map V.str) ++ [(V.str r40)]))) p65 (((sortT r10).map V.str) ++ [(V.str r40)]) := Ow.new g56 np66
    have ln82 := RL.len hA68
    have gs83 := (RL.strs hA68).2
    refine ⟨p65, ((sortT r10) ++ ([r40] : List Str)), rfl, (by rw [← (RL.strs hA68).1]; exact ow79.sq), fun p80 np81 => ?_⟩
    have hl84 : ((sortT ((sortT r10) ++ ([r40] : List Str))).map V.str).length ≤ sizeLine := by rw [List.length_map, sortT_len, ← ln82]; exact hz67
    have hA85 : RL K F43 ((sortT ((sortT r10) ++ ([r40] : List Str))).map V.str) (sortT ((sortT r10) ++ ([r40] : List Str))) := RL.ofStrs _ fun z_ hz_ => gs83 z_ ((sortT_perm _).mem_iff.mp hz_)
    have ne86 := ow75.ne np81
    have ne87 := ow76.ne np81
    have ne88 := ow77.ne np81
    have ne89 := ow79.ne np81
    have nb90 := hB78.nb np81
    have g91 := g74.own (o := (.lst ((sortT ((sortT r10) ++ ([r40] : List Str))).map V.str))) np81
    have ow92 := ow75.own (o := (.lst ((sortT ((sortT r10) ++ ([r40] : List Str))).map V.str))) np81
    have ow93 := ow76.own (o := (.lst ((sortT ((sortT r10) ++ ([r40] : List Str))).map V.str))) np81
    have ow94 := ow77.own (o := (.lst ((sortT ((sortT r10) ++ ([r40] : List Str))).map V.str))) np81
    have ow95 := ow79.own (o := (.lst ((sortT ((sortT r10) ++ ([r40] : List Str))).map V.str))) np81
    have hB96 := hB78.own (o := (.lst ((sortT ((sortT r10) ++ ([r40] : List Str))).map V.str))) np81
    have ow97 : Ow H0 F43 (upd (upd (upd H44 p51 (.lst [(V.str r40)])) p65 (.lst (((sortT r10).map V.str) ++ [(V.str r40)]))) p80 (.lst ((sortT ((sortT r10) ++ ([r40] : List Str))).map V.str))) p80 ((sortT ((sortT r10) ++ ([r40] : List Str))).map V.str) := Ow.new g74 np81
    obtain ⟨y_some_here98, hx99⟩ : ∃ z_, (sortT ((sortT r10) ++ ([r40] : List Str))) = z_ := ⟨_, rfl⟩
    try rw [hx99] at hm
    have hA100 : RL K F43 ((sortT ((sortT r10) ++ ([r40] : List Str))).map V.str) y_some_here98 := RL.re hx99 hA85
    refine p_name ?_
    refine p_nx ?_
    refine p_seq ?_
    refine p_asg ?_
    refine ⟨(V.ref p80), rfl, p80, rfl, ⟨_, ow97.sq⟩, fun D101 nD102 => ?_⟩
    have ne103 := ow92.ne nD102
    have ne104 := ow93.ne nD102
    have ne105 := ow94.ne nD102
    have ne106 := ow95.ne nD102
    have ne107 := ow97.ne nD102
    have nb108 := hB96.nb nD102
    have g109 := g91.own (o := (.lst [])) nD102
    have ow110 := ow92.own (o := (.lst [])) nD102
    have ow111 := ow93.own (o := (.lst [])) nD102
    have ow112 := ow94.own (o := (.lst [])) nD102
    have ow113 := ow95.own (o := (.lst [])) nD102
    have ow114 := ow97.own (o := (.lst [])) nD102
    have hB115 := hB96.own (o := (.lst [])) nD102
    have ow116 : Ow H0 F43 (upd (upd (upd (upd H44 p51 (.lst [(V.str r40)])) p65 (.lst (((sortT r10).map V.str) ++ [(V.str r40)]))) p80 (.lst ((sortT ((sortT r10) ++ ([r40] : List Str))).map V.str))) D101 (.lst [])) D101 [] := Ow.new g91 nD102
    obtain ⟨l117, hb118, hm⟩ := bnd hm
    refine lc_list (K := K) (a := p80) (xs := ((sortT ((sortT r10) ++ ([r40] : List Str))).map V.str)) (fun i H' => ∃ (F' : Hp) (acc : List V) (ds : List (Int × Int)) (rest : List (Int × Int)), Gr (Bc B C) F0 H0 F' H' ∧ Same F43 F' ∧ Ow H0 F' H' D101 acc ∧ RL K F' acc ds ∧ acc.length ≤ i ∧ Ow H0 F' H' p17 ws18 ∧ Ow H0 F' H' p28 ((sortT r10).map V.str) ∧ Ow H0 F' H' p51 [(V.str r40)] ∧ Ow H0 F' H' p65 (((sortT r10).map V.str) ++ [(V.str r40)]) ∧ Ow H0 F' H' p80 ((sortT ((sortT r10) ++ ([r40] : List Str))).map V.str) ∧ BagAt F' H' B C b41 ∧ m_law_c1 r1 (y_some_here98.drop i) = some rest ∧ ds ++ rest = l117) ?_ ?_ ?_ ?_
    · exact ⟨F43, [], [], l117, g109, Same.refl _, ow116, RpA.nil, Nat.le_refl _, ow110, ow111, ow112, ow113, ow114, hB115, hb118, rfl⟩
    · intro i H' _ hP
      obtain ⟨F119, acc120, ds121, rest122, g0123, sm124, owD125, hA126, hi127, ow0128, ow1129, ow2130, ow3131, ow4132, hB133, hm134, hr135⟩ := hP
      exact ow4132.sq
    · intro i137 xv136 H139 hx138 hP
      obtain ⟨F140, acc141, ds142, rest143, g0144, sm145, owD146, hA147, hi148, ow0149, ow1150, ow2151, ow3152, ow4153, hB154, hm155, hr156⟩ := hP
      obtain ⟨e157, he158, r159⟩ := RL.get (hA100.up sm145) hx138
      obtain ⟨rfl, gs160⟩ := R.str_v r159
      rw [drop_at he158, m_law_c1.eq_2] at hm155
      refine ⟨rfl, (p_yes ?_)⟩
      obtain ⟨r161, hb162, hm155⟩ := bnd hm155
      refine ⟨(V.str e157), rfl, (V.int r1), rfl, F140, e157, r1, r161, rfl, g0144.fh, gs160, hb162, fun v166 F163 H164 g165 r167 => ?_⟩
      have g168 := Gr.trans g0144 (Gr.of0 g165)
      have ow169 := ow0149.gr0 g165
      have ow170 := ow1150.gr0 g165
      have ow171 := ow2151.gr0 g165
      have ow172 := ow3152.gr0 g165
      have ow173 := ow4153.gr0 g165
      have ow174 := owD146.gr0 g165
      have hB175 := hB154.gr0 g165
      have hA176 : RL K F163 (acc141 ++ [v166]) (ds142 ++ [(r161 : (Int × Int))]) := RL.snoc (hA147.up g165.ff) r167
      obtain ⟨rest177, h178, h179⟩ := bnd hm155
      obtain rfl := sjoin h179
      refine ⟨acc141, ow174.h, (lt_line hi148 (List.getElem?_eq_some_iff.mp hx138).1 hl84), ?_⟩
      have g180 := g168.put (o := (.lst (acc141 ++ [v166]))) ow174
      have ow181 := ow169.other (o := (.lst (acc141 ++ [v166]))) ne103
      have ow182 := ow170.other (o := (.lst (acc141 ++ [v166]))) ne104
      have ow183 := ow171.other (o := (.lst (acc141 ++ [v166]))) ne105
      have ow184 := ow172.other (o := (.lst (acc141 ++ [v166]))) ne106
      have ow185 := ow173.other (o := (.lst (acc141 ++ [v166]))) ne107
      have hB186 := hB175.other (o := (.lst (acc141 ++ [v166]))) nb108
      have ow187 := ow174.put (us := (acc141 ++ [v166]))
      exact ⟨F163, (acc141 ++ [v166]), (ds142 ++ [r161]), rest177, g180, (Same.trans sm145 g165.ff), ow187, hA176, (by rw [List.length_append]; exact Nat.succ_le_succ hi148), ow181, ow182, ow183, ow184, ow185, hB186, h178, (snoc_rest hr156)⟩
    intro H188 hP
    obtain ⟨F189, acc190, ds191, _rest, g0193, sm194, owD195, hA196, hi197, ow0198, ow1199, ow2200, ow3201, ow4202, hB203, hm204, hr205⟩ := hP
    rw [drop_end (RL.len hA100)] at hm204
    rw [m_law_c1.eq_1] at hm204
    obtain rfl := sjoin hm204
    rw [List.append_nil] at hr205
    obtain rfl := hr205
    have hl206 : acc190.length ≤ sizeLine := Nat.le_trans hi197 hl84
    refine p_name ?_
    refine p_nx ?_
    refine p_seq ?_
    refine p_asg ?_
    refine ⟨(V.ref D101), rfl, D101, rfl, ⟨_, owD195.sq⟩, fun D207 nD208 => ?_⟩
    have ne209 := ow0198.ne nD208
    have ne210 := ow1199.ne nD208
    have ne211 := ow2200.ne nD208
    have ne212 := ow3201.ne nD208
    have ne213 := ow4202.ne nD208
    have ne214 := owD195.ne nD208
    have nb215 := hB203.nb nD208
    have g216 := g0193.own (o := (.lst [])) nD208
    have ow217 := ow0198.own (o := (.lst [])) nD208
    have ow218 := ow1199.own (o := (.lst [])) nD208
    have ow219 := ow2200.own (o := (.lst [])) nD208
    have ow220 := ow3201.own (o := (.lst [])) nD208
    have ow221 := ow4202.own (o := (.lst [])) nD208
    have ow222 := owD195.own (o := (.lst [])) nD208
    have hB223 := hB203.own (o := (.lst [])) nD208
    have ow224 : Ow H0 F189 (upd H188 D207 (.lst [])) D207 [] := Ow.new g0193 nD208
    refine lc_list (K := K) (a := D101) (xs := acc190) (fun i H' => ∃ (F' : Hp) (acc : List V) (ds : List (Int × Int)), Gr (Bc B C) F0 H0 F' H' ∧ Same F189 F' ∧ Ow H0 F' H' D207 acc ∧ RL K F' acc ds ∧ acc.length ≤ i ∧ Ow H0 F' H' p17 ws18 ∧ Ow H0 F' H' p28 ((sortT r10).map V.str) ∧ Ow H0 F' H' p51 [(V.str r40)] ∧ Ow H0 F' H' p65 (((sortT r10).map V.str) ++ [(V.str r40)]) ∧ Ow H0 F' H' p80 ((sortT ((sortT r10) ++ ([r40] : List Str))).map V.str) ∧ Ow H0 F' H' D101 acc190 ∧ BagAt F' H' B C b41 ∧ ds ++ m_law_c2  (ds191.drop i) = (m_law_c2  ds191)) ?_ ?_ ?_ ?_
    · exact ⟨F189, [], [], g216, Same.refl _, ow224, RpA.nil, Nat.le_refl _, ow217, ow218, ow219, ow220, ow221, ow222, hB223, rfl⟩
    · intro i H' _ hP
      obtain ⟨F226, acc227, ds228, g0229, sm230, owD231, hA232, hi233, ow0234, ow1235, ow2236, ow3237, ow4238, ow5239, hB240, hr241⟩ := hP
      exact ow5239.sq
    · intro i243 xv242 H245 hx244 hP
      obtain ⟨F246, acc247, ds248, g0249, sm250, owD251, hA252, hi253, ow0254, ow1255, ow2256, ow3257, ow4258, ow5259, hB260, hr261⟩ := hP
      obtain ⟨e262, he263, r264⟩ := RL.get (hA196.up sm250) hx244
      rw [drop_at he263, m_law_c2.eq_2] at hr261
      obtain ⟨p265, v268, v269, ev266, hS267, r270, r271⟩ := R.p2_v r264
      obtain rfl := R.int_v r270
      obtain rfl := R.int_v r271
      refine ⟨p265, [(V.int e262.1), (V.int e262.2)], ev266, (SqT_mono g0249.fh hS267), rfl, (V.int e262.1), [(V.int e262.2)], rfl, (V.int e262.2), [], rfl, rfl, rfl, (p_yes ?_)⟩
      refine ⟨(V.int e262.1), rfl, (V.int e262.2), rfl, _, _, rfl, rfl, (by show 2 ≤ sizeLine; decide), fun p272 np273 => ?_⟩
      have ne274 := ow0254.ne np273
      have ne275 := ow1255.ne np273
      have ne276 := ow2256.ne np273
      have ne277 := ow3257.ne np273
      have ne278 := ow4258.ne np273
      have ne279 := ow5259.ne np273
      have ne280 := owD251.ne np273
      have nb281 := hB260.nb np273
      have sm282 := same_new (o := (.tup [(V.int e262.1), (V.int ((0 : Int) - e262.2))])) (g0249.noneF np273)
      have g283 := g0249.frz (o := (.tup [(V.int e262.1), (V.int ((0 : Int) - e262.2))])) np273
      have ow284 := ow0254.frz (o := (.tup [(V.int e262.1), (V.int ((0 : Int) - e262.2))])) np273
      have ow285 := ow1255.frz (o := (.tup [(V.int e262.1), (V.int ((0 : Int) - e262.2))])) np273
      have ow286 := ow2256.frz (o := (.tup [(V.int e262.1), (V.int ((0 : Int) - e262.2))])) np273
      have ow287 := ow3257.frz (o := (.tup [(V.int e262.1), (V.int ((0 : Int) - e262.2))])) np273
      have ow288 := ow4258.frz (o := (.tup [(V.int e262.1), (V.int ((0 : Int) - e262.2))])) np273
      have ow289 := ow5259.frz (o := (.tup [(V.int e262.1), (V.int ((0 : Int) - e262.2))])) np273
      have ow290 := owD251.frz (o := (.tup [(V.int e262.1), (V.int ((0 : Int) - e262.2))])) np273
      have hB291 := hB260.frz (o := (.tup [(V.int e262.1), (V.int ((0 : Int) - e262.2))])) np273
      have r292 : R K (upd F246 p272 (.tup [(V.int e262.1), (V.int ((0 : Int) - e262.2))])) (.ref p272) ((e262.1, ((0 : Int) - e262.2)) : (Int × Int)) := R.mk2 fzT (Rp.int e262.1) (Rp.int ((0 : Int) - e262.2))
      have hA293 : RL K (upd F246 p272 (.tup [(V.int e262.1), (V.int ((0 : Int) - e262.2))])) (acc247 ++ [(V.ref p272)]) (ds248 ++ [((e262.1, ((0 : Int) - e262.2)) : (Int × Int))]) := RL.snoc (hA252.up sm282) r292
      refine ⟨acc247, ow290.h, (lt_line hi253 (List.getElem?_eq_some_iff.mp hx244).1 hl206), ?_⟩
      have g294 := g283.put (o := (.lst (acc247 ++ [(V.ref p272)]))) ow290
      have ow295 := ow284.other (o := (.lst (acc247 ++ [(V.ref p272)]))) ne209
      have ow296 := ow285.other (o := (.lst (acc247 ++ [(V.ref p272)]))) ne210
      have ow297 := ow286.other (o := (.lst (acc247 ++ [(V.ref p272)]))) ne211
      have ow298 := ow287.other (o := (.lst (acc247 ++ [(V.ref p272)]))) ne212
      have ow299 := ow288.other (o := (.lst (acc247 ++ [(V.ref p272)]))) ne213
      have ow300 := ow289.other (o := (.lst (acc247 ++ [(V.ref p272)]))) ne214
      have hB301 := hB291.other (o := (.lst (acc247 ++ [(V.ref p272)]))) nb215
      have ow302 := ow290.put (us := (acc247 ++ [(V.ref p272)]))
      exact ⟨(upd F246 p272 (.tup [(V.int e262.1), (V.int ((0 : Int) - e262.2))])), (acc247 ++ [(V.ref p272)]), (ds248 ++ [(e262.1, ((0 : Int) - e262.2))]), g294, (Same.trans sm250 sm282), ow302, hA293, (by rw [List.length_append]; exact Nat.succ_le_succ hi253), ow295, ow296, ow297, ow298, ow299, ow300, hB301, (snoc_rest hr261)⟩
    intro H303 hP
    obtain ⟨F304, acc305, ds306, g0308, sm309, owD310, hA311, hi312, ow0313, ow1314, ow2315, ow3316, ow4317, ow5318, hB319, hr320⟩ := hP
    rw [drop_end (RL.len hA196)] at hr320
    rw [m_law_c2.eq_1, List.append_nil] at hr320
    obtain rfl := hr320
    have hl321 : acc305.length ≤ sizeLine := Nat.le_trans hi312 hl206
    obtain ⟨y_ends322, hx323⟩ : ∃ z_, (m_law_c2  ds191) = z_ := ⟨_, rfl⟩
    try rw [hx323] at hm
    have hA324 : RL K F304 acc305 y_ends322 := RL.re hx323 hA311
    refine p_name ?_
    refine p_nx ?_
    refine p_seq ?_
    refine p_if ?_
    refine ⟨(V.ref D207), rfl, (V.ref D207), rfl, D207, acc305, y_ends322, rfl, owD310.sq, (RpA.up hA324 g0308.fh), fun ys325 p326 hl327 up328 np329 => ?_⟩
    have hl330 : ys325.length ≤ sizeLine := by rw [hl327]; exact hl321
    have hA331 : RL K F304 ys325 (sortP y_ends322) := up328 _ hA324
    have ne332 := ow0313.ne np329
    have ne333 := ow1314.ne np329
    have ne334 := ow2315.ne np329
    have ne335 := ow3316.ne np329
    have ne336 := ow4317.ne np329
    have ne337 := ow5318.ne np329
    have ne338 := owD310.ne np329
    have nb339 := hB319.nb np329
    have g340 := g0308.own (o := (.lst ys325)) np329
    have ow341 := ow0313.own (o := (.lst ys325)) np329
    have ow342 := ow1314.own (o := (.lst ys325)) np329
    have ow343 := ow2315.own (o := (.lst ys325)) np329
    have ow344 := ow3316.own (o := (.lst ys325)) np329
    have ow345 := ow4317.own (o := (.lst ys325)) np329
    have ow346 := ow5318.own (o := (.lst ys325)) np329
    have ow347 := owD310.own (o := (.lst ys325)) np329
    have hB348 := hB319.own (o := (.lst ys325)) np329
    have ow349 : Ow H0 F304 (upd H303 p326 (.lst ys325)) p326 ys325 := Ow.new g0308 np329
    have rH350 : R K (upd H303 p326 (.lst ys325)) (V.ref D207) y_ends322 := (R.mkl ow347.sq hl321 (RpA.up hA324 g340.fh))
    have rH351 : R K (upd H303 p326 (.lst ys325)) (V.ref p326) (sortP y_ends322) := (R.mkl ow349.sq hl330 (RpA.up hA331 g340.fh))
    refine ⟨_, _, (Rp.dp _ _ rH350), (Rp.dp _ _ rH351), (R.shaped rH350), (R.shaped rH351), _, rfl, (iteB (fun hc => ?_) (fun hc => ?_))⟩
    · have hm := ifT hc hm
      refine p_ret ?_
      obtain ⟨he352, rfl⟩ := pjoin hm
      exact absurd he352 (by decide)
    · have hm := ifF hc hm
      refine p_next ?_
      refine p_nx ?_
      refine p_seq ?_
      refine p_if ?_
      refine ⟨(V.ref p80), rfl, p80, rfl, ⟨_, ow345.sq⟩, fun D353 nD354 => ?_⟩
      have ne355 := ow341.ne nD354
      have ne356 := ow342.ne nD354
      have ne357 := ow343.ne nD354
      have ne358 := ow344.ne nD354
      have ne359 := ow345.ne nD354
      have ne360 := ow346.ne nD354
      have ne361 := ow347.ne nD354
      have ne362 := ow349.ne nD354
      have nb363 := hB348.nb nD354
      have g364 := g340.own (o := (.lst [])) nD354
      have ow365 := ow341.own (o := (.lst [])) nD354
      have ow366 := ow342.own (o := (.lst [])) nD354
      have ow367 := ow343.own (o := (.lst [])) nD354
      have ow368 := ow344.own (o := (.lst [])) nD354
      have ow369 := ow345.own (o := (.lst [])) nD354
      have ow370 := ow346.own (o := (.lst [])) nD354
      have ow371 := ow347.own (o := (.lst [])) nD354
      have ow372 := ow349.own (o := (.lst [])) nD354
      have hB373 := hB348.own (o := (.lst [])) nD354
      have ow374 : Ow H0 F304 (upd (upd H303 p326 (.lst ys325)) D353 (.lst [])) D353 [] := Ow.new g340 nD354
      obtain ⟨l375, hb376, hm⟩ := bnd hm
      refine lc_list (K := K) (a := p80) (xs := ((sortT ((sortT r10) ++ ([r40] : List Str))).map V.str)) (fun i H' => ∃ (F' : Hp) (acc : List V) (ds : List Str) (rest : List Str), Gr (Bc B C) F0 H0 F' H' ∧ Same F304 F' ∧ Ow H0 F' H' D353 acc ∧ RL K F' acc ds ∧ acc.length ≤ i ∧ Ow H0 F' H' p17 ws18 ∧ Ow H0 F' H' p28 ((sortT r10).map V.str) ∧ Ow H0 F' H' p51 [(V.str r40)] ∧ Ow H0 F' H' p65 (((sortT r10).map V.str) ++ [(V.str r40)]) ∧ Ow H0 F' H' p80 ((sortT ((sortT r10) ++ ([r40] : List Str))).map V.str) ∧ Ow H0 F' H' D101 acc190 ∧ Ow H0 F' H' D207 acc305 ∧ Ow H0 F' H' p326 ys325 ∧ BagAt F' H' B C b41 ∧ m_law_c3 r1 (y_some_here98.drop i) = some rest ∧ ds ++ rest = l375) ?_ ?_ ?_ ?_
      · exact ⟨F304, [], [], l375, g364, Same.refl _, ow374, RpA.nil, Nat.le_refl _, ow365, ow366, ow367, ow368, ow369, ow370, ow371, ow372, hB373, hb376, rfl⟩
      · intro i H' _ hP
        obtain ⟨F377, acc378, ds379, rest380, g0381, sm382, owD383, hA384, hi385, ow0386, ow1387, ow2388, ow3389, ow4390, ow5391, ow6392, ow7393, hB394, hm395, hr396⟩ := hP
        exact ow4390.sq
      · intro i398 xv397 H400 hx399 hP
        obtain ⟨F401, acc402, ds403, rest404, g0405, sm406, owD407, hA408, hi409, ow0410, ow1411, ow2412, ow3413, ow4414, ow5415, ow6416, ow7417, hB418, hm419, hr420⟩ := hP
        obtain ⟨e421, he422, r423⟩ := RL.get (hA100.up (Same.trans sm194 (Same.trans sm309 sm406))) hx399
        obtain ⟨rfl, gs424⟩ := R.str_v r423
        rw [drop_at he422, m_law_c3.eq_2] at hm419
        obtain ⟨r425, hb426, hm419⟩ := bnd hm419
        refine ⟨rfl, (V.str e421), rfl, (V.int r1), rfl, e421, r1, r425, rfl, gs424, hb426, fun F427 H428 g429 => ?_⟩
        have g431 := Gr.apart g0405 g429
        have ow432 := ow0410.apart g429
        have ow433 := ow1411.apart g429
        have ow434 := ow2412.apart g429
        have ow435 := ow3413.apart g429
        have ow436 := ow4414.apart g429
        have ow437 := ow5415.apart g429
        have ow438 := ow6416.apart g429
        have ow439 := ow7417.apart g429
        have ow440 := owD407.apart g429
        have hB441 := hB418.apart g429
        refine ⟨_, rfl, (iteB (fun hc => ?_) (fun hc => ?_))⟩
        · have hm419 := ifT hc hm419
          have hA442 : RL K F401 (acc402 ++ [(V.str e421)]) (ds403 ++ [(e421 : Str)]) := RL.snoc hA408 (Rp.str e421 gs424)
          obtain ⟨rest443, h444, h445⟩ := bnd hm419
          obtain rfl := sjoin h445
          refine ⟨(V.str e421), rfl, acc402, ow440.h, (lt_line hi409 (List.getElem?_eq_some_iff.mp hx399).1 hl84), ?_⟩
          have g446 := g431.put (o := (.lst (acc402 ++ [(V.str e421)]))) ow440
          have ow447 := ow432.other (o := (.lst (acc402 ++ [(V.str e421)]))) ne355
          have ow448 := ow433.other (o := (.lst (acc402 ++ [(V.str e421)]))) ne356
          have ow449 := ow434.other (o := (.lst (acc402 ++ [(V.str e421)]))) ne357
          have ow450 := ow435.other (o := (.lst (acc402 ++ [(V.str e421)]))) ne358
          have ow451 := ow436.other (o := (.lst (acc402 ++ [(V.str e421)]))) ne359
          have ow452 := ow437.other (o := (.lst (acc402 ++ [(V.str e421)]))) ne360
          have ow453 := ow438.other (o := (.lst (acc402 ++ [(V.str e421)]))) ne361
          have ow454 := ow439.other (o := (.lst (acc402 ++ [(V.str e421)]))) ne362
          have hB455 := hB441.other (o := (.lst (acc402 ++ [(V.str e421)]))) nb363
          have ow456 := ow440.put (us := (acc402 ++ [(V.str e421)]))
          exact ⟨F401, (acc402 ++ [(V.str e421)]), (ds403 ++ [e421]), rest443, g446, sm406, ow456, hA442, (by rw [List.length_append]; exact Nat.succ_le_succ hi409), ow447, ow448, ow449, ow450, ow451, ow452, ow453, ow454, hB455, h444, (snoc_rest hr420)⟩
        · have hm419 := ifF hc hm419
          exact ⟨F401, acc402, ds403, rest404, g431, sm406, ow440, hA408, (Nat.le_succ_of_le hi409), ow432, ow433, ow434, ow435, ow436, ow437, ow438, ow439, hB441, hm419, hr420⟩
      intro H457 hP
      obtain ⟨F458, acc459, ds460, _rest, g0462, sm463, owD464, hA465, hi466, ow0467, ow1468, ow2469, ow3470, ow4471, ow5472, ow6473, ow7474, hB475, hm476, hr477⟩ := hP
      rw [drop_end (RL.len (hA100.up (Same.trans sm194 sm309)))] at hm476
      rw [m_law_c3.eq_1] at hm476
      obtain rfl := sjoin hm476
      rw [List.append_nil] at hr477
      obtain rfl := hr477
      have hl478 : acc459.length ≤ sizeLine := Nat.le_trans hi466 hl84
      refine ⟨(by show 0 ≤ sizeLine; decide), fun p479 np480 => ?_⟩
      have ne481 := ow0467.ne np480
      have ne482 := ow1468.ne np480
      have ne483 := ow2469.ne np480
      have ne484 := ow3470.ne np480
      have ne485 := ow4471.ne np480
      have ne486 := ow5472.ne np480
      have ne487 := ow6473.ne np480
      have ne488 := ow7474.ne np480
      have ne489 := owD464.ne np480
      have nb490 := hB475.nb np480
      have g491 := g0462.own (o := (.lst [])) np480
      have ow492 := ow0467.own (o := (.lst [])) np480
      have ow493 := ow1468.own (o := (.lst [])) np480
      have ow494 := ow2469.own (o := (.lst [])) np480
      have ow495 := ow3470.own (o := (.lst [])) np480
      have ow496 := ow4471.own (o := (.lst [])) np480
      have ow497 := ow5472.own (o := (.lst [])) np480
      have ow498 := ow6473.own (o := (.lst [])) np480
      have ow499 := ow7474.own (o := (.lst [])) np480
      have ow500 := owD464.own (o := (.lst [])) np480
      have hB501 := hB475.own (o := (.lst [])) np480
      have ow502 : Ow H0 F458 (upd H457 p479 (.lst [])) p479 [] := Ow.new g0462 np480
      have rH504 : R K (upd H457 p479 (.lst [])) (V.ref D353) ds460 := (R.mkl ow500.sq hl478 (RpA.up hA465 g491.fh))
      have rH505 : R K (upd H457 p479 (.lst [])) (V.ref p479) ([] : (List Str)) := (R.mkl ow502.sq (by show 0 ≤ sizeLine; decide) (RpA.up RpA.nil g491.fh))
      refine ⟨_, _, (Rp.dp _ _ rH504), (Rp.dp _ _ rH505), (R.shaped rH504), (R.shaped rH505), _, rfl, (iteB (fun hc => ?_) (fun hc => ?_))⟩
      · have hm := ifT hc hm
        refine p_ret ?_
        obtain ⟨he506, rfl⟩ := pjoin hm
        exact absurd he506 (by decide)
      · have hm := ifF hc hm
        refine p_next ?_
        refine p_nx ?_
        refine p_seq ?_
        refine p_for ?_
        refine ⟨(V.ref p80), rfl, p80, rfl, ⟨_, ow496.sq⟩, ?_⟩
        obtain ⟨l508, ht509, hm⟩ := bndL1 hm
        refine for_list (K := K) (a := p80) (xs := ((sortT ((sortT r10) ++ ([r40] : List Str))).map V.str)) (fun i σ' H' => ∃ (F' : Hp) (o_y_one_here : Option V) (b : Bag), σ' = [(some (V.ref a_)), (some (V.ref B)), (some (V.int r1)), (some (V.ref p80)), (some (V.ref D207)), o_y_one_here, none, none, none, none, none, none] ∧ Gr (Bc B C) F0 H0 F' H' ∧ Same F458 F' ∧ Ow H0 F' H' p80 ((sortT ((sortT r10) ++ ([r40] : List Str))).map V.str) ∧ BagAt F' H' B C b ∧ m_law_l4 r1 y_some_here98 (y_some_here98.drop i) b = some l508) ?_ ?_ ?_ ?_
        · exact ⟨F458, none, b41, rfl, g491, (Same.refl _), ow496, hB501, ht509⟩
        · intro i σ' H' _ hP
          obtain ⟨F', o_y_one_here, b, rfl, g_, sm_, owk0_, hB_, hm_⟩ := hP
          exact owk0_.sq
        · intro i510 xv513 σ' H512 hx511 hP
          obtain ⟨F514, o_y_one_here515, b516, rfl, g517, sm518, owk0519, hB520, hm521⟩ := hP
          obtain ⟨e522, he523, r524⟩ := RL.get (hA100.up (Same.trans sm194 (Same.trans sm309 (Same.trans sm463 sm518)))) hx511
          obtain ⟨rfl, gs525⟩ := R.str_v r524
          rw [drop_at he523, m_law_l4.eq_2] at hm521
          refine p_name ?_
          refine p_if ?_
          refine ⟨(V.ref p80), rfl, p80, rfl, ⟨_, owk0519.sq⟩, fun D526 nD527 => ?_⟩
          have ne528 := owk0519.ne nD527
          have nb529 := hB520.nb nD527
          have g530 := g517.own (o := (.lst [])) nD527
          have ow531 := owk0519.own (o := (.lst [])) nD527
          have hB532 := hB520.own (o := (.lst [])) nD527
          have ow533 : Ow H0 F514 (upd H512 D526 (.lst [])) D526 [] := Ow.new g517 nD527
          obtain ⟨l534, hb535, hm521⟩ := bnd hm521
          refine lc_list (K := K) (a := p80) (xs := ((sortT ((sortT r10) ++ ([r40] : List Str))).map V.str)) (fun i H' => ∃ (F' : Hp) (acc : List V) (ds : List Str) (rest : List Str), Gr (Bc B C) F0 H0 F' H' ∧ Same F514 F' ∧ Ow H0 F' H' D526 acc ∧ RL K F' acc ds ∧ acc.length ≤ i ∧ Ow H0 F' H' p80 ((sortT ((sortT r10) ++ ([r40] : List Str))).map V.str) ∧ BagAt F' H' B C b516 ∧ m_law_c5 r1 e522 (y_some_here98.drop i) = some rest ∧ ds ++ rest = l534) ?_ ?_ ?_ ?_
          · exact ⟨F514, [], [], l534, g530, Same.refl _, ow533, RpA.nil, Nat.le_refl _, ow531, hB532, hb535, rfl⟩
          · intro i H' _ hP
            obtain ⟨F536, acc537, ds538, rest539, g0540, sm541, owD542, hA543, hi544, ow0545, hB546, hm547, hr548⟩ := hP
            exact ow0545.sq
          · intro i550 xv549 H552 hx551 hP
            obtain ⟨F553, acc554, ds555, rest556, g0557, sm558, owD559, hA560, hi561, ow0562, hB563, hm564, hr565⟩ := hP
            obtain ⟨e566, he567, r568⟩ := RL.get (hA100.up (Same.trans sm194 (Same.trans sm309 (Same.trans sm463 (Same.trans sm518 sm558))))) hx551
            obtain ⟨rfl, gs569⟩ := R.str_v r568
            rw [drop_at he567, m_law_c5.eq_2] at hm564
            obtain ⟨r570, hb571, hm564⟩ := bnd hm564
            refine ⟨rfl, (V.str e522), rfl, (V.str e566), rfl, (V.int r1), rfl, e522, e566, r1, r570, rfl, gs525, gs569, hb571, fun F572 H573 g574 => ?_⟩
            have g576 := Gr.apart g0557 g574
            have ow577 := ow0562.apart g574
            have ow578 := owD559.apart g574
            have hB579 := hB563.apart g574
            refine ⟨_, rfl, (iteB (fun hc => ?_) (fun hc => ?_))⟩
            · have hm564 := ifT hc hm564
              have hA580 : RL K F553 (acc554 ++ [(V.str e566)]) (ds555 ++ [(e566 : Str)]) := RL.snoc hA560 (Rp.str e566 gs569)
              obtain ⟨rest581, h582, h583⟩ := bnd hm564
              obtain rfl := sjoin h583
              refine ⟨(V.str e566), rfl, acc554, ow578.h, (lt_line hi561 (List.getElem?_eq_some_iff.mp hx551).1 hl84), ?_⟩
              have g584 := g576.put (o := (.lst (acc554 ++ [(V.str e566)]))) ow578
              have ow585 := ow577.other (o := (.lst (acc554 ++ [(V.str e566)]))) ne528
              have hB586 := hB579.other (o := (.lst (acc554 ++ [(V.str e566)]))) nb529
              have ow587 := ow578.put (us := (acc554 ++ [(V.str e566)]))
              exact ⟨F553, (acc554 ++ [(V.str e566)]), (ds555 ++ [e566]), rest581, g584, sm558, ow587, hA580, (by rw [List.length_append]; exact Nat.succ_le_succ hi561), ow585, hB586, h582, (snoc_rest hr565)⟩
            · have hm564 := ifF hc hm564
              exact ⟨F553, acc554, ds555, rest556, g576, sm558, ow578, hA560, (Nat.le_succ_of_le hi561), ow577, hB579, hm564, hr565⟩
          intro H588 hP
          obtain ⟨F589, acc590, ds591, _rest, g0593, sm594, owD595, hA596, hi597, ow0598, hB599, hm600, hr601⟩ := hP
          rw [drop_end (RL.len (hA100.up (Same.trans sm194 (Same.trans sm309 (Same.trans sm463 sm518)))))] at hm600
          rw [m_law_c5.eq_1] at hm600
          obtain rfl := sjoin hm600
          rw [List.append_nil] at hr601
          obtain rfl := hr601
          have hl602 : acc590.length ≤ sizeLine := Nat.le_trans hi597 hl84
          refine ⟨(by show 0 ≤ sizeLine; decide), fun p603 np604 => ?_⟩
          have ne605 := ow0598.ne np604
          have ne606 := owD595.ne np604
          have nb607 := hB599.nb np604
          have g608 := g0593.own (o := (.lst [])) np604
          have ow609 := ow0598.own (o := (.lst [])) np604
          have ow610 := owD595.own (o := (.lst [])) np604
          have hB611 := hB599.own (o := (.lst [])) np604
          have ow612 : Ow H0 F589 (upd H588 p603 (.lst [])) p603 [] := Ow.new g0593 np604
          have rH614 : R K (upd H588 p603 (.lst [])) (V.ref D526) ds591 := (R.mkl ow610.sq hl602 (RpA.up hA596 g608.fh))
          have rH615 : R K (upd H588 p603 (.lst [])) (V.ref p603) ([] : (List Str)) := (R.mkl ow612.sq (by show 0 ≤ sizeLine; decide) (RpA.up RpA.nil g608.fh))
          refine ⟨_, _, (Rp.dp _ _ rH614), (Rp.dp _ _ rH615), (R.shaped rH614), (R.shaped rH615), _, rfl, (iteB (fun hc => ?_) (fun hc => ?_))⟩
          · have hm521 := ifT hc hm521
            refine p_ret ?_
            obtain rfl := sjoin hm521
            have hm := bret hm
            obtain ⟨he616, rfl⟩ := pjoin hm
            exact absurd he616 (by decide)
          · have hm521 := ifF hc hm521
            refine p_next ?_
            exact ⟨F589, (some (V.str e522)), b516, rfl, g608, (Same.trans sm518 sm594), ow609, hB611, hm521⟩
        intro σ617 H618 hP
        obtain ⟨F619, o_y_one_here620, b621, rfl, g622, sm623, owk0624, hB625, hm626⟩ := hP
        rw [drop_end (RL.len (hA100.up (Same.trans sm194 (Same.trans sm309 (Same.trans sm463 sm623))))), m_law_l4.eq_1] at hm626
        obtain rfl := sjoin hm626
        have hm := bgo1 hm
        refine p_nx ?_
        refine p_seq ?_
        refine p_for ?_
        refine ⟨_, rfl, (by decide), (by decide), ?_⟩
        obtain ⟨l628, ht629, hm⟩ := bndL1 hm
        refine for_range (lo := (0 : Int)) (n := (8 : Nat)) (fun i σ' H' => ∃ (F' : Hp) (o_y_k : Option V) (o_y_bits_here : Option V) (o_y_number : Option V) (b : Bag), σ' = [(some (V.ref a_)), (some (V.ref B)), (some (V.int r1)), (some (V.ref p80)), (some (V.ref D207)), o_y_one_here620, o_y_k, o_y_bits_here, o_y_number, none, none, none] ∧ Gr (Bc B C) F0 H0 F' H' ∧ Same F619 F' ∧ Ow H0 F' H' p80 ((sortT ((sortT r10) ++ ([r40] : List Str))).map V.str) ∧ BagAt F' H' B C b ∧ m_law_l6 r1 y_some_here98 ((rangeL (0 : Int) 8).drop i) b = some l628) ?_ ?_ ?_
        · exact ⟨F619, none, none, none, b621, rfl, g622, (Same.refl _), owk0624, hB625, ht629⟩
        · intro i630 σ' H632 hx631 hP
          obtain ⟨F634, o_y_k635, o_y_bits_here636, o_y_number637, b638, rfl, g639, sm640, owk0641, hB642, hm643⟩ := hP
          have he645 := rangeL_at (lo := (0 : Int)) hx631
          rw [drop_at he645, m_law_l6.eq_2] at hm643
          refine p_name ?_
          refine p_seq ?_
          refine p_asg ?_
          obtain ⟨r646, b647, hb648, hm643⟩ := bnd2 hm643
          refine ⟨(V.ref p80), rfl, (V.ref B), rfl, (V.ref p80), rfl, p80, ((sortT ((sortT r10) ++ ([r40] : List Str))).map V.str), _, rfl, (.inl owk0641.sq), (RL.len (hA100.up (Same.trans sm194 (Same.trans sm309 (Same.trans sm463 (Same.trans sm623 sm640)))))), F634, B, C, b638, (((y_some_here98).length : Nat) : Int), r646, b647, rfl, g639.fh, hB642, hb648, fun F649 H650 g651 hB652 => ?_⟩
          have g654 := Gr.trans g639 g651
          have ow655 := owk0641.gr g651 nb90
          obtain ⟨t656, hb657, hm643⟩ := bnd hm643
          obtain ⟨v658, ha659, r660⟩ := RL.at (hA100.up (Same.trans sm194 (Same.trans sm309 (Same.trans sm463 (Same.trans sm623 (Same.trans sm640 g651.ff)))))) hb657
          obtain ⟨rfl, gs661⟩ := R.str_v r660
          refine ⟨p80, ((sortT ((sortT r10) ++ ([r40] : List Str))).map V.str), _, (V.str t656), rfl, rfl, ow655.sq, ha659, rfl, _, _, rfl, rfl, (gs661 : GS t656).len, ?_⟩
          obtain ⟨y_bits_here662, hb663, hm643⟩ := bnd hm643
          have hx664 : (Txt.stripChars t656 ("*" : Str)) = y_bits_here662 := sjoin hb663
          have gs665 : GS y_bits_here662 := hx664 ▸ ((GS.strip (gs661 : GS t656) ("*" : Str)) : GS (Txt.stripChars t656 ("*" : Str)))
          refine p_nm (v' := (V.str y_bits_here662)) (congrArg V.str hx664) ?_
          refine p_nx ?_
          refine p_seq ?_
          refine p_asg ?_
          obtain ⟨r666, b667, hb668, hm643⟩ := bnd2 hm643
          refine ⟨(V.str y_bits_here662), rfl, (V.ref B), rfl, (V.int r1), rfl, (V.str y_bits_here662), rfl, _, rfl, (gs665 : GS y_bits_here662).len, _, _, rfl, rfl, F649, B, C, b647, (r1 - ((y_bits_here662.length : Nat) : Int)), r666, b667, rfl, g654.fh, hB652, hb668, fun F669 H670 g671 hB672 gs673 => ?_⟩
          have g674 := Gr.trans g654 g671
          have ow675 := ow655.gr g671 nb90
          obtain ⟨t676, hb677, hm643⟩ := bnd hm643
          obtain ⟨hk678, rfl⟩ := catS_ok hb677
          obtain ⟨r679, hb680, hm643⟩ := bnd hm643
          refine ⟨_, _, rfl, rfl, hk678, (y_bits_here662 ++ r666), r679, rfl, (GS.cat gs665 gs673 hb677), hb680, fun F681 H682 g683 => ?_⟩
          have g685 := Gr.apart g674 g683
          have ow686 := ow675.apart g683
          have hB687 := hB672.apart g683
          refine p_name ?_
          refine p_nx ?_
          refine p_if ?_
          obtain ⟨r688, hb689, hm643⟩ := bnd hm643
          refine ⟨(V.ref p80), rfl, (V.int r679), rfl, (V.int r1), rfl, p80, ((sortT ((sortT r10) ++ ([r40] : List Str))).map V.str), y_some_here98, r679, r1, r688, rfl, ow686.sq, hl84, (RpA.up (hA100.up (Same.trans sm194 (Same.trans sm309 (Same.trans sm463 (Same.trans sm623 (Same.trans sm640 (Same.trans g651.ff g671.ff))))))) g685.fh), id, hb689, fun F690 H691 g692 => ?_⟩
          have g694 := Gr.apart g685 g692
          have ow695 := ow686.apart g692
          have hB696 := hB687.apart g692
          refine ⟨_, rfl, (iteB (fun hc => ?_) (fun hc => ?_))⟩
          · have hm643 := ifT hc hm643
            refine p_ret ?_
            obtain rfl := sjoin hm643
            have hm := bret hm
            obtain ⟨he697, rfl⟩ := pjoin hm
            exact absurd he697 (by decide)
          · have hm643 := ifF hc hm643
            refine p_next ?_
            exact ⟨F669, (some (V.int ((0 : Int) + ((i630 : Nat) : Int)))), (some (V.str y_bits_here662)), (some (V.int r679)), b667, rfl, g694, (Same.trans sm640 (Same.trans g651.ff g671.ff)), ow695, hB696, hm643⟩
        intro σ698 H699 hP
        obtain ⟨F700, o_y_k701, o_y_bits_here702, o_y_number703, b704, rfl, g705, sm706, owk0707, hB708, hm709⟩ := hP
        rw [drop_end (rangeL_len _ _).symm, m_law_l6.eq_1] at hm709
        obtain rfl := sjoin hm709
        have hm := bgo1 hm
        refine p_nx ?_
        refine p_ret ?_
        obtain ⟨he710, rfl⟩ := pjoin hm
        exact (retQ (e := true) he710 (hQ _ _ g705 hB708))
end K07
namespace K07
open PySem PySem.Spec PyProof.Rows L2 TL G
theorem skip0_le : ∀ (l : List Int) (k : Nat), skip0 l k ≤ k + l.length
  | [], k => Nat.le_refl _
  | x :: r, k => by
    rw [skip0]
    split
    · have := skip0_le r (k + 1)
      rw [List.length_cons]
      omega
    · omega
theorem draw_O {b : Bag} {n : Int} (hb : BOk b) (h0 : 0 < n) (h1 : n < 18446744073709551616) : O2 BOk (m_l_draw b n) (fun r => 0 ≤ r ∧ r < n) := by
  have hlog : n.natAbs.log2 < 9000 := by
    have hn : n.natAbs < 2 ^ 64 := by omega
    have hz : n.natAbs ≠ 0 := by omega
    have := (Nat.log2_lt hz).mpr hn
    omega
  have h63 := hb.len
  unfold m_l_draw
  rw [if_pos ⟨⟨h0, hlog⟩, hb.lo, hb.hi, by rw [sizeLine_eq]; omega⟩]
  cases e : b.cells[skip0 (b.cells.drop b.at_) b.at_]? with
  | some x => exact O2.ret ⟨hb.lo, hb.hi, by show (b.cells.set _ _).length ≤ 63; rw [List.length_set]; exact h63⟩ ⟨Int.emod_nonneg _ (by omega), Int.emod_lt_of_pos _ h0⟩
  | none =>
    have h2 : 0 ≤ stir b.seed (b.cnt + 1) := Int.emod_nonneg _ (by decide)
    have h3 : stir b.seed (b.cnt + 1) < 2147483647 := Int.emod_lt_of_pos _ (by decide)
    exact O2.ret ⟨h2, by show stir b.seed (b.cnt + 1) < 2147483648; omega, h63⟩ ⟨Int.emod_nonneg _ (by omega), Int.emod_lt_of_pos _ h0⟩
/-! ### what is drawn -/
theorem bits_c1 : ∀ (l : List Int) (b : Bag), BOk b → O2 BOk (m_l_bits_c1 l b) (fun ys => ys.length = l.length ∧ ∀ y ∈ ys, ∃ c, isB c = true ∧ tl y = [c])
  | [], b, hb => O2.ret hb ⟨rfl, fun _ h => nomatch h⟩
  | x :: l, b, hb => by
    unfold m_l_bits_c1
    refine O2.bind (draw_O hb (by decide) (by decide)) fun r b hb hr => ?_
    refine O2.bind1 (codeAt_O (P := fun c => isB c = true) hr.1 (by rw [tl01]; exact hr.2) fun _ h => Bits.mem01 h) fun c hc => ?_
    refine O2.bind (bits_c1 l b hb) fun ys b hb hy => ?_
    refine O2.ret hb ⟨congrArg Nat.succ hy.1, fun y h => ?_⟩
    rcases List.mem_cons.mp h with rfl | h
    · exact ⟨c, hc, rfl⟩
    · exact hy.2 y h
theorem flat_bits : ∀ ys : List Str, (∀ y ∈ ys, ∃ c, isB c = true ∧ tl y = [c]) → Bits (ys.map tl).flatten ∧ (ys.map tl).flatten.length = ys.length
  | [], _ => ⟨Bits.nil, rfl⟩
  | y :: ys, h => by
    obtain ⟨c, hc, e⟩ := h y (List.mem_cons_self ..)
    obtain ⟨h1, h2⟩ := flat_bits ys fun z hz => h z (List.mem_cons_of_mem _ hz)
    rw [List.map_cons, List.flatten_cons, e]
    exact ⟨(Bits.one hc).app h1, by rw [List.length_append, h2]; exact Nat.add_comm 1 _⟩
theorem bits_O {b : Bag} {n : Int} (hb : BOk b) (h0 : -1000 ≤ n) (h1 : n ≤ 1000) : O2 BOk (m_l_bits b n) (fun x => Bits (tl x) ∧ (tl x).length = n.toNat) := by
  unfold m_l_bits
  refine O2.bind (draw_O hb (by decide) (by decide)) fun r b hb hr => ?_
  refine O2.ite (fun _ => ?_) (fun _ => ?_)
  · refine O2.bind (draw_O hb (by decide) (by decide)) fun r b hb hr => ?_
    refine O2.bind1 (codeAt_O (P := fun c => isB c = true) hr.1 (by rw [tl01]; exact hr.2) fun _ h => Bits.mem01 h) fun c hc => ?_
    refine O2.bind (P := fun x => Bits (tl x) ∧ (tl x).length = n.toNat) ?_ fun x b hb hx => O2.ret hb hx
    refine O2.ite (fun hn => ?_) (fun hn => ?_)
    · have hn : 0 < n := of_decide_eq_true hn
      refine O2.bind1 (mulS_O (P := fun x => tl x = List.replicate n.toNat c) (by omega) (by omega) (by rw [tl_sgn]; show 1 * _ ≤ _; omega) (by rw [tl_mul, tl_sgn]; simp)) fun x hx => ?_
      refine O2.bind (draw_O hb (by decide) (by decide)) fun r b hb hr => ?_
      refine O2.bind1 (codeAt_O (P := fun c => isB c = true) hr.1 (by rw [tl01]; exact hr.2) fun _ h => Bits.mem01 h) fun d hd => ?_
      refine O2.bind1 (catS_O (P := fun y => tl y = List.replicate n.toNat c ++ [d]) (by rw [hx, tl_sgn, List.length_replicate]; show _ + 1 ≤ _; omega) (by rw [tl_append, hx, tl_sgn])) fun y hy => ?_
      refine O2.ret hb ?_
      have e1 : (1 : Int) = ((1 : Nat) : Int) := rfl
      have e2 : n + 1 = ((n.toNat + 1 : Nat) : Int) := by omega
      have hl : (List.replicate n.toNat c ++ [d]).length = n.toNat + 1 := by rw [List.length_append, List.length_replicate]; rfl
      rw [tl_cut, hy, e2, e1, HT.sIx_nat, HT.sIx_nat, hl]
      have hb2 : Bits (List.replicate n.toNat c ++ [d]) := Bits.app (fun z hz => by rw [(List.mem_replicate.mp hz).2]; exact hc) (Bits.one hd)
      refine ⟨(hb2.drop _).take _, ?_⟩
      rw [List.length_take, List.length_drop, hl]
      omega
    · have hn : ¬ 0 < n := of_decide_eq_false hn
      exact O2.ret hb ⟨by rw [tl_empty]; exact Bits.nil, by rw [tl_empty]; show 0 = _; omega⟩
  · refine O2.bind1 (rangeO1_O (P := fun l => l.length = n.toNat) (by omega) (by omega) rangeL_length) fun l hl => ?_
    refine O2.bind (bits_c1 l b hb) fun ys b hb hy => ?_
    obtain ⟨hf1, hf2⟩ := flat_bits ys hy.2
    have hsum : (ys.map fun y => (tl y).length).sum = ys.length := by rw [← hf2, List.length_flatten, List.map_map]; rfl
    refine O2.bind1 (joinS_O (P := fun x => Bits (tl x) ∧ (tl x).length = n.toNat) (by rw [hsum, tl_empty, hy.1, hl]; show _ + _ * 0 ≤ _; omega) ⟨by rw [tl_join0]; exact hf1, by rw [tl_join0, hf2, hy.1, hl]⟩) fun x hx => O2.ret hb hx
theorem size_O {b : Bag} (hb : BOk b) : O2 BOk (m_l_size b) (fun r => 1 ≤ r ∧ r ≤ 30) := by
  unfold m_l_size
  refine O2.bind (draw_O hb (by decide) (by decide)) fun r1 b hb h1 => ?_
  refine O2.bind (draw_O hb (by decide) (by decide)) fun r2 b hb h2 => ?_
  refine O2.bind (draw_O hb (by decide) (by decide)) fun r3 b hb h3 => ?_
  refine O2.bind (draw_O hb (by decide) (by decide)) fun r4 b hb h4 => ?_
  refine O2.bind1 (atI_O (P := fun r => 1 ≤ r ∧ r ≤ 30) h4.1 h4.2 fun x hx => ?_) fun x hx => O2.ret hb hx
  simp only [List.mem_cons, List.not_mem_nil, or_false] at hx
  omega
theorem turned_ok (x : Str) (h : Bits (tl x)) : ∃ bs, Bits bs ∧ bs.length ≤ 1 ∧ tl (dgetS [(("0" : Str), ("1" : Str)), (("1" : Str), ("0" : Str))] x ("" : Str)) = bs := by
  unfold dgetS
  by_cases h0 : ("0" : Str) = x
  · subst h0
    exact ⟨[49], Bits.one (by decide), Nat.le_refl _, by decide +kernel⟩
  · by_cases h1 : ("1" : Str) = x
    · subst h1
      exact ⟨[48], Bits.one (by decide), Nat.le_refl _, by decide +kernel⟩
    · refine ⟨[], Bits.nil, Nat.zero_le _, ?_⟩
      simp only [List.find?_cons, decide_eq_false h0, decide_eq_false h1, List.find?_nil]
      exact tl_empty
theorem one_O {b : Bag} {n : Int} {w : Nat} {some_ : List Str} (hb : BOk b) (hn : n = (w : Nat)) (hw : 1 ≤ w ∧ w ≤ 30) (hs : ∀ x ∈ some_, ∃ bs, Pat w bs x) (hl : some_.length ≤ 1000) : O2 BOk (m_l_one b n some_) (fun x => ∃ bs, Pat w bs x) := by
  subst hn
  unfold m_l_one
  refine O2.bind (draw_O hb (by omega) (by omega)) fun r1 b hb h1 => ?_
  refine O2.bind (bits_O hb (by omega) (by omega)) fun x b hb hx => ?_
  refine O2.bind (draw_O hb (by decide) (by decide)) fun r3 b hb h3 => ?_
  refine O2.bind (P := fun y => Bits (tl y) ∧ (tl y).length ≤ 60) ?_ fun y b hb hy => ?_
  · refine O2.ite (fun hc => ?_) (fun _ => O2.ret hb ⟨hx.1, by omega⟩)
    obtain ⟨hc1, hc2⟩ := Bool.and_eq_true_iff.mp hc
    have hne : some_ ≠ [] := fun e => by rw [e, eqD_refl] at hc1; exact absurd hc1 (by decide)
    have hpos : 0 < some_.length := List.length_pos_iff.mpr hne
    refine O2.bind (draw_O hb (by omega) (by omega)) fun r4 b hb h4 => ?_
    refine O2.bind1 (atI_O (P := fun x => ∃ bs, Pat w bs x) h4.1 h4.2 hs) fun z hz => ?_
    obtain ⟨bs, pz⟩ := hz
    refine O2.bind1 (O1.ret (P := fun u => tl u = bs) pz.strip) fun u hu => ?_
    have hul := pz.le
    refine O2.bind1 (O1.ret (P := fun t => Bits (tl t) ∧ (tl t).length ≤ 1) ?_) fun t ht => ?_
    · obtain ⟨cs, h5, h6, h7⟩ := turned_ok (cutS u (some (-(1 : Int))) none) (by rw [tl_cut, hu]; exact (pz.bits.drop _).take _)
      rw [h7]
      exact ⟨h5, h6⟩
    refine O2.bind (draw_O hb (by rw [len_tl]; omega) (by rw [len_tl, hu]; omega)) fun cut b hb hcut => ?_
    refine O2.bind (draw_O hb (by decide) (by decide)) fun r b hb hr => ?_
    refine O2.bind1 (codeAt_O (P := fun c => isB c = true) hr.1 (by rw [tl01]; exact hr.2) fun _ h => Bits.mem01 h) fun c hcb => ?_
    refine O2.bind1 (catS_O (P := fun y => tl y = bs ++ [c]) (by rw [hu, tl_sgn]; show _ + 1 ≤ _; omega) (by rw [tl_append, hu, tl_sgn])) fun y1 hy1 => ?_
    have hcl : (tl (cutS u none (some (-(1 : Int))))).length ≤ 30 := by rw [tl_cut, List.length_take, List.length_drop, hu]; omega
    refine O2.bind1 (catS_O (P := fun y => Bits (tl y) ∧ (tl y).length ≤ 31) (by omega) ?_) fun y2 hy2 => ?_
    · rw [tl_append, List.length_append]
      exact ⟨Bits.app (by rw [tl_cut, hu]; exact (pz.bits.drop _).take _) ht.1, by omega⟩
    refine O2.bind1 (atI_O (P := fun y => Bits (tl y) ∧ (tl y).length ≤ 60) h3.1 (of_decide_eq_true hc2) fun y hy => ?_) fun y hy => O2.ret hb hy
    simp only [List.mem_cons, List.not_mem_nil, or_false] at hy
    rcases hy with rfl | rfl | rfl
    · rw [tl_cut, hu, List.length_take, List.length_drop]
      exact ⟨(pz.bits.drop _).take _, by omega⟩
    · rw [hy1, List.length_append]
      exact ⟨pz.bits.app (Bits.one hcb), by show _ + 1 ≤ _; omega⟩
    · exact ⟨hy2.1, by omega⟩
  refine O2.bind (P := fun y => Bits (tl y) ∧ (tl y).length ≤ 200) ?_ fun z b hb hz => ?_
  · refine O2.ite (fun _ => ?_) (fun _ => O2.ret hb ⟨hy.1, by omega⟩)
    refine O2.bind (bits_O hb (by rw [len_tl]; omega) (by rw [len_tl]; omega)) fun u b hb hu => ?_
    refine O2.bind1 (catS_O (P := fun v => Bits (tl v) ∧ (tl v).length ≤ 200) (by omega) ?_) fun v hv => O2.ret hb hv
    rw [tl_append, List.length_append]
    exact ⟨hy.1.app hu.1, by rw [hu.2]; omega⟩
  refine O2.bind1 (O1.ret (P := fun u => Bits (tl u) ∧ (tl u).length ≤ w) ?_) fun u hu => ?_
  · rw [tl_cut, HT.sIx_nat, sIx_n, List.length_take]
    exact ⟨(hz.1.drop _).take _, by omega⟩
  refine O2.bind1 (mulS_O (P := fun v => tl v = if (tl u).length < w then [42] else []) (by unfold toI; split <;> omega) (by unfold toI; split <;> omega) (by rw [tlStar]; unfold toI; split <;> decide) ?_) fun v hv => ?_
  · rw [tl_mul, tlStar, len_tl]
    by_cases h : (tl u).length < w
    · rw [if_pos h, decide_eq_true (by omega)]; rfl
    · rw [if_neg h, decide_eq_false (by omega)]; rfl
  refine O2.bind1 (catS_O (P := fun y => ∃ bs, Pat w bs y) ?_ ⟨tl u, hu.1, hu.2, ?_⟩) fun y hy => O2.ret hb hy
  · rw [hv]
    split
    · show _ + 1 ≤ _; omega
    · show _ + 0 ≤ _; omega
  · rw [tl_append, hv]
    rfl
end K07
namespace K07
open PySem PySem.Spec PyProof.Rows L2 TL G
/-! ### spans -/
theorem span_l1 : ∀ (cs : List Nat) (n : Nat), m_span_of_l1 cs (n : Int) = some ((n * 2 ^ cs.length + wr cs : Nat) : Int)
  | [], n => by unfold m_span_of_l1; simp [wr]
  | c :: cs, n => by
    unfold m_span_of_l1
    rw [toI_sgn1, Option.bind_some]
    have e : (2 : Int) * (n : Int) + ((if c = 49 then 1 else 0 : Nat) : Int) = ((2 * n + (if c = 49 then 1 else 0) : Nat) : Int) := by omega
    rw [e, span_l1 cs, wr_cons, List.length_cons, Nat.pow_succ]
    generalize (if c = 49 then 1 else 0) = d
    generalize 2 ^ cs.length = p
    congr 2
    rw [Nat.add_mul, Nat.mul_comm 2 n, Nat.mul_assoc, Nat.mul_comm 2 p, Nat.add_assoc]
theorem span_spec {w : Nat} {bs : List Nat} {x : Str} (p : Pat w bs x) (hw : w ≤ 60) : m_span_of x (w : Nat) = some (((spanL w bs).1 : Int), ((spanL w bs).2 : Int)) := by
  unfold m_span_of m_bits_of
  rw [Option.bind_some]
  have e1 : ((partS x ("*" : Str)).a).cps.toList = bs := p.part
  have e2 : (((partS x ("*" : Str)).a).length : Int) = (bs.length : Nat) := by rw [len_tl, p.part]
  have hle := p.le
  rw [e1, e2, show (0 : Int) = ((0 : Nat) : Int) from rfl, span_l1, Option.bind_some, Nat.zero_mul, Nat.zero_add]
  have e3 : (w : Int) - (bs.length : Nat) = ((w - bs.length : Nat) : Int) := by omega
  have h1 := wr_lt bs
  have h2 : 2 ^ bs.length < 2 ^ 62 := Nat.pow_lt_pow_right (by decide) (by omega)
  have h3 : 2 ^ (w - bs.length) < 2 ^ 64 := pow_lt64 (by omega)
  rw [e3, shlI_one (by omega), Option.bind_some, mulI_nat (by omega) h3, Option.bind_some]
  have e4 : ((wr bs : Nat) : Int) + 1 = ((wr bs + 1 : Nat) : Int) := rfl
  rw [e4, mulI_nat (by omega) h3, Option.bind_some]
  rfl
theorem worth_l1 : ∀ (cs : List Nat) (n : Nat), m_l_worth_l1 cs (n : Int) = some ((n * 2 ^ cs.length + wr cs : Nat) : Int)
  | [], n => by unfold m_l_worth_l1; simp [wr]
  | c :: cs, n => by
    unfold m_l_worth_l1
    rw [toI_sgn1, Option.bind_some]
    have e : (n : Int) * 2 + ((if c = 49 then 1 else 0 : Nat) : Int) = ((2 * n + (if c = 49 then 1 else 0) : Nat) : Int) := by omega
    rw [e, worth_l1 cs, wr_cons, List.length_cons, Nat.pow_succ]
    generalize (if c = 49 then 1 else 0) = d
    generalize 2 ^ cs.length = p
    congr 2
    rw [Nat.add_mul, Nat.mul_comm 2 n, Nat.mul_assoc, Nat.mul_comm 2 p, Nat.add_assoc]
theorem worth_spec (x : Str) : m_l_worth x = some ((wr (tl x) : Nat) : Int) := by
  unfold m_l_worth
  rw [show x.cps.toList = tl x from rfl, show (0 : Int) = ((0 : Nat) : Int) from rfl, worth_l1, Nat.zero_mul, Nat.zero_add]
  rfl
theorem spanI {w : Nat} {x : Str} (p : IsPat w x) (hw : w ≤ 60) : m_span_of x (w : Nat) = some (spI w x) := by
  obtain ⟨bs, p⟩ := p
  rw [span_spec p hw]
  unfold spI
  rw [bsOf_pat p]
/-! ### the patterns drawn -/
theorem some_l1 {w : Nat} (hw : 1 ≤ w ∧ w ≤ 30) : ∀ (l : List Int) (s : List Str) (b : Bag), BOk b → (∀ x ∈ s, IsPat w x) → s.length + l.length ≤ 900 → O2 BOk (m_l_some_l1 (w : Nat) l s b) (fun r => (∀ x ∈ r, IsPat w x) ∧ r.length = s.length + l.length)
  | [], s, b, hb, hs, _ => O2.ret hb ⟨hs, rfl⟩
  | k :: l, s, b, hb, hs, hl => by
    rw [List.length_cons] at hl
    unfold m_l_some_l1
    refine O2.bind (one_O hb rfl hw hs (by omega)) fun x b hb hx => ?_
    have ea : appL s x = some (s ++ [x]) := by unfold appL; rw [if_pos (by rw [sizeLine_eq]; omega)]
    rw [ea, Option.bind_some]
    have := some_l1 hw l (s ++ [x]) b hb (fun y hy => (List.mem_append.mp hy).elim (hs y) fun h => by rw [List.mem_singleton.mp h]; exact hx) (by rw [List.length_append]; show s.length + 1 + _ ≤ _; omega)
    exact this.imp fun r h => ⟨h.1, by rw [h.2, List.length_append, List.length_cons, List.length_cons, List.length_nil]; omega⟩
theorem some_O {b : Bag} {w : Nat} {m : Int} (hb : BOk b) (hw : 1 ≤ w ∧ w ≤ 30) (hm : 0 ≤ m ∧ m ≤ 100) : O2 BOk (m_l_some b (w : Nat) m) (fun r => (∀ x ∈ r, IsPat w x) ∧ r.length ≤ 100) := by
  unfold m_l_some
  refine O2.bind (draw_O hb (by decide) (by decide)) fun r8 b hb h8 => ?_
  refine O2.bind (draw_O hb (by omega) (by omega)) fun r18 b hb h18 => ?_
  refine O2.bind (draw_O hb (by decide) (by decide)) fun r37 b hb h37 => ?_
  refine O2.bind1 (P := fun k => 0 ≤ k ∧ k ≤ 100) (atI_O h37.1 h37.2 fun x hx => ?_) fun k hk => ?_
  · rcases List.mem_cons.mp hx with rfl | hx
    · omega
    · rw [List.mem_singleton.mp hx]; omega
  refine O2.bind1 (rangeO1_O (P := fun l => l.length ≤ 100) (by omega) (by omega) (by rw [rangeL_length]; omega)) fun l hl => ?_
  refine O2.bind (some_l1 hw l [] b hb (fun _ h => nomatch h) (by show 0 + _ ≤ _; omega)) fun r b hb h => ?_
  exact O2.ret hb ⟨h.1, by rw [h.2]; show 0 + _ ≤ _; omega⟩
theorem isp_c1 (cs : List Nat) : m_is_pattern_c1 cs = (cs.filter fun c => !isB c).map sgn := by
  induction cs with
  | nil => rfl
  | cons c cs ih =>
    have e : (decide (c ∈ (("01" : Str)).cps.toList)) = isB c := by
      have h : (("01" : Str)).cps.toList = [48, 49] := tl01
      rw [h]
      rfl
    unfold m_is_pattern_c1
    rw [e, ih, List.filter_cons]
    cases isB c <;> rfl
theorem pat_spec (x : Str) (w : Int) : m_is_pattern x w = some (patB (tl x) w) := by
  unfold m_is_pattern patB
  have e1 : eqS (cutS x (some (-(1 : Int))) none) ("*" : Str) = decide ((tl x).drop ((tl x).length - 1) = [42]) := by
    rw [eqS_tl, tl_cut, tlStar]
    rw [show (-(1 : Int)) = -1 from rfl, sIx_neg1, sIx_n, List.take_of_length_le (by rw [List.length_drop]; omega)]
  rw [e1]
  generalize ho : decide ((tl x).drop ((tl x).length - 1) = [42]) = o
  rw [Option.bind_some, Option.bind_some]
  have e3 : tl (cutS x none (some (((x.length : Nat) : Int) - (toI o)))) = (tl x).take ((tl x).length - (if o then 1 else 0)) := by
    rw [tl_cut, len_tl]
    show List.take (HT.sIx _ _ _ - 0) (List.drop 0 (tl x)) = _
    rw [List.drop_zero, Nat.sub_zero]
    have hlen : o = true → 1 ≤ (tl x).length := fun h => by
      rw [h] at ho
      have := congrArg List.length (of_decide_eq_true ho)
      rw [List.length_drop] at this
      have e : (tl x).length - ((tl x).length - 1) = 1 := this
      omega
    congr 1
    cases o with
    | true =>
      have := hlen rfl
      have e : ((tl x).length : Int) - toI true = (((tl x).length - 1 : Nat) : Int) := by
        show ((tl x).length : Int) - 1 = _
        omega
      rw [e, HT.sIx_nat]
      simp only [if_true]
      omega
    | false =>
      have e : ((tl x).length : Int) - toI false = (((tl x).length : Nat) : Int) := by
        show ((tl x).length : Int) - 0 = _
        omega
      rw [e, HT.sIx_nat]
      simp
  generalize cutS x none (some (((x.length : Nat) : Int) - (toI o))) = z at e3
  show (if (!eqD (m_is_pattern_c1 (tl z)) ([] : List Str)) = true then some false else some (if o = true then decide (((z.length : Nat) : Int) < w) else eqI ((z.length : Nat) : Int) w)) = _
  rw [isp_c1, eqD_dec, len_tl, eqI_iff]
  show _ = some (if (List.take ((tl x).length - if o = true then 1 else 0) (tl x)).all isB = true then (if o = true then decide (((List.take ((tl x).length - if o = true then 1 else 0) (tl x)).length : Int) < w) else decide (((List.take ((tl x).length - if o = true then 1 else 0) (tl x)).length : Int) = w)) else false)
  rw [← e3]
  generalize tl z = bs
  have e4 : (decide ((bs.filter fun c => !isB c).map sgn = [])) = bs.all isB := by
    rw [Bool.eq_iff_iff, decide_eq_true_iff, List.map_eq_nil_iff, List.filter_eq_nil_iff, List.all_eq_true]
    simp
  rw [e4]
  cases bs.all isB <;> cases o <;> rfl
theorem isp_true {w : Nat} {x : Str} (p : IsPat w x) : m_is_pattern x (w : Int) = some true := by
  obtain ⟨u, p⟩ := p
  rw [pat_spec, p.eq, patB_pat p.bits p.le]
end K07
namespace K07
open PySem PySem.Spec PyProof.Rows L2 TL G
theorem hasI {w : Nat} {x : Str} {n : Int} (p : IsPat w x) (hw : w ≤ 60) : m_has x n (w : Int) = some ((decide ((spI w x).1 ≤ n)) && (decide (n < (spI w x).2))) := by
  unfold m_has
  rw [spanI p hw, Option.bind_some]
theorem spI_any {w : Nat} {x y : Str} (p : IsPat w x) (q : IsPat w y) : ((spI w x).1 ≤ (spI w y).1 ∧ (spI w y).2 ≤ (spI w x).2) ∨ ((spI w y).1 ≤ (spI w x).1 ∧ (spI w x).2 ≤ (spI w y).2) ∨ (spI w x).2 ≤ (spI w y).1 ∨ (spI w y).2 ≤ (spI w x).1 := by
  obtain ⟨u, p⟩ := p
  obtain ⟨v, q⟩ := q
  rw [spI_spB p, spI_spB q]
  exact any_span ⟨p.bits, p.le⟩ ⟨q.bits, q.le⟩
theorem and_b (a b : Prop) [Decidable a] [Decidable b] : ((decide a) && (decide b)) = decide (a ∧ b) := by
  rw [Bool.eq_iff_iff, Bool.and_eq_true, decide_eq_true_iff, decide_eq_true_iff, decide_eq_true_iff]
theorem or_b (a b : Prop) [Decidable a] [Decidable b] : ((decide a) || (decide b)) = decide (a ∨ b) := by
  rw [Bool.eq_iff_iff, Bool.or_eq_true, decide_eq_true_iff, decide_eq_true_iff, decide_eq_true_iff]
theorem nested_spec {w : Nat} {x y : Str} (hw : w ≤ 60) (p : IsPat w x) (q : IsPat w y) : m_l_nested x y (w : Int) = some true := by
  have h := spI_any p q
  have hx := spI_ok p
  have hy := spI_ok q
  unfold m_l_nested
  rw [spanI p hw, Option.bind_some, spanI q hw, Option.bind_some, hasI p hw, hasI q hw, hasI p hw, hasI q hw]
  generalize spI w x = s at *
  generalize spI w y = t at *
  simp only [Option.bind_some, and_b, or_b]
  by_cases c1 : s.1 ≤ t.1 ∧ t.2 ≤ s.2
  · rw [if_pos (decide_eq_true c1), if_pos (decide_eq_true (by omega)), Option.bind_some, decide_eq_true (by omega)]
  · rw [if_neg (by rw [decide_eq_true_iff]; exact c1)]
    by_cases c2 : t.1 ≤ s.1 ∧ s.2 ≤ t.2
    · rw [if_pos (decide_eq_true c2), if_pos (decide_eq_true (by omega)), Option.bind_some, decide_eq_true (by omega)]
    · rw [if_neg (by rw [decide_eq_true_iff]; exact c2), if_neg (by rw [decide_eq_true_iff]; omega), Option.bind_some, if_neg (by rw [decide_eq_true_iff]; omega), decide_eq_true (by omega)]
/-! ### chains -/
def OrdS (x y : Str) : Prop := Ord (bsOf x) (bsOf y)
theorem sorted_ord {w : Nat} {T : List Str} (hT : ∀ x ∈ T, IsPat w x) : (sortT T).Pairwise OrdS :=
  (sortT_sorted T).imp_of_mem fun {x y} hx hy h => by
    obtain ⟨u, p⟩ := hT x ((sortT_perm T).mem_iff.mp hx)
    obtain ⟨v, q⟩ := hT y ((sortT_perm T).mem_iff.mp hy)
    unfold OrdS
    rw [bsOf_pat p, bsOf_pat q]
    refine ord_of_le ⟨p.bits, p.le⟩ ⟨q.bits, q.le⟩ ?_
    rw [← p.eq, ← q.eq]
    exact of_decide_eq_true h
theorem ch_c1 {w : Nat} (hw : w ≤ 60) (n : Int) : ∀ l : List Str, (∀ y ∈ l, IsPat w y) → m_l_chain_right_c1 n (w : Int) l = some (l.filter fun y => (decide ((spI w y).1 ≤ n)) && (decide (n < (spI w y).2)))
  | [], _ => rfl
  | y :: l, h => by
    unfold m_l_chain_right_c1
    rw [hasI (h y (List.mem_cons_self ..)) hw, Option.bind_some, ch_c1 hw n l fun z hz => h z (List.mem_cons_of_mem _ hz), List.filter_cons]
    split <;> rfl
/-- the second goes on from the first -/
def Goes (w : Nat) (x y : Str) : Prop := ∃ u r, Pat w u x ∧ Pat w (u ++ r) y
theorem ch_l2 {w : Nat} (hw : 1 ≤ w ∧ w ≤ 60) : ∀ l : List (Str × Str), (∀ p ∈ l, Goes w p.1 p.2) → m_l_chain_right_l2 (w : Int) l = some (.go ())
  | [], _ => rfl
  | p :: l, h => by
    obtain ⟨u, r, hx, hy⟩ := h p (List.mem_cons_self ..)
    have hxl := hx.le
    have hyl := hy.le
    rw [List.length_append] at hyl
    have lx : (tl p.1).length = if u.length < w then u.length + 1 else u.length := by
      rw [hx.eq, patL, List.length_append]
      by_cases e : u.length < w
      · rw [if_pos e, if_pos e]; rfl
      · rw [if_neg e, if_neg e]; rfl
    have e0 : (((tl p.1).length : Nat) : Int) - (1 : Int) = (((tl p.1).length - 1 : Nat) : Int) := by rw [lx]; split <;> omega
    have e1 : neS (cutS p.2 none (some (((p.1.length : Nat) : Int) - (1 : Int)))) (cutS p.1 none (some (-(1 : Int)))) = false := by
      have : eqS (cutS p.2 none (some (((p.1.length : Nat) : Int) - (1 : Int)))) (cutS p.1 none (some (-(1 : Int)))) = true := by
        rw [eqS_tl, len_tl, e0]
        refine decide_eq_true ?_
        rw [tl_cut, tl_cut, HT.sIx_nat, sIx_neg1, sIx_n, List.drop_zero, Nat.sub_zero, sIx_n, List.drop_zero, Nat.sub_zero]
        rw [hx.eq, hy.eq] at *
        unfold patL at *
        by_cases e : u.length < w
        · rw [if_pos e] at *
          have k1 : (u ++ [42]).length - 1 = u.length := by rw [List.length_append]; rfl
          rw [k1, List.take_left, Nat.min_eq_left (by rw [List.length_append, List.length_append]; omega), List.append_assoc, List.take_left]
        · have hr : r = [] := List.eq_nil_of_length_eq_zero (by omega)
          subst hr
          rw [if_neg e, List.append_nil, Nat.min_eq_left (by rw [if_neg e, List.append_nil]; omega), if_neg e, List.append_nil]
      unfold neS
      unfold eqS at this
      rw [this]
      rfl
    have e2 : ((neS p.1 p.2) && (decide ((((Txt.stripChars p.2 ("*" : Str)).length : Nat) : Int) < ((p.1.length : Nat) : Int)))) = false := by
      by_cases hr : r = []
      · subst hr
        have : p.1 = p.2 := tl_inj (by rw [hx.eq, hy.eq, List.append_nil])
        rw [this]
        unfold neS
        rw [decide_eq_true rfl]
        rfl
      · have hrl : 0 < r.length := List.length_pos_iff.mpr hr
        rw [len_tl, len_tl, hy.strip, lx, if_pos (by omega), List.length_append, decide_eq_false (by omega), Bool.and_false]
    unfold m_l_chain_right_l2
    have hs := spB_nest (w := w) (u := u) (r := r) hy.le
    rw [e1, if_neg (by decide), e2, if_neg (by decide), spanI ⟨u, hx⟩ hw.2, Option.bind_some, spanI ⟨_, hy⟩ hw.2, Option.bind_some, spI_spB hx, spI_spB hy, if_neg (by rw [decide_eq_true_iff]; omega)]
    exact ch_l2 hw l fun q hq => h q (List.mem_cons_of_mem _ hq)
theorem zip_pairs {α : Type} {R : α → α → Prop} : ∀ {l : List α}, l.Pairwise R → ∀ p ∈ List.zip l (l.drop 1), R p.1 p.2 ∧ p.1 ∈ l ∧ p.2 ∈ l
  | [], _, p, hp => nomatch hp
  | [x], _, p, hp => nomatch hp
  | x :: y :: l, h, p, hp => by
    have hp' : p ∈ (x, y) :: List.zip (y :: l) ((y :: l).drop 1) := hp
    rcases List.mem_cons.mp hp' with rfl | hp
    · exact ⟨(List.pairwise_cons.mp h).1 y (List.mem_cons_self ..), List.mem_cons_self .., List.mem_cons_of_mem _ (List.mem_cons_self ..)⟩
    · obtain ⟨k1, k2, k3⟩ := zip_pairs (List.pairwise_cons.mp h).2 p hp
      exact ⟨k1, List.mem_cons_of_mem _ k2, List.mem_cons_of_mem _ k3⟩
theorem cutL_1 {α : Type} (l : List α) : cutL l (some (1 : Int)) none = l.drop 1 := by
  unfold cutL
  have e3 : HT.sIx l.length 0 (some 1) = min 1 l.length := HT.sIx_nat l.length 0 1
  rw [e3, sIx_n]
  cases l with
  | nil => rfl
  | cons x r =>
    rw [show min 1 (x :: r).length = 1 by rw [List.length_cons]; omega]
    exact List.take_of_length_le (by rw [List.length_drop]; exact Nat.le_refl _)
theorem chain_spec {w : Nat} (hw : 1 ≤ w ∧ w ≤ 60) {T : List Str} (hT : ∀ x ∈ T, IsPat w x) (hs : T.Pairwise OrdS) (n : Int) : m_l_chain_right T n (w : Int) = some true := by
  unfold m_l_chain_right
  rw [ch_c1 hw.2 n T hT, Option.bind_some, cutL_1, ch_l2 hw _ fun p hp => ?_]
  · rfl
  · obtain ⟨k1, k2, k3⟩ := zip_pairs (hs.filter _) p hp
    obtain ⟨m1, h1⟩ := List.mem_filter.mp k2
    obtain ⟨m2, h2⟩ := List.mem_filter.mp k3
    obtain ⟨u, pu⟩ := hT _ m1
    obtain ⟨v, pv⟩ := hT _ m2
    unfold OrdS at k1
    rw [bsOf_pat pu, bsOf_pat pv] at k1
    rw [and_b, decide_eq_true_iff, spI_spB pu] at h1
    rw [and_b, decide_eq_true_iff, spI_spB pv] at h2
    rcases k1 with ⟨r, rfl⟩ | ha
    · exact ⟨u, r, pu, pv⟩
    · have := spB_apart ha pu.le pv.le
      omega
/-! ### the law -/
theorem lw_c1 {w : Nat} (hw : w ≤ 60) : ∀ l : List Str, (∀ y ∈ l, IsPat w y) → m_law_c1 (w : Int) l = some (l.map (spI w))
  | [], _ => rfl
  | y :: l, h => by
    unfold m_law_c1
    rw [spanI (h y (List.mem_cons_self ..)) hw, Option.bind_some, lw_c1 hw l fun z hz => h z (List.mem_cons_of_mem _ hz)]
    rfl
theorem lw_c2 : ∀ l : List (Int × Int), m_law_c2 l = l.map fun s => (s.1, (0 : Int) - s.2)
  | [] => rfl
  | s :: l => by unfold m_law_c2; rw [lw_c2 l]; rfl
theorem lw_c3 {w : Nat} : ∀ l : List Str, (∀ y ∈ l, IsPat w y) → m_law_c3 (w : Int) l = some []
  | [], _ => rfl
  | y :: l, h => by
    unfold m_law_c3
    rw [isp_true (h y (List.mem_cons_self ..)), Option.bind_some, notT]
    exact lw_c3 l fun z hz => h z (List.mem_cons_of_mem _ hz)
theorem lw_c5 {w : Nat} (hw : w ≤ 60) {x : Str} (p : IsPat w x) : ∀ l : List Str, (∀ y ∈ l, IsPat w y) → m_law_c5 (w : Int) x l = some []
  | [], _ => rfl
  | y :: l, h => by
    unfold m_law_c5
    rw [nested_spec hw p (h y (List.mem_cons_self ..)), Option.bind_some, notT]
    exact lw_c5 hw p l fun z hz => h z (List.mem_cons_of_mem _ hz)
theorem lw_l4 {w : Nat} (hw : w ≤ 60) {T : List Str} (hT : ∀ x ∈ T, IsPat w x) (b : Bag) : ∀ l : List Str, (∀ y ∈ l, IsPat w y) → m_law_l4 (w : Int) T l b = some (.go b)
  | [], _ => rfl
  | y :: l, h => by
    unfold m_law_l4
    rw [lw_c5 hw (h y (List.mem_cons_self ..)) T hT, Option.bind_some, eqD_refl, notT]
    exact lw_l4 hw hT b l fun z hz => h z (List.mem_cons_of_mem _ hz)
theorem lw_l6 {w : Nat} (hw : 1 ≤ w ∧ w ≤ 30) {T : List Str} (hT : ∀ x ∈ T, IsPat w x) (hs : T.Pairwise OrdS) (h0 : 0 < T.length) (h1 : T.length ≤ 1000) : ∀ (l : List Int) (b : Bag), BOk b → ∃ b', m_law_l6 (w : Int) T l b = some (.go b') ∧ BOk b'
  | [], b, hb => ⟨b, rfl, hb⟩
  | k :: l, b, hb => by
    obtain ⟨r, b2, e2, hb2, hr⟩ := draw_O (n := ((T.length : Nat) : Int)) hb (by omega) (by omega)
    obtain ⟨x, e3, p⟩ := atI_O (P := IsPat w) hr.1 hr.2 hT
    obtain ⟨u, pu⟩ := p
    have hul := pu.le
    have hst := pu.strip
    obtain ⟨z, b3, e4, hb3, hz⟩ := bits_O (n := (w : Int) - (((Txt.stripChars x ("*" : Str)).length : Nat) : Int)) hb2 (by rw [len_tl, hst]; omega) (by omega)
    obtain ⟨y, e5, hy⟩ := catS_O (a := Txt.stripChars x ("*" : Str)) (b := z) (P := fun _ => True) (by rw [hst, hz.2, len_tl, hst]; omega) trivial
    obtain ⟨b', e6, hb'⟩ := lw_l6 hw hT hs h0 h1 l b3 hb3
    refine ⟨b', ?_, hb'⟩
    unfold m_law_l6
    rw [e2, bind2_some, e3, Option.bind_some, Option.bind_some, e4, bind2_some, e5, Option.bind_some, worth_spec, Option.bind_some, chain_spec ⟨hw.1, by omega⟩ hT hs, Option.bind_some, notT]
    exact e6
theorem law_true (b : Bag) (hb : BOk b) : ∃ b', m_law b = some (true, b') := by
  obtain ⟨n, b1, e1, hb1, hn⟩ := size_O hb
  obtain ⟨w, rfl⟩ := Int.eq_ofNat_of_zero_le (show 0 ≤ n by omega)
  obtain ⟨ps, b2, e2, hb2, hp, hl⟩ := some_O (w := w) hb1 (by omega) (m := 16) (by omega)
  obtain ⟨x, b3, e3, hb3, hx⟩ := one_O (w := w) (some_ := sortT ps) hb2 rfl (by omega) (fun y hy => hp y ((sortT_perm ps).mem_iff.mp hy)) (by rw [sortT_len]; omega)
  have hT : ∀ y ∈ sortT (sortT ps ++ [x]), IsPat w y := fun y hy => by
    rcases List.mem_append.mp ((sortT_perm _).mem_iff.mp hy) with h | h
    · exact hp y ((sortT_perm ps).mem_iff.mp h)
    · rw [List.mem_singleton.mp h]; exact hx
  have hs : (sortT (sortT ps ++ [x])).Pairwise OrdS := sorted_ord fun y hy => by
    rcases List.mem_append.mp hy with h | h
    · exact hp y ((sortT_perm ps).mem_iff.mp h)
    · rw [List.mem_singleton.mp h]; exact hx
  have hlen : (sortT (sortT ps ++ [x])).length = ps.length + 1 := by rw [sortT_len, List.length_append, sortT_len]; rfl
  have e4 : conL (sortT ps) ([x] : List Str) = some (sortT ps ++ [x]) := conL_some (by rw [sortT_len]; show _ + 1 ≤ _; omega)
  generalize hTd : sortT (sortT ps ++ [x]) = T at hT hs hlen
  obtain ⟨b4, e5, hb4⟩ := lw_l6 (w := w) (by omega) hT hs (by omega) (by omega) (rangeL (0 : Int) 8) b3 hb3
  have e6 : sortP ((T.map (spI w)).map fun s => (s.1, (0 : Int) - s.2)) = (T.map (spI w)).map fun s => (s.1, (0 : Int) - s.2) := by
    refine sortP_uniq (List.Perm.refl _) ?_
    rw [List.pairwise_map, List.pairwise_map]
    refine hs.imp_of_mem fun {y z} hy hz h => ?_
    obtain ⟨u, pu⟩ := hT y hy
    obtain ⟨v, pv⟩ := hT z hz
    unfold OrdS at h
    rw [bsOf_pat pu, bsOf_pat pv] at h
    rw [spI_spB pu, spI_spB pv]
    have k := h.span pu.le pv.le
    have k1 := spB_lt w u
    have k2 := spB_lt w v
    exact decide_eq_true (by show _ < _ ∨ (_ = _ ∧ (0 : Int) - _ ≤ (0 : Int) - _); omega)
  refine ⟨b4, ?_⟩
  unfold m_law
  rw [e1, bind2_some, e2, bind2_some, e3, bind2_some, e4, Option.bind_some, hTd, lw_c1 (by omega) T hT, Option.bind_some, lw_c2, e6, eqD_refl, notT, lw_c3 T hT, Option.bind_some, eqD_refl, notT, lw_l4 (by omega) hT b3 T hT, bL1_go, e5, bL1_go]
end K07
namespace K07
open PySem PySem.Spec PyProof.Rows L2 TL G
def dd_bits_of : He.DefD := ⟨("bits_of", none), "bits_of", "bits_of", defArgs s_bits_of, defBody s_bits_of, defScope s_bits_of, [], []⟩
def dd_is_pattern : He.DefD := ⟨("is_pattern", none), "is_pattern", "is_pattern", defArgs s_is_pattern, defBody s_is_pattern, defScope s_is_pattern, [], []⟩
def dd_span_of : He.DefD := ⟨("span_of", none), "span_of", "span_of", defArgs s_span_of, defBody s_span_of, defScope s_span_of, [], []⟩
def dd_has : He.DefD := ⟨("has", none), "has", "has", defArgs s_has, defBody s_has, defScope s_has, [], []⟩
def dd_l_bag : He.DefD := ⟨("_law_bag", none), "_law_bag", "_law_bag", defArgs s_l_bag, defBody s_l_bag, defScope s_l_bag, [], []⟩
def dd_l_draw : He.DefD := ⟨("_law_draw", none), "_law_draw", "_law_draw", defArgs s_l_draw, defBody s_l_draw, defScope s_l_draw, [], []⟩
def dd_l_bits : He.DefD := ⟨("_law_bits", none), "_law_bits", "_law_bits", defArgs s_l_bits, defBody s_l_bits, defScope s_l_bits, [], []⟩
def dd_l_worth : He.DefD := ⟨("_law_worth", none), "_law_worth", "_law_worth", defArgs s_l_worth, defBody s_l_worth, defScope s_l_worth, [], []⟩
def dd_l_size : He.DefD := ⟨("_law_size", none), "_law_size", "_law_size", defArgs s_l_size, defBody s_l_size, defScope s_l_size, [], []⟩
def dd_l_one : He.DefD := ⟨("_law_one", none), "_law_one", "_law_one", defArgs s_l_one, defBody s_l_one, defScope s_l_one, [], []⟩
def dd_l_some : He.DefD := ⟨("_law_some", none), "_law_some", "_law_some", defArgs s_l_some, defBody s_l_some, defScope s_l_some, [], []⟩
def dd_l_nested : He.DefD := ⟨("_law_nested", none), "_law_nested", "_law_nested", defArgs s_l_nested, defBody s_l_nested, defScope s_l_nested, [], []⟩
def dd_l_chain_right : He.DefD := ⟨("_law_chain_right", none), "_law_chain_right", "_law_chain_right", defArgs s_l_chain_right, defBody s_l_chain_right, defScope s_l_chain_right, [], []⟩
def dd_law : He.DefD := ⟨("law", none), "law", "law", defArgs s_law, defBody s_law, defScope s_law, [], []⟩
def fnL : List He.DefD := [dd_bits_of, dd_is_pattern, dd_span_of, dd_has, dd_l_bag, dd_l_draw, dd_l_bits, dd_l_worth, dd_l_size, dd_l_one, dd_l_some, dd_l_nested, dd_l_chain_right, dd_law]
def faL : List He.Fa := [.glo "bits_of", .glo "is_pattern", .glo "span_of", .glo "has", .glo "_law_bag", .glo "_law_draw", .glo "_law_bits", .glo "_law_worth", .glo "_law_size", .glo "_law_one", .glo "_law_some", .glo "_law_nested", .glo "_law_chain_right", .glo "law", .free "abs", .free "all", .free "bool", .free "int", .free "isinstance", .free "len", .free "list", .free "range", .free "sorted", .free "str", .free "tuple", .free "zip", .str "BITS" "01", .str "STAR" "*"]
abbrev RR : PySem.W.OpenRow := PySem.W.OpenLaw.row PySem.Challenge.rw_wishnet_k07_whole_order_of_patterns
abbrev hk : PySem.W.Hook := He.hookD 4 faL fnL
def ob (s : PySem.W.SharedT) : He.AlD := He.obsDG 4 faL fnL (HandSHeadRun.getT s)
theorem ob_eq (s : PySem.W.SharedT) : ob s = hk.obs s.abs := He.obsDG_eq (HandSHeadRun.getT_eq s)
def looseL : List Str := ["STAR", "BITS", "bits_of", "is_pattern", "span_of", "has", "_law_bag", "_law_draw", "_law_bits", "_law_worth", "_law_size", "_law_one", "_law_some", "_law_nested", "_law_chain_right"]
theorem run_top (w : World) : HandSHeadRun.RunEq RR (PySem.W.view RR.prog [17]) hk ob 4000 looseL w := by
  intro os
  kernel_rfl
theorem facts {P : Program} {w : World} {K : PySem.W.Frag} {h : Heap} {mg : Str → Option Value} {f : Addr} (X : K.In h) (Gh : h.Ns mainGlobals mg) (hfa : mg ("law" : Str) = some (.ref f)) (c : He.SaysD faL fnL K) :
    ∃ fd : FuncData, (∀ (s : Shared) (v : Value), BindsTo s fd ⟨[v], []⟩ [("_law_script", v)]) ∧ ∀ base : Heap, K.In base → base.Ns mainGlobals mg → FnOk P w K mg base CX0 5 f fd ["_law_script"] (sp_law K) := by
  obtain ⟨d0, F0⟩ := c.def_ 0 (d := dd_bits_of) rfl
  obtain ⟨d1, F1⟩ := c.def_ 1 (d := dd_is_pattern) rfl
  obtain ⟨d2, F2⟩ := c.def_ 2 (d := dd_span_of) rfl
  obtain ⟨d3, F3⟩ := c.def_ 3 (d := dd_has) rfl
  obtain ⟨d4, F4⟩ := c.def_ 4 (d := dd_l_bag) rfl
  obtain ⟨d5, F5⟩ := c.def_ 5 (d := dd_l_draw) rfl
  obtain ⟨d6, F6⟩ := c.def_ 6 (d := dd_l_bits) rfl
  obtain ⟨d7, F7⟩ := c.def_ 7 (d := dd_l_worth) rfl
  obtain ⟨d8, F8⟩ := c.def_ 8 (d := dd_l_size) rfl
  obtain ⟨d9, F9⟩ := c.def_ 9 (d := dd_l_one) rfl
  obtain ⟨d10, F10⟩ := c.def_ 10 (d := dd_l_some) rfl
  obtain ⟨d11, F11⟩ := c.def_ 11 (d := dd_l_nested) rfl
  obtain ⟨d12, F12⟩ := c.def_ 12 (d := dd_l_chain_right) rfl
  obtain ⟨d13, F13⟩ := c.def_ 13 (d := dd_law) rfl
  have G0 := He.glo_ok X Gh (c.fact 0 (f := .glo "bits_of") rfl)
  have G1 := He.glo_ok X Gh (c.fact 1 (f := .glo "is_pattern") rfl)
  have G2 := He.glo_ok X Gh (c.fact 2 (f := .glo "span_of") rfl)
  have G3 := He.glo_ok X Gh (c.fact 3 (f := .glo "has") rfl)
  have G4 := He.glo_ok X Gh (c.fact 4 (f := .glo "_law_bag") rfl)
  have G5 := He.glo_ok X Gh (c.fact 5 (f := .glo "_law_draw") rfl)
  have G6 := He.glo_ok X Gh (c.fact 6 (f := .glo "_law_bits") rfl)
  have G7 := He.glo_ok X Gh (c.fact 7 (f := .glo "_law_worth") rfl)
  have G8 := He.glo_ok X Gh (c.fact 8 (f := .glo "_law_size") rfl)
  have G9 := He.glo_ok X Gh (c.fact 9 (f := .glo "_law_one") rfl)
  have G10 := He.glo_ok X Gh (c.fact 10 (f := .glo "_law_some") rfl)
  have G11 := He.glo_ok X Gh (c.fact 11 (f := .glo "_law_nested") rfl)
  have G12 := He.glo_ok X Gh (c.fact 12 (f := .glo "_law_chain_right") rfl)
  have G13 := He.glo_ok X Gh (c.fact 13 (f := .glo "law") rfl)
  obtain ⟨tk0, hk0⟩ := He.str_ok X Gh (c.fact 26 (f := .str "BITS" "01") rfl)
  obtain ⟨tk1, hk1⟩ := He.str_ok X Gh (c.fact 27 (f := .str "STAR" "*") rfl)
  let T : Txt K mg := { a_bits_of := _, d_bits_of := d0, F_bits_of := F0, g_bits_of := G0, a_is_pattern := _, d_is_pattern := d1, F_is_pattern := F1, g_is_pattern := G1, a_span_of := _, d_span_of := d2, F_span_of := F2, g_span_of := G2, a_has := _, d_has := d3, F_has := F3, g_has := G3, a_l_bag := _, d_l_bag := d4, F_l_bag := F4, g_l_bag := G4, a_l_draw := _, d_l_draw := d5, F_l_draw := F5, g_l_draw := G5, a_l_bits := _, d_l_bits := d6, F_l_bits := F6, g_l_bits := G6, a_l_worth := _, d_l_worth := d7, F_l_worth := F7, g_l_worth := G7, a_l_size := _, d_l_size := d8, F_l_size := F8, g_l_size := G8, a_l_one := _, d_l_one := d9, F_l_one := F9, g_l_one := G9, a_l_some := _, d_l_some := d10, F_l_some := F10, g_l_some := G10, a_l_nested := _, d_l_nested := d11, F_l_nested := F11, g_l_nested := G11, a_l_chain_right := _, d_l_chain_right := d12, F_l_chain_right := F12, g_l_chain_right := G12, a_law := _, d_law := d13, F_law := F13, g_law := G13, n_abs := He.free_ok X Gh (c.fact 14 (f := .free "abs") rfl), n_all := He.free_ok X Gh (c.fact 15 (f := .free "all") rfl), n_bool := He.free_ok X Gh (c.fact 16 (f := .free "bool") rfl), n_int := He.free_ok X Gh (c.fact 17 (f := .free "int") rfl), n_isinstance := He.free_ok X Gh (c.fact 18 (f := .free "isinstance") rfl), n_len := He.free_ok X Gh (c.fact 19 (f := .free "len") rfl), n_list := He.free_ok X Gh (c.fact 20 (f := .free "list") rfl), n_range := He.free_ok X Gh (c.fact 21 (f := .free "range") rfl), n_sorted := He.free_ok X Gh (c.fact 22 (f := .free "sorted") rfl), n_str := He.free_ok X Gh (c.fact 23 (f := .free "str") rfl), n_tuple := He.free_ok X Gh (c.fact 24 (f := .free "tuple") rfl), n_zip := He.free_ok X Gh (c.fact 25 (f := .free "zip") rfl), t_BITS := tk0, k_BITS := hk0, t_STAR := tk1, k_STAR := hk1 }
  have e := hfa.symm.trans G13
  cases e
  have b := FunD.bindsA (ps := ["_law_script"]) F13 fun _ _ _ _ _ _ us hl => match us, hl with | [_], _ => rfl
  exact ⟨d13, fun s v => b s [v] rfl, fun base _ _ => ok_law T law_true⟩
end K07
open PySem.Calls PySem.W PySem PyProof.Rows
set_option maxHeartbeats 0 in
theorem PySem.Challenge.cw_wishnet_k07_whole_order_of_patterns_holds : PySem.Challenge.rw_wishnet_k07_whole_order_of_patterns.Holds := by
  w_on; o_law
  refine HandSHeadRun.head_any (r := OpenLaw.row PySem.Challenge.rw_wishnet_k07_whole_order_of_patterns) (q := view (OpenLaw.row PySem.Challenge.rw_wishnet_k07_whole_order_of_patterns).prog [17]) (H := K07.hk) (ob := K07.ob) (M := 4000) (loose := K07.looseL) (d := HandSHeadRun.topDef (OpenLaw.row PySem.Challenge.rw_wishnet_k07_whole_order_of_patterns).prog 17) (kwd := []) K07.ob_eq
    (by kernel_rfl) (fun s => by kernel_rfl) K07.run_top (by kernel_rfl) (by kernel_rfl) (by kernel_rfl) (by rfl) (by first | assumption | decide +kernel) (by decide +kernel) ⟨rfl, rfl, rfl, rfl, rfl, by decide +kernel⟩ ?hw ?hc
  case hw => w_witness2
  case hc =>
    refine L2.walk_ofE (l := PySem.Challenge.rw_wishnet_k07_whole_order_of_patterns) (n := 63) (k := 5) (x := "_law_script") (CX := L2.CX0) rfl (by decide) (by kernel_rfl) ⟨rfl, by decide, by decide⟩ ?F (fun _ _ _ _ z => z)
    intro w mg fa h Y Gh hmg0
    obtain ⟨K, KX, c⟩ := Y
    have hmg : mg ("law" : PySem.Str) = some (.ref fa) := by
      have e : (HandSHeadRun.topDef (OpenLaw.row PySem.Challenge.rw_wishnet_k07_whole_order_of_patterns).prog 17).name = ("law" : PySem.Str) := by kernel_rfl
      rw [← e]
      exact hmg0
    obtain ⟨fd, hb, hF⟩ := K07.facts (P := (PySem.Challenge.rw_wishnet_k07_whole_order_of_patterns).prog) (w := w) KX Gh hmg c
    exact ⟨K, fd, K07.sp_law K, KX, hb, fun H a ns hl _ hS => ⟨a, ns, rfl, hS, hl, fun _ => rfl⟩, hF⟩
