import PyProof.Rows.All
import Wide.All
import OpenK.AllK
import Wide.FinOn
import HandS.ForMost
import HandS.Walk
import HandS.Wide
import HandS.WideBits
import HandS.StrMore
import HandS.SortInts
import HandS.Strs
import HandS.IsInst
import HandS.Defaults
import HandS.MakeKwOnly
import HandS.Head0
import HandS.Head1
import HandS.Head2
import HandS.HeadEnd
import HandS.HeadHook1
import HandS.HeadHook2
import HandS.Style
import HandS.SetFor
import KE.KDictZip
import KE.KTurns
import HandS.Iter
import Lean
import HandS.WordsExc
import PySem.Challenge.RW_wishnet_k04_covers_by_few
set_option Elab.async false
set_option linter.all false
set_option maxRecDepth 100000
set_option maxHeartbeats 4000000
/-! My base, part 1: data, their standing in a heap, growth of heaps. -/
namespace G
open PySem PySem.Spec L2 PyProof.Rows TL

/-! ### data by type -/
class Enc (α : Type) where
  d : α → PyData
instance : Enc Int := ⟨.int⟩
instance : Enc Bool := ⟨.bool⟩
instance : Enc Str := ⟨.str⟩
instance : Enc Unit := ⟨fun _ => .none⟩
def encO {α : Type} (f : α → PyData) : Option α → PyData
  | none => .none
  | some x => f x
instance {α : Type} [Enc α] : Enc (Option α) := ⟨encO Enc.d⟩
instance {α : Type} [Enc α] : Enc (List α) := ⟨fun xs => .list (xs.map Enc.d)⟩
instance {α β : Type} [Enc α] [Enc β] : Enc (α × β) := ⟨fun p => .tuple [Enc.d p.1, Enc.d p.2]⟩
structure T3 (α β γ : Type) where
  a : α
  b : β
  c : γ
  deriving DecidableEq
structure T4 (α β γ δ : Type) where
  a : α
  b : β
  c : γ
  e : δ
  deriving DecidableEq
structure T5 (α β γ δ ε : Type) where
  a : α
  b : β
  c : γ
  e : δ
  f : ε
  deriving DecidableEq
structure VT (α : Type) where
  l : List α
  deriving DecidableEq
instance {α β γ : Type} [Enc α] [Enc β] [Enc γ] : Enc (T3 α β γ) := ⟨fun p => .tuple [Enc.d p.a, Enc.d p.b, Enc.d p.c]⟩
instance {α β γ δ : Type} [Enc α] [Enc β] [Enc γ] [Enc δ] : Enc (T4 α β γ δ) := ⟨fun p => .tuple [Enc.d p.a, Enc.d p.b, Enc.d p.c, Enc.d p.e]⟩
instance {α β γ δ ε : Type} [Enc α] [Enc β] [Enc γ] [Enc δ] [Enc ε] : Enc (T5 α β γ δ ε) := ⟨fun p => .tuple [Enc.d p.a, Enc.d p.b, Enc.d p.c, Enc.d p.e, Enc.d p.f]⟩
instance {α : Type} [Enc α] : Enc (VT α) := ⟨fun p => .tuple (p.l.map Enc.d)⟩

/-- a text that may be handled: no longer than the line, of signs -/
structure GS (x : Str) : Prop where
  len : x.length ≤ sizeLine
  ok : PyData.strOk x = true

mutual
inductive Rp (K : PySem.W.Frag) (F : Hp) : V → PyData → Prop
  | non : Rp K F .non .none
  | bl (b : Bool) : Rp K F (.bl b) (.bool b)
  | int (i : Int) : Rp K F (.int i) (.int i)
  | str (x : Str) : GS x → Rp K F (.str x) (.str x)
  | lst {a : Addr} {xs : List V} {ds : List PyData} : SqL K F a xs → xs.length ≤ sizeLine → RpA K F xs ds → Rp K F (.ref a) (.list ds)
  | tup {a : Addr} {xs : List V} {ds : List PyData} : SqT K F a xs → xs.length ≤ sizeLine → RpA K F xs ds → Rp K F (.ref a) (.tuple ds)
inductive RpA (K : PySem.W.Frag) (F : Hp) : List V → List PyData → Prop
  | nil : RpA K F [] []
  | cons {v : V} {vs : List V} {d : PyData} {ds : List PyData} : Rp K F v d → RpA K F vs ds → RpA K F (v :: vs) (d :: ds)
end
/-- v stands for x -/
abbrev R {α : Type} [Enc α] (K : PySem.W.Frag) (F : Hp) (v : V) (x : α) : Prop := Rp K F v (Enc.d x)
/-- the values vs stand for the things xs -/
abbrev RL {α : Type} [Enc α] (K : PySem.W.Frag) (F : Hp) (vs : List V) (xs : List α) : Prop := RpA K F vs (xs.map Enc.d)

section
variable {K : PySem.W.Frag} {F F' H H' : Hp} {v : V} {vs : List V} {d : PyData} {ds : List PyData} {a p : Addr} {xs : List V}
theorem SqT_mono (e : Same H H') (h : SqT K H a xs) : SqT K H' a xs := by
  rcases h with (h | ⟨o, h⟩) | h
  · exact .inl (.inl (e _ _ h))
  · exact .inl (.inr ⟨o, e _ _ h⟩)
  · exact .inr h
mutual
theorem Rp.mono (e : Same F F') : ∀ (d : PyData) (v : V), Rp K F v d → Rp K F' v d
  | .none, _, h => by cases h; exact .non
  | .bool b, _, h => by cases h; exact .bl b
  | .int i, _, h => by cases h; exact .int i
  | .str x, _, h => by cases h with | str _ g => exact .str x g
  | .list ds, _, h => by cases h with | lst hs hl ha => exact .lst (e.seq hs) hl (RpA.mono e ds _ ha)
  | .tuple ds, _, h => by cases h with | tup hs hl ha => exact .tup (SqT_mono e hs) hl (RpA.mono e ds _ ha)
  | .dict _, _, h => by cases h
theorem RpA.mono (e : Same F F') : ∀ (ds : List PyData) (vs : List V), RpA K F vs ds → RpA K F' vs ds
  | [], _, h => by cases h; exact .nil
  | d :: ds, _, h => by cases h with | cons h1 h2 => exact .cons (Rp.mono e d _ h1) (RpA.mono e ds _ h2)
end
theorem Rp.up (h : Rp K F v d) (e : Same F F') : Rp K F' v d := Rp.mono e d v h
theorem RpA.up (h : RpA K F vs ds) (e : Same F F') : RpA K F' vs ds := RpA.mono e ds vs h
mutual
theorem Rp.dp : ∀ (d : PyData) (v : V), Rp K F v d → Dp K F v d
  | .none, _, h => by cases h; exact .non
  | .bool b, _, h => by cases h; exact .bl b
  | .int i, _, h => by cases h; exact .int i
  | .str x, _, h => by cases h; exact .str x
  | .list ds, _, h => by cases h with | lst hs hl ha => exact .lst hs (RpA.dp ds _ ha)
  | .tuple ds, _, h => by cases h with | tup hs hl ha => exact .tup hs (RpA.dp ds _ ha)
  | .dict _, _, h => by cases h
theorem RpA.dp : ∀ (ds : List PyData) (vs : List V), RpA K F vs ds → DpAll K F vs ds
  | [], _, h => by cases h; exact .nil
  | d :: ds, _, h => by cases h with | cons h1 h2 => exact .cons (Rp.dp d _ h1) (RpA.dp ds _ h2)
end
mutual
theorem Rp.lay : ∀ (d : PyData) (v : V), Rp K F v d → d.canLay0 = true
  | .none, _, _ => rfl
  | .bool b, _, _ => rfl
  | .int i, _, _ => rfl
  | .str x, _, h => by cases h with | str _ g => exact g.ok
  | .list ds, _, h => by cases h with | lst hs hl ha => exact RpA.lay ds _ ha
  | .tuple ds, _, h => by cases h with | tup hs hl ha => exact RpA.lay ds _ ha
  | .dict _, _, h => by cases h
theorem RpA.lay : ∀ (ds : List PyData) (vs : List V), RpA K F vs ds → PyData.canLayAll0 ds = true
  | [], _, _ => rfl
  | d :: ds, _, h => by cases h with | cons h1 h2 => exact Bool.and_eq_true_iff.mpr ⟨Rp.lay d _ h1, RpA.lay ds _ h2⟩
end

/-! ### what stands at a value, by its type -/
theorem RpA.length : ∀ {ds : List PyData} {vs : List V}, RpA K F vs ds → vs.length = ds.length
  | [], _, h => by cases h; rfl
  | d :: ds, _, h => by cases h with | cons h1 h2 => exact congrArg Nat.succ h2.length
theorem RpA.get : ∀ {ds : List PyData} {vs : List V} {i : Nat} {v : V}, RpA K F vs ds → vs[i]? = some v → ∃ d, ds[i]? = some d ∧ Rp K F v d
  | [], _, _, _, h, e => by cases h; simp at e
  | d :: ds, _, 0, _, h, e => by cases h with | cons h1 h2 => exact ⟨d, rfl, by simpa using (Option.some.inj e) ▸ h1⟩
  | d :: ds, _, i + 1, v, h, e => by
    cases h with
    | cons h1 h2 =>
      obtain ⟨d', e1, e2⟩ := h2.get (i := i) (v := v) (by simpa using e)
      exact ⟨d', by simpa using e1, e2⟩
theorem RpA.back : ∀ {ds : List PyData} {vs : List V} {i : Nat} {d : PyData}, RpA K F vs ds → ds[i]? = some d → ∃ v, vs[i]? = some v ∧ Rp K F v d
  | [], _, _, _, h, e => by simp at e
  | d :: ds, _, 0, _, h, e => by
    cases h with
    | cons h1 h2 =>
      have e' := Option.some.inj e
      subst e'
      exact ⟨_, rfl, h1⟩
  | d :: ds, _, i + 1, d', h, e => by
    cases h with
    | cons h1 h2 =>
      obtain ⟨v, e1, e2⟩ := h2.back (i := i) (d := d') (by simpa using e)
      exact ⟨v, by simpa using e1, e2⟩
theorem RpA.append : ∀ {ds es : List PyData} {vs us : List V}, RpA K F vs ds → RpA K F us es → RpA K F (vs ++ us) (ds ++ es)
  | [], _, _, _, h, g => by cases h; exact g
  | d :: ds, _, _, _, h, g => by cases h with | cons h1 h2 => exact .cons h1 (h2.append g)
theorem RpA.take : ∀ {ds : List PyData} {vs : List V} (n : Nat), RpA K F vs ds → RpA K F (vs.take n) (ds.take n)
  | _, _, 0, _ => .nil
  | _, _, _ + 1, .nil => .nil
  | _, _, n + 1, .cons h t => .cons h (RpA.take n t)
theorem RpA.drop : ∀ {ds : List PyData} {vs : List V} (n : Nat), RpA K F vs ds → RpA K F (vs.drop n) (ds.drop n)
  | _, _, 0, h => h
  | _, _, _ + 1, .nil => .nil
  | _, _, n + 1, .cons _ t => RpA.drop n t
theorem RpA.set : ∀ {ds : List PyData} {vs : List V} (n : Nat), Rp K F v d → RpA K F vs ds → RpA K F (vs.set n v) (ds.set n d)
  | _, _, _, _, .nil => .nil
  | _, _, 0, r, .cons _ t => .cons r t
  | _, _, n + 1, r, .cons h t => .cons h (RpA.set n r t)
theorem RpA.dropLast {ds : List PyData} {vs : List V} (h : RpA K F vs ds) : RpA K F vs.dropLast ds.dropLast := by
  rw [List.dropLast_eq_take, List.dropLast_eq_take, h.length]
  exact h.take _
theorem RpA.reverse : ∀ {ds : List PyData} {vs : List V}, RpA K F vs ds → RpA K F vs.reverse ds.reverse
  | [], _, h => by cases h; exact .nil
  | d :: ds, _, h => by
    cases h with
    | cons h1 h2 =>
      rw [List.reverse_cons, List.reverse_cons]
      exact h2.reverse.append (.cons h1 .nil)

section
variable {α β γ δ ε : Type} [Enc α] [Enc β] [Enc γ] [Enc δ] [Enc ε]
theorem R.int_v {i : Int} (h : R K F v i) : v = .int i := by cases h; rfl
theorem R.bl_v {b : Bool} (h : R K F v b) : v = .bl b := by cases h; rfl
theorem R.str_v {x : Str} (h : R K F v x) : v = .str x ∧ GS x := by cases h with | str _ g => exact ⟨rfl, g⟩
theorem R.non_v (h : R K F v (none : Option α)) : v = .non := by
  have h' : Rp K F v .none := h
  cases h'
  rfl
theorem R.lst_v {xs : List α} (h : R K F v xs) : ∃ p ws, v = .ref p ∧ SqL K F p ws ∧ ws.length ≤ sizeLine ∧ RL K F ws xs := by
  have h' : Rp K F v (.list (xs.map Enc.d)) := h
  cases h' with | lst h1 h2 h3 => exact ⟨_, _, rfl, h1, h2, h3⟩
theorem R.vt_v {x : VT α} (h : R K F v x) : ∃ p ws, v = .ref p ∧ SqT K F p ws ∧ ws.length ≤ sizeLine ∧ RL K F ws x.l := by
  have h' : Rp K F v (.tuple (x.l.map Enc.d)) := h
  cases h' with | tup h1 h2 h3 => exact ⟨_, _, rfl, h1, h2, h3⟩
theorem RpA.one {d1 : PyData} (h : RpA K F vs [d1]) : ∃ v1, vs = [v1] ∧ Rp K F v1 d1 := by
  cases h with | cons h1 h2 => cases h2; exact ⟨_, rfl, h1⟩
theorem RpA.two {d1 d2 : PyData} (h : RpA K F vs [d1, d2]) : ∃ v1 v2, vs = [v1, v2] ∧ Rp K F v1 d1 ∧ Rp K F v2 d2 := by
  cases h with | cons h1 h2 => obtain ⟨v2, rfl, r⟩ := h2.one; exact ⟨_, _, rfl, h1, r⟩
theorem RpA.three {d1 d2 d3 : PyData} (h : RpA K F vs [d1, d2, d3]) : ∃ v1 v2 v3, vs = [v1, v2, v3] ∧ Rp K F v1 d1 ∧ Rp K F v2 d2 ∧ Rp K F v3 d3 := by
  cases h with | cons h1 h2 => obtain ⟨v2, v3, rfl, r⟩ := h2.two; exact ⟨_, _, _, rfl, h1, r⟩
theorem RpA.four {d1 d2 d3 d4 : PyData} (h : RpA K F vs [d1, d2, d3, d4]) : ∃ v1 v2 v3 v4, vs = [v1, v2, v3, v4] ∧ Rp K F v1 d1 ∧ Rp K F v2 d2 ∧ Rp K F v3 d3 ∧ Rp K F v4 d4 := by
  cases h with | cons h1 h2 => obtain ⟨v2, v3, v4, rfl, r⟩ := h2.three; exact ⟨_, _, _, _, rfl, h1, r⟩
theorem RpA.five {d1 d2 d3 d4 d5 : PyData} (h : RpA K F vs [d1, d2, d3, d4, d5]) : ∃ v1 v2 v3 v4 v5, vs = [v1, v2, v3, v4, v5] ∧ Rp K F v1 d1 ∧ Rp K F v2 d2 ∧ Rp K F v3 d3 ∧ Rp K F v4 d4 ∧ Rp K F v5 d5 := by
  cases h with | cons h1 h2 => obtain ⟨v2, v3, v4, v5, rfl, r⟩ := h2.four; exact ⟨_, _, _, _, _, rfl, h1, r⟩
theorem R.p2_v {x : α × β} (h : R K F v x) : ∃ p v1 v2, v = .ref p ∧ SqT K F p [v1, v2] ∧ R K F v1 x.1 ∧ R K F v2 x.2 := by
  have h' : Rp K F v (.tuple [Enc.d x.1, Enc.d x.2]) := h
  cases h' with | tup h1 h2 h3 => obtain ⟨v1, v2, rfl, r1, r2⟩ := h3.two; exact ⟨_, _, _, rfl, h1, r1, r2⟩
theorem R.p3_v {x : T3 α β γ} (h : R K F v x) : ∃ p v1 v2 v3, v = .ref p ∧ SqT K F p [v1, v2, v3] ∧ R K F v1 x.a ∧ R K F v2 x.b ∧ R K F v3 x.c := by
  have h' : Rp K F v (.tuple [Enc.d x.a, Enc.d x.b, Enc.d x.c]) := h
  cases h' with | tup h1 h2 h3 => obtain ⟨v1, v2, v3, rfl, r⟩ := h3.three; exact ⟨_, _, _, _, rfl, h1, r⟩
theorem R.p4_v {x : T4 α β γ δ} (h : R K F v x) : ∃ p v1 v2 v3 v4, v = .ref p ∧ SqT K F p [v1, v2, v3, v4] ∧ R K F v1 x.a ∧ R K F v2 x.b ∧ R K F v3 x.c ∧ R K F v4 x.e := by
  have h' : Rp K F v (.tuple [Enc.d x.a, Enc.d x.b, Enc.d x.c, Enc.d x.e]) := h
  cases h' with | tup h1 h2 h3 => obtain ⟨v1, v2, v3, v4, rfl, r⟩ := h3.four; exact ⟨_, _, _, _, _, rfl, h1, r⟩
theorem R.p5_v {x : T5 α β γ δ ε} (h : R K F v x) : ∃ p v1 v2 v3 v4 v5, v = .ref p ∧ SqT K F p [v1, v2, v3, v4, v5] ∧ R K F v1 x.a ∧ R K F v2 x.b ∧ R K F v3 x.c ∧ R K F v4 x.e ∧ R K F v5 x.f := by
  have h' : Rp K F v (.tuple [Enc.d x.a, Enc.d x.b, Enc.d x.c, Enc.d x.e, Enc.d x.f]) := h
  cases h' with | tup h1 h2 h3 => obtain ⟨v1, v2, v3, v4, v5, rfl, r⟩ := h3.five; exact ⟨_, _, _, _, _, _, rfl, h1, r⟩
/-- making them -/
theorem R.mkl {xs : List α} (h1 : SqL K F p vs) (h2 : vs.length ≤ sizeLine) (h3 : RL K F vs xs) : R K F (.ref p) xs := .lst h1 h2 h3
theorem R.mkvt {xs : List α} (h1 : SqT K F p vs) (h2 : vs.length ≤ sizeLine) (h3 : RL K F vs xs) : R K F (.ref p) (VT.mk xs) := .tup h1 h2 h3
theorem R.mk2 {v1 v2 : V} {x : α} {y : β} (h1 : SqT K F p [v1, v2]) (r1 : R K F v1 x) (r2 : R K F v2 y) : R K F (.ref p) (x, y) := .tup h1 (by show 2 ≤ sizeLine; decide) (.cons r1 (.cons r2 .nil))
theorem R.mk3 {v1 v2 v3 : V} {x : α} {y : β} {z : γ} (h1 : SqT K F p [v1, v2, v3]) (r1 : R K F v1 x) (r2 : R K F v2 y) (r3 : R K F v3 z) : R K F (.ref p) (T3.mk x y z) := .tup h1 (by show 3 ≤ sizeLine; decide) (.cons r1 (.cons r2 (.cons r3 .nil)))
theorem R.mk4 {v1 v2 v3 v4 : V} {x : α} {y : β} {z : γ} {u : δ} (h1 : SqT K F p [v1, v2, v3, v4]) (r1 : R K F v1 x) (r2 : R K F v2 y) (r3 : R K F v3 z) (r4 : R K F v4 u) : R K F (.ref p) (T4.mk x y z u) := .tup h1 (by show 4 ≤ sizeLine; decide) (.cons r1 (.cons r2 (.cons r3 (.cons r4 .nil))))
theorem R.mk5 {v1 v2 v3 v4 v5 : V} {x : α} {y : β} {z : γ} {u : δ} {t : ε} (h1 : SqT K F p [v1, v2, v3, v4, v5]) (r1 : R K F v1 x) (r2 : R K F v2 y) (r3 : R K F v3 z) (r4 : R K F v4 u) (r5 : R K F v5 t) : R K F (.ref p) (T5.mk x y z u t) := .tup h1 (by show 5 ≤ sizeLine; decide) (.cons r1 (.cons r2 (.cons r3 (.cons r4 (.cons r5 .nil)))))
theorem RL.nil : RL K F [] ([] : List α) := RpA.nil
theorem RL.cons {x : α} {xs : List α} (r : R K F v x) (rs : RL K F vs xs) : RL K F (v :: vs) (x :: xs) := RpA.cons r rs
theorem RL.snoc {x : α} {xs : List α} (rs : RL K F vs xs) (r : R K F v x) : RL K F (vs ++ [v]) (xs ++ [x]) := by
  show RpA K F _ _
  rw [List.map_append]
  exact RpA.append rs (.cons r .nil)
theorem RL.app {us : List V} {xs ys : List α} (rs : RL K F vs xs) (r : RL K F us ys) : RL K F (vs ++ us) (xs ++ ys) := by
  show RpA K F _ _
  rw [List.map_append]
  exact RpA.append rs r
theorem RL.len {xs : List α} (rs : RL K F vs xs) : vs.length = xs.length := by
  have h := RpA.length rs
  rwa [List.length_map] at h
theorem RL.get {xs : List α} {i : Nat} (rs : RL K F vs xs) (e : vs[i]? = some v) : ∃ x, xs[i]? = some x ∧ R K F v x := by
  obtain ⟨d, e1, r⟩ := RpA.get rs e
  rw [List.getElem?_map] at e1
  cases h : xs[i]? with
  | none => rw [h] at e1; cases e1
  | some x =>
    rw [h] at e1
    have e2 : Enc.d x = d := Option.some.inj e1
    subst e2
    exact ⟨x, rfl, r⟩
theorem RL.back {xs : List α} {i : Nat} {x : α} (rs : RL K F vs xs) (e : xs[i]? = some x) : ∃ v, vs[i]? = some v ∧ R K F v x :=
  RpA.back rs (by rw [List.getElem?_map, e]; rfl)
theorem RL.at {xs : List α} {i : Int} {x : α} (rs : RL K F vs xs) (e : atI xs i = some x) : ∃ v, atI vs i = some v ∧ R K F v x := by
  unfold atI at e ⊢
  rw [rs.len]
  cases h : ixN xs.length i with
  | none => rw [h] at e; cases e
  | some j =>
    rw [h] at e
    exact rs.back e
theorem RL.cut {xs : List α} (lo hi : Option Int) (rs : RL K F vs xs) : RL K F (cutV vs lo hi) ((xs.drop (HT.sIx xs.length 0 lo)).take (HT.sIx xs.length xs.length hi - HT.sIx xs.length 0 lo)) := by
  unfold cutV
  rw [rs.len]
  show RpA K F _ _
  rw [List.map_take, List.map_drop]
  exact RpA.take _ (RpA.drop _ rs)
theorem RL.set {xs : List α} {x : α} (i : Nat) (r : R K F v x) (rs : RL K F vs xs) : RL K F (vs.set i v) (xs.set i x) := by
  show RpA K F _ _
  rw [List.map_set]
  exact RpA.set i r rs
theorem RL.rev {xs : List α} (rs : RL K F vs xs) : RL K F vs.reverse xs.reverse := by
  show RpA K F _ _
  rw [List.map_reverse]
  exact RpA.reverse rs
theorem RL.init {xs : List α} (rs : RL K F vs xs) : RL K F vs.dropLast xs.dropLast := by
  show RpA K F _ _
  rw [List.map_dropLast]
  exact RpA.dropLast rs
theorem RL.ints {xs : List Int} (rs : RL K F vs xs) : vs = xs.map V.int := by
  induction xs generalizing vs with
  | nil => cases rs; rfl
  | cons x xs ih => cases rs with | cons r t => rw [R.int_v r, ih t]; rfl
theorem RL.ofInts (xs : List Int) : RL K F (xs.map V.int) xs := by
  induction xs with
  | nil => exact .nil
  | cons x xs ih => exact .cons (.int x) ih
theorem RL.bls {xs : List Bool} (rs : RL K F vs xs) : vs = xs.map V.bl := by
  induction xs generalizing vs with
  | nil => cases rs; rfl
  | cons x xs ih => cases rs with | cons r t => rw [R.bl_v r, ih t]; rfl
theorem RL.strs {xs : List Str} (rs : RL K F vs xs) : vs = xs.map V.str ∧ ∀ x ∈ xs, GS x := by
  induction xs generalizing vs with
  | nil => cases rs; exact ⟨rfl, fun _ h => nomatch h⟩
  | cons x xs ih =>
    cases rs with
    | cons r t =>
      obtain ⟨e, g⟩ := R.str_v r
      obtain ⟨e2, g2⟩ := ih t
      refine ⟨by rw [e, e2]; rfl, fun y hy => ?_⟩
      rcases List.mem_cons.mp hy with rfl | hy
      · exact g
      · exact g2 y hy
theorem RL.ofStrs (xs : List Str) (h : ∀ x ∈ xs, GS x) : RL K F (xs.map V.str) xs := by
  induction xs with
  | nil => exact .nil
  | cons x xs ih => exact .cons (.str x (h x (List.mem_cons_self ..))) (ih fun y hy => h y (List.mem_cons_of_mem _ hy))
end
end

/-! ### how deep a type's data go -/
class Dep (α : Type) [Enc α] where
  n : Nat
  le : ∀ x : α, (Enc.d x).depth ≤ n
instance : Dep Int := ⟨0, fun _ => Nat.le_refl _⟩
instance : Dep Bool := ⟨0, fun _ => Nat.le_refl _⟩
instance : Dep Str := ⟨0, fun _ => Nat.le_refl _⟩
instance {α : Type} [Enc α] [Dep α] : Dep (Option α) := ⟨Dep.n α, fun o => by
  cases o with
  | none => exact Nat.zero_le _
  | some x => exact Dep.le x⟩
theorem depthAll_le {α : Type} [Enc α] [Dep α] : ∀ xs : List α, PyData.depthAll (xs.map Enc.d) ≤ Dep.n α
  | [] => Nat.zero_le _
  | x :: xs => Nat.max_le.mpr ⟨Dep.le x, depthAll_le xs⟩
instance {α : Type} [Enc α] [Dep α] : Dep (List α) := ⟨Dep.n α + 1, fun xs => Nat.succ_le_succ (depthAll_le xs)⟩
instance {α : Type} [Enc α] [Dep α] : Dep (VT α) := ⟨Dep.n α + 1, fun xs => Nat.succ_le_succ (depthAll_le xs.l)⟩
instance {α β : Type} [Enc α] [Enc β] [Dep α] [Dep β] : Dep (α × β) := ⟨max (Dep.n α) (Dep.n β) + 1, fun p => by
  have h1 := Dep.le p.1
  have h2 := Dep.le p.2
  show PyData.depthAll [Enc.d p.1, Enc.d p.2] + 1 ≤ _
  simp only [PyData.depthAll]
  omega⟩
instance {α β γ : Type} [Enc α] [Enc β] [Enc γ] [Dep α] [Dep β] [Dep γ] : Dep (T3 α β γ) := ⟨max (Dep.n α) (max (Dep.n β) (Dep.n γ)) + 1, fun p => by
  have h1 := Dep.le p.a
  have h2 := Dep.le p.b
  have h3 := Dep.le p.c
  show PyData.depthAll [Enc.d p.a, Enc.d p.b, Enc.d p.c] + 1 ≤ _
  simp only [PyData.depthAll]
  omega⟩
instance {α β γ δ : Type} [Enc α] [Enc β] [Enc γ] [Enc δ] [Dep α] [Dep β] [Dep γ] [Dep δ] : Dep (T4 α β γ δ) := ⟨max (Dep.n α) (max (Dep.n β) (max (Dep.n γ) (Dep.n δ))) + 1, fun p => by
  have h1 := Dep.le p.a
  have h2 := Dep.le p.b
  have h3 := Dep.le p.c
  have h4 := Dep.le p.e
  show PyData.depthAll [Enc.d p.a, Enc.d p.b, Enc.d p.c, Enc.d p.e] + 1 ≤ _
  simp only [PyData.depthAll]
  omega⟩
instance {α β γ δ ε : Type} [Enc α] [Enc β] [Enc γ] [Enc δ] [Enc ε] [Dep α] [Dep β] [Dep γ] [Dep δ] [Dep ε] : Dep (T5 α β γ δ ε) := ⟨max (Dep.n α) (max (Dep.n β) (max (Dep.n γ) (max (Dep.n δ) (Dep.n ε)))) + 1, fun p => by
  have h1 := Dep.le p.a
  have h2 := Dep.le p.b
  have h3 := Dep.le p.c
  have h4 := Dep.le p.e
  have h5 := Dep.le p.f
  show PyData.depthAll [Enc.d p.a, Enc.d p.b, Enc.d p.c, Enc.d p.e, Enc.d p.f] + 1 ≤ _
  simp only [PyData.depthAll]
  omega⟩
theorem R.shaped {α : Type} [Enc α] [Dep α] {K : PySem.W.Frag} {F : Hp} {v : V} {x : α} (r : R K F v x) (h : Dep.n α ≤ 64 := by decide) : SeqAt.shaped (Enc.d x) = true :=
  Bool.and_eq_true_iff.mpr ⟨Rp.lay _ _ r, decide_eq_true (Nat.le_trans (Dep.le x) h)⟩
/-- equal, as Python compares -/
def eqD {α : Type} [Enc α] (x y : α) : Bool := PyData.eqv (Enc.d x) (Enc.d y)

/-! ### growth: F is what stays as it is, H all that stands; M may be changed -/
structure Gr (M : Addr → Prop) (F0 H0 F H : Hp) : Prop where
  fh : Same F H
  ff : Same F0 F
  keep : ∀ a o, ¬ M a → H0 a = some o → H a = some o
  there : ∀ a, H0 a ≠ none → H a ≠ none
  new : ∀ a, H0 a ≠ none → F0 a = none → F a = none
abbrev M0 : Addr → Prop := fun _ => False
section
variable {M : Addr → Prop} {F0 H0 F H F' H' : Hp} {p a : Addr} {o : HO} {K : PySem.W.Frag} {xs : List V}
theorem Gr.refl (h : Same F H) : Gr M F H F H := ⟨h, Same.refl _, fun _ _ _ e => e, fun _ e => e, fun _ _ e => e⟩
theorem Gr.trans (g : Gr M F0 H0 F H) (k : Gr M F H F' H') : Gr M F0 H0 F' H' :=
  ⟨k.fh, g.ff.trans k.ff, fun a o n e => k.keep a o n (g.keep a o n e), fun a e => k.there a (g.there a e), fun a e n => k.new a (g.there a e) (g.new a e n)⟩
theorem Gr.of0 (g : Gr M0 F H F' H') : Gr M F H F' H' := ⟨g.fh, g.ff, fun a o _ e => g.keep a o id e, g.there, g.new⟩
theorem Gr.none0 (g : Gr M F0 H0 F H) (h : H a = none) : H0 a = none := by
  cases e : H0 a with
  | none => rfl
  | some o => exact absurd h (g.there a (by rw [e]; simp))
theorem Gr.noneF (g : Gr M F0 H0 F H) (h : H a = none) : F a = none := by
  cases e : F a with
  | none => rfl
  | some o => rw [g.fh a o e] at h; cases h
theorem same_new (h : F p = none) : Same F (upd F p o) := fun b u e => by rw [upd_ne (ne_of_none e h)]; exact e
theorem same_upd2 (h : Same F H) (hp : F p = none) : Same (upd F p o) (upd H p o) := fun b u e => by
  by_cases hb : b = p
  · subst hb; rw [upd_same] at e ⊢; exact e
  · rw [upd_ne hb] at e ⊢; exact h b u e
theorem same_out (h : Same F H) (hp : F p = none) : Same F (upd H p o) := fun b u e => by
  rw [upd_ne (ne_of_none e hp)]
  exact h b u e
/-- a new thing that stays as it is -/
theorem Gr.frz (g : Gr M F0 H0 F H) (h : H p = none) : Gr M F0 H0 (upd F p o) (upd H p o) :=
  ⟨same_upd2 g.fh (g.noneF h), g.ff.trans (same_new (g.noneF h)), fun a u n e => by rw [upd_ne (ne_of_none (g.keep a u n e) h)]; exact g.keep a u n e,
    fun a e => by
      by_cases ha : a = p
      · subst ha; rw [upd_same]; simp
      · rw [upd_ne ha]; exact g.there a e,
    fun a e n => by
      have ha : a ≠ p := fun z => by subst z; exact e (g.none0 h)
      rw [upd_ne ha]; exact g.new a e n⟩
/-- a new thing that may be changed -/
theorem Gr.own (g : Gr M F0 H0 F H) (h : H p = none) : Gr M F0 H0 F (upd H p o) :=
  ⟨same_out g.fh (g.noneF h), g.ff, fun a u n e => by rw [upd_ne (ne_of_none (g.keep a u n e) h)]; exact g.keep a u n e,
    fun a e => by
      by_cases ha : a = p
      · subst ha; rw [upd_same]; simp
      · rw [upd_ne ha]; exact g.there a e, g.new⟩
/-- a thing of ours is changed -/
theorem Gr.mut (g : Gr M F0 H0 F H) (n : F p = none) (n0 : H0 p = none ∨ M p) : Gr M F0 H0 F (upd H p o) :=
  ⟨same_out g.fh n, g.ff, fun a u m e => by
      have ha : a ≠ p := fun z => by
        subst z
        rcases n0 with z | z
        · rw [z] at e; cases e
        · exact m z
      rw [upd_ne ha]; exact g.keep a u m e,
    fun a e => by
      by_cases ha : a = p
      · subst ha; rw [upd_same]; simp
      · rw [upd_ne ha]; exact g.there a e, g.new⟩
/-- a thing of ours stays as it is from now on -/
theorem Gr.freeze (g : Gr M F0 H0 F H) (h : H p = some o) (n0 : H0 p = none) : Gr M F0 H0 (upd F p o) H :=
  ⟨fun b u e => by
      by_cases hb : b = p
      · subst hb; rw [upd_same] at e; cases e; exact h
      · rw [upd_ne hb] at e; exact g.fh b u e,
    fun b u e => by
      by_cases hb : b = p
      · subst hb
        have := g.fh b u (g.ff b u e)
        rw [h] at this; cases this
        exact upd_same
      · rw [upd_ne hb]; exact g.ff b u e, g.keep, g.there,
    fun a e n => by
      have ha : a ≠ p := fun z => by subst z; exact e n0
      rw [upd_ne ha]; exact g.new a e n⟩
theorem Gr.seq (g : Gr M F0 H0 F H) (m : ¬ M a) (h : SqL K H0 a xs) : SqL K H a xs := by
  rcases h with (h | ⟨o, h⟩) | h
  · exact .inl (.inl (g.keep _ _ m h))
  · exact .inl (.inr ⟨o, g.keep _ _ m h⟩)
  · exact .inr h
theorem same_frz (h : H p = some o) (n : F p = none) : Same F (upd F p o) := same_new n
end

/-! ### the makings, step by step -/
def bind2 {α β γ : Type} (o : Option (α × β)) (f : α → β → Option γ) : Option γ := o.bind fun p => f p.1 p.2
def bind3 {α β γ δ : Type} (o : Option (α × β × γ)) (f : α → β → γ → Option δ) : Option δ := o.bind fun p => f p.1 p.2.1 p.2.2
def bind4 {α β γ δ ε : Type} (o : Option (α × β × γ × δ)) (f : α → β → γ → δ → Option ε) : Option ε := o.bind fun p => f p.1 p.2.1 p.2.2.1 p.2.2.2
def bind5 {α β γ δ ε ζ : Type} (o : Option (α × β × γ × δ × ε)) (f : α → β → γ → δ → ε → Option ζ) : Option ζ := o.bind fun p => f p.1 p.2.1 p.2.2.1 p.2.2.2.1 p.2.2.2.2
theorem bnd {α β : Type} {o : Option α} {f : α → Option β} {r : β} (h : Option.bind o f = some r) : ∃ x, o = some x ∧ f x = some r := Option.bind_eq_some_iff.mp h
theorem bnd2 {α β γ : Type} {o : Option (α × β)} {f : α → β → Option γ} {r : γ} (h : bind2 o f = some r) : ∃ x y, o = some (x, y) ∧ f x y = some r :=
  let ⟨p, e, k⟩ := Option.bind_eq_some_iff.mp h
  ⟨p.1, p.2, e, k⟩
theorem bnd3 {α β γ δ : Type} {o : Option (α × β × γ)} {f : α → β → γ → Option δ} {r : δ} (h : bind3 o f = some r) : ∃ x y z, o = some (x, y, z) ∧ f x y z = some r :=
  let ⟨p, e, k⟩ := Option.bind_eq_some_iff.mp h
  ⟨p.1, p.2.1, p.2.2, e, k⟩
theorem bnd4 {α β γ δ ε : Type} {o : Option (α × β × γ × δ)} {f : α → β → γ → δ → Option ε} {r : ε} (h : bind4 o f = some r) : ∃ x y z u, o = some (x, y, z, u) ∧ f x y z u = some r :=
  let ⟨p, e, k⟩ := Option.bind_eq_some_iff.mp h
  ⟨p.1, p.2.1, p.2.2.1, p.2.2.2, e, k⟩
theorem bnd5 {α β γ δ ε ζ : Type} {o : Option (α × β × γ × δ × ε)} {f : α → β → γ → δ → ε → Option ζ} {r : ζ} (h : bind5 o f = some r) : ∃ x y z u t, o = some (x, y, z, u, t) ∧ f x y z u t = some r :=
  let ⟨p, e, k⟩ := Option.bind_eq_some_iff.mp h
  ⟨p.1, p.2.1, p.2.2.1, p.2.2.2.1, p.2.2.2.2, e, k⟩
/-- a loop's end: gone on, or handed back -/
inductive Lp (S R : Type) where
  | go (s : S)
  | ret (r : R)
def bindL {S R T : Type} (o : Option (Lp S R)) (f : S → Option T) (g : R → Option T) : Option T := o.bind fun l => match l with
  | .go s => f s
  | .ret r => g r
theorem ifT {α : Type} {c : Bool} {a b : α} {r : α} (h : c = true) (e : (if c = true then a else b) = r) : a = r := by rw [if_pos h] at e; exact e
theorem ifF {α : Type} {c : Bool} {a b : α} {r : α} (h : c = false) (e : (if c = true then a else b) = r) : b = r := by rw [if_neg (by rw [h]; decide)] at e; exact e
theorem iteB {c : Bool} {A B : Prop} (h1 : c = true → A) (h2 : c = false → B) : if c = true then A else B := by
  cases c with
  | true => exact h1 rfl
  | false => exact h2 rfl
theorem drop_at {α : Type} {xs : List α} {i : Nat} {x : α} (h : xs[i]? = some x) : xs.drop i = x :: xs.drop (i + 1) := by
  obtain ⟨h1, h2⟩ := List.getElem?_eq_some_iff.mp h
  rw [List.drop_eq_getElem_cons h1, h2]
theorem drop_end {α : Type} {xs : List α} {n : Nat} (h : n = xs.length) : xs.drop n = [] := by subst h; exact List.drop_length
end G
/-! My base, part 2: operations of the makings, and their rules. -/
namespace G
open PySem PySem.Spec PyProof.Rows L2 TL

/-! ### ints, truths -/
def eqI (a b : Int) : Bool := decide (V.int a = V.int b)
def neI (a b : Int) : Bool := !decide (V.int a = V.int b)
def eqB (a b : Bool) : Bool := decide (V.bl a = V.bl b)
def neB (a b : Bool) : Bool := !decide (V.bl a = V.bl b)
def eqS (a b : Str) : Bool := decide (V.str a = V.str b)
def neS (a b : Str) : Bool := !decide (V.str a = V.str b)
theorem eqI_iff {a b : Int} : eqI a b = decide (a = b) := by unfold eqI; simp
theorem neI_iff {a b : Int} : neI a b = !decide (a = b) := by unfold neI; simp
theorem eqB_iff {a b : Bool} : eqB a b = decide (a = b) := by unfold eqB; simp
theorem neB_iff {a b : Bool} : neB a b = !decide (a = b) := by unfold neB; simp
theorem eqS_iff {a b : Str} : eqS a b = decide (a = b) := by unfold eqS; simp
theorem neS_iff {a b : Str} : neS a b = !decide (a = b) := by unfold neS; simp
def toI (b : Bool) : Int := if b then 1 else 0
def mulI (a b : Int) : Option Int := if a.natAbs.log2 + b.natAbs.log2 < 1000000 then some (a * b) else none
def divI (a b : Int) : Option Int := if 0 < b ∧ b.natAbs.log2 < 9000 then some (a / b) else none
def modI (a b : Int) : Option Int := if 0 < b then some (a % b) else none
def shlI (a b : Int) : Option Int := if 0 ≤ b ∧ b ≤ 1000000 ∧ a.natAbs < 2 ^ 64 then some (a * 2 ^ b.toNat) else none
def shrI (a b : Int) : Option Int := if 0 ≤ b then some (a / 2 ^ b.toNat) else none
theorem mulI_ok {a b r : Int} (h : mulI a b = some r) : CMulW a b ∧ a * b = r := by
  unfold mulI at h
  split at h
  · exact ⟨by assumption, Option.some.inj h⟩
  · cases h
theorem divI_ok {a b r : Int} (h : divI a b = some r) : CDivW a b ∧ a / b = r := by
  unfold divI at h
  split at h
  · exact ⟨by assumption, Option.some.inj h⟩
  · cases h
theorem modI_ok {a b r : Int} (h : modI a b = some r) : 0 < b ∧ a % b = r := by
  unfold modI at h
  split at h
  · exact ⟨by assumption, Option.some.inj h⟩
  · cases h
theorem shlI_ok {a b r : Int} (h : shlI a b = some r) : CPow a b ∧ a * 2 ^ b.toNat = r := by
  unfold shlI at h
  split at h
  · exact ⟨by assumption, Option.some.inj h⟩
  · cases h
theorem shrI_ok {a b r : Int} (h : shrI a b = some r) : 0 ≤ b ∧ a / 2 ^ b.toNat = r := by
  unfold shrI at h
  split at h
  · exact ⟨by assumption, Option.some.inj h⟩
  · cases h
theorem maxI_eq {i j : Int} : (if j > i then j else i) = max i j := by omega
theorem minI_eq {i j : Int} : (if j < i then j else i) = min i j := by omega

/-! ### texts -/
def sgn (c : Nat) : Str := ⟨#[c]⟩
theorem GS.of {x : Str} (h1 : (tl x).length ≤ sizeLine) (h2 : ∀ c ∈ tl x, c < 0x110000) : GS x := by
  refine ⟨by rw [len_tl]; exact h1, ?_⟩
  show x.cps.all (fun c => decide (c < 0x110000)) = true
  rw [Array.all_eq_true']
  intro c hc
  exact decide_eq_true (h2 c (by simpa [tl] using hc))
theorem GS.mem {x : Str} (g : GS x) : ∀ c ∈ tl x, c < 0x110000 := by
  intro c hc
  have h : x.cps.all (fun c => decide (c < 0x110000)) = true := g.ok
  rw [Array.all_eq_true'] at h
  exact of_decide_eq_true (h c (by simpa [tl] using hc))
theorem GS.tll {x : Str} (g : GS x) : (tl x).length ≤ sizeLine := by rw [← len_tl]; exact g.len
theorem GS.sg {x : Str} {c : Nat} (g : GS x) (h : c ∈ tl x) : GS (sgn c) := GS.of (by show 1 ≤ sizeLine; decide) (fun d hd => by
  have e : d = c := by simpa [tl, sgn] using hd
  rw [e]
  exact g.mem c h)
theorem GS.cut {x : Str} (g : GS x) (lo hi : Option Int) : GS (cutS x lo hi) := GS.of (by
    rw [← len_tl]
    exact Nat.le_trans (cutS_length x lo hi) g.len)
  fun c hc => g.mem c (List.mem_of_mem_drop (List.mem_of_mem_take (show c ∈ ((tl x).drop _).take _ from hc)))
def catS (a b : Str) : Option Str := if a.length + b.length ≤ sizeLine then some (a ++ b) else none
theorem catS_ok {a b r : Str} (h : catS a b = some r) : a.length + b.length ≤ sizeLine ∧ a ++ b = r := by
  unfold catS at h
  split at h
  · exact ⟨by assumption, Option.some.inj h⟩
  · cases h
theorem GS.cat {a b r : Str} (ga : GS a) (gb : GS b) (h : catS a b = some r) : GS r := by
  obtain ⟨h1, rfl⟩ := catS_ok h
  refine GS.of ?_ fun c hc => ?_
  · rw [tl_append, List.length_append, ← len_tl, ← len_tl]
    exact h1
  · rw [tl_append] at hc
    rcases List.mem_append.mp hc with k | k
    · exact ga.mem c k
    · exact gb.mem c k
/-- the sign at a place -/
def codeAt (x : Str) (i : Int) : Option Nat := atI (tl x) i
theorem codeAt_mem {x : Str} {i : Int} {c : Nat} (h : codeAt x i = some c) : c ∈ tl x := by
  unfold codeAt atI at h
  cases e : ixN (tl x).length i with
  | none => rw [e] at h; cases h
  | some j => rw [e] at h; exact List.mem_of_getElem? h
def mulS (x : Str) (n : Int) : Option Str := if -(2 ^ 63 : Int) ≤ n ∧ n ≤ 16777216 ∧ x.length * n.toNat ≤ 16777216 then some (Txt.mul x n) else none
theorem mulS_ok {x r : Str} {n : Int} (h : mulS x n = some r) : MulOk x n ∧ Txt.mul x n = r := by
  unfold mulS at h
  split at h
  · rename_i q
    exact ⟨mulOk_of x.length n.toNat (Nat.le_refl _) (by omega) q.1 (by omega) q.2.2, Option.some.inj h⟩
  · cases h
theorem foldl_app (cs : Array Nat) : ∀ (k : Nat) (acc : Array Nat), ((List.replicate k cs).foldl (· ++ ·) acc).toList = acc.toList ++ (List.replicate k cs.toList).flatten
  | 0, acc => by simp
  | k + 1, acc => by
    rw [List.replicate_succ, List.foldl_cons, foldl_app cs k, List.replicate_succ, List.flatten_cons, Array.toList_append, List.append_assoc]
theorem tl_mul (x : Str) (n : Int) : tl (Txt.mul x n) = (List.replicate n.toNat (tl x)).flatten := by
  unfold Txt.mul
  split
  · have e : n.toNat = 0 := by omega
    rw [e]
    rfl
  · split
    · rename_i h1 h2
      rcases Bool.or_eq_true_iff.mp h2 with h | h
      · have e : n = 1 := eq_of_beq h
        subst e
        show tl x = [tl x].flatten
        simp
      · have e : x.length = 0 := eq_of_beq h
        have e2 : tl x = [] := List.eq_nil_of_length_eq_zero (by rw [← len_tl]; exact e)
        rw [e2]
        simp
    · show ((List.replicate n.toNat x.cps).foldl (· ++ ·) #[]).toList = _
      rw [foldl_app]
      rfl
theorem GS.mul {x r : Str} {n : Int} (g : GS x) (h : mulS x n = some r) : GS r := by
  have h0 := h
  unfold mulS at h0
  split at h0
  · rename_i q
    obtain ⟨_, rfl⟩ := mulS_ok h
    refine GS.of ?_ fun c hc => ?_
    · rw [tl_mul, List.length_flatten, List.map_replicate, List.sum_replicate_nat, ← len_tl, sizeLine_eq, Nat.mul_comm]
      exact q.2.2
    · rw [tl_mul] at hc
      obtain ⟨l, hl, hc⟩ := List.mem_flatten.mp hc
      rw [(List.mem_replicate.mp hl).2] at hc
      exact g.mem c hc
  · cases h0
def joinS (sep : Str) (ys : List Str) : Option Str := if (ys.map (·.length)).sum + ys.length * sep.length ≤ 16777216 then some (Txt.join sep ys) else none
theorem joinS_ok {sep r : Str} {ys : List Str} (h : joinS sep ys = some r) : (ys.map (·.length)).sum + ys.length * sep.length ≤ 16777216 ∧ Txt.join sep ys = r := by
  unfold joinS at h
  split at h
  · exact ⟨by assumption, Option.some.inj h⟩
  · cases h
theorem tl_joinS (sep : Str) (ys : List Str) : tl (Txt.join sep ys) = joinL (tl sep) (ys.map tl) := by
  have e : Txt.join sep ys = Str.join sep ys := by
    unfold Txt.join; exact StrLaws.glued_eq_join sep ys
  rw [e, tl_join]
end G
/-! My base, part 3: rules. -/
namespace G
open PySem PySem.Spec PyProof.Rows L2 TL

section
variable {X : Cx}
theorem CallR.imp {f : Value} {r r' : List V → Hp → VK → Prop} (h : CallR X f r) (k : ∀ xs H Q, r' xs H Q → r xs H Q) : CallR X f r' :=
  fun pins s σ H xs us Q I rx q => h pins s σ H xs us Q I rx (k _ _ _ q)
theorem OpR.imp {f : Value → Value → Sem Value} {r r' : R2} (h : OpR X f r) (k : ∀ x y H Q, r' x y H Q → r x y H Q) : OpR X f r' :=
  fun pins s σ H x y v u Q I rx ry q => h pins s σ H x y v u Q I rx ry (k _ _ _ _ q)
/-- int(a truth) -/
theorem call_toI : CallR X (.type "int") (fun xs H Q => ∃ k, xs = [.bl k] ∧ Q (.int (toI k)) H) := CallR.imp call_int1 fun xs H Q ⟨k, e, q⟩ => .inr ⟨k, e, q⟩
/-- len(a list or tuple), told -/
theorem call_lenL : CallR X (.builtin "len") (fun xs H Q => ∃ p ys n, xs = [.ref p] ∧ (SqL X.K H p ys ∨ SqT X.K H p ys) ∧ ys.length = n ∧ Q (.int (n : Nat)) H) :=
  CallR.imp call_len_seq fun xs H Q ⟨p, ys, n, e, h, e2, q⟩ => ⟨p, ys, e, h, by rw [e2]; exact q⟩
/-- is None, told -/
theorem op_isO : OpR X (compareOp .Is) (fun x y H Q => ∃ b, y = .non ∧ decide (x = .non) = b ∧ Q (.bl b) H) := OpR.imp op_isN fun x y H Q ⟨b, e, e2, q⟩ => ⟨e, by rw [e2]; exact q⟩
theorem op_notO : OpR X (compareOp .IsNot) (fun x y H Q => ∃ b, y = .non ∧ decide (x = .non) = b ∧ Q (.bl (!b)) H) := OpR.imp op_notN fun x y H Q ⟨b, e, e2, q⟩ => ⟨e, by rw [e2]; exact q⟩
theorem op_mulS : OpR X (binaryOp .Mult) (fun x y H Q => ∃ z n, x = .str z ∧ y = .int n ∧ MulOk z n ∧ Q (.str (Txt.mul z n)) H) := by
  intro pins s σ H x y v u Q I rx ry h
  obtain ⟨z, n, rfl, rfl, ok, q⟩ := h
  obtain ⟨t, rfl⟩ := rx
  obtain ⟨t', rfl⟩ := ry
  exact SB.mul ok fun t' k => ⟨.str _, H, I.tok k, ⟨t', rfl⟩, q⟩
/-- xs + ys, lists that are read -/
def rCatL (K : PySem.W.Frag) : R2 := fun x y H Q => ∃ l b xs zs, x = .ref l ∧ y = .ref b ∧ SqL K H l xs ∧ SqL K H b zs ∧ xs.length + zs.length ≤ sizeLine ∧ ∀ p, H p = none → Q (.ref p) (upd H p (.lst (xs ++ zs)))
theorem op_catL : OpR X (binaryOp .Add) (rCatL X.K) := by
  intro pins s σ H x y v u Q I rx ry h
  obtain ⟨l, b, xs, zs, rfl, rfl, hH, hB, hz, q⟩ := h
  cases rx
  cases ry
  obtain ⟨its, r, p1, hl⟩ := I.list hH
  obtain ⟨its2, r2, p2, hl2⟩ := I.list hB
  obtain ⟨⟨cls, dd, data, sl⟩, ho, hc, n, hd⟩ := p1.isList
  obtain ⟨⟨cls2, dd2, data2, sl2⟩, ho2, hc2, n2, hd2⟩ := p2.isList
  simp only at hc hd hc2 hd2
  subst hc hd hc2 hd2
  have ea : its.toArray ++ its2.toArray = (its ++ its2).toArray := by simp
  have e1 := r.length
  have e2 := r2.length
  refine concat_meets ⟨_, ho, rfl⟩ ⟨_, ho2, rfl⟩ noFill_list_add seq_list_add PySem.F.slot_list_add PySem.F.entry_list_add (PySem.F.args_list_add_2 _ _) (PyProof.Rows.list_addW l b its.toArray its2.toArray n n2 dd dd2 sl sl2 (by simp; omega)) ⟨ho, ho2, ?_⟩
  rw [ea]
  exact ⟨.ref _, _, I.lnew (t' := s.toks) (r.append r2) (by rw [List.length_append]; omega), rfl, q _ I.fresh⟩
end

/-! ### parts of an expression, closed: what they come to, whatever follows -/
section
variable {M : Addr → Prop} {F H : Hp} {σ : L2.St} {ta tb tc : TE} {Q : VK} {a c k : Bool}
/-- t comes to the truth c -/
def EvB (M : Addr → Prop) (F H : Hp) (t : VK → Prop) (c : Bool) : Prop := ∀ Q : VK, (∀ F' H', Gr M F H F' H' → Q (.bl c) H') → t Q
def EvT (M : Addr → Prop) (F H : Hp) (t : (Bool → Hp → Prop) → Prop) (c : Bool) : Prop := ∀ Q : Bool → Hp → Prop, (∀ F' H', Gr M F H F' H' → Q c H') → t Q
theorem andV_g (h1 : EvB M F H (fun Q => ta σ H Q) a) (h2 : a = true → ∀ F1 H1, Gr M F H F1 H1 → EvB M F1 H1 (fun Q => tb σ H1 Q) c) (h3 : a = false → c = false)
    (q : ∀ F' H', Gr M F H F' H' → Q (.bl c) H') : tAndV ta tb σ H Q := h1 _ fun F1 H1 g1 => ⟨a, rfl, by
  cases e : a with
  | true => exact iteT (h2 e F1 H1 g1 _ fun F2 H2 g2 => q F2 H2 (g1.trans g2))
  | false =>
    have ec := h3 e
    subst ec
    exact iteF (q F1 H1 g1)⟩
theorem orV_g (h1 : EvB M F H (fun Q => ta σ H Q) a) (h2 : a = false → ∀ F1 H1, Gr M F H F1 H1 → EvB M F1 H1 (fun Q => tb σ H1 Q) c) (h3 : a = true → c = true)
    (q : ∀ F' H', Gr M F H F' H' → Q (.bl c) H') : tOrV ta tb σ H Q := h1 _ fun F1 H1 g1 => ⟨a, rfl, by
  cases e : a with
  | false => exact iteF (h2 e F1 H1 g1 _ fun F2 H2 g2 => q F2 H2 (g1.trans g2))
  | true =>
    have ec := h3 e
    subst ec
    exact iteT (q F1 H1 g1)⟩
theorem andT_g {ta tb : TT} {Q : Bool → Hp → Prop} (h1 : EvT M F H (fun Q => ta σ H Q) a) (h2 : a = true → ∀ F1 H1, Gr M F H F1 H1 → EvT M F1 H1 (fun Q => tb σ H1 Q) c) (h3 : a = false → c = false)
    (q : ∀ F' H', Gr M F H F' H' → Q c H') : tAnd ta tb σ H Q := h1 _ fun F1 H1 g1 => by
  cases e : a with
  | true => exact iteT (h2 e F1 H1 g1 _ fun F2 H2 g2 => q F2 H2 (g1.trans g2))
  | false =>
    have ec := h3 e
    subst ec
    exact iteF (q F1 H1 g1)
theorem orT_g {ta tb : TT} {Q : Bool → Hp → Prop} (h1 : EvT M F H (fun Q => ta σ H Q) a) (h2 : a = false → ∀ F1 H1, Gr M F H F1 H1 → EvT M F1 H1 (fun Q => tb σ H1 Q) c) (h3 : a = true → c = true)
    (q : ∀ F' H', Gr M F H F' H' → Q c H') : tOr ta tb σ H Q := h1 _ fun F1 H1 g1 => by
  cases e : a with
  | false => exact iteF (h2 e F1 H1 g1 _ fun F2 H2 g2 => q F2 H2 (g1.trans g2))
  | true =>
    have ec := h3 e
    subst ec
    exact iteT (q F1 H1 g1)
/-- a < b < c -/
theorem chainV_g {r r' : R2} (h1 : EvB M F H (fun Q => ta σ H fun x H1 => tb σ H1 fun y H2 => r x y H2 Q) a) (h : tChain r r' ta tb tc σ H Q) : tChain r r' ta tb tc σ H Q := h
/-- e if t else e': it comes to what P says -/
theorem ifE_g {tt : TT} {P : V → Hp → Hp → Prop} (h1 : EvT M F H (fun Q => tt σ H Q) a)
    (h2 : a = true → ∀ F1 H1, Gr M F H F1 H1 → ∀ Q : VK, (∀ v F' H', Gr M F1 H1 F' H' → P v F' H' → Q v H') → ta σ H1 Q)
    (h3 : a = false → ∀ F1 H1, Gr M F H F1 H1 → ∀ Q : VK, (∀ v F' H', Gr M F1 H1 F' H' → P v F' H' → Q v H') → tb σ H1 Q)
    (q : ∀ v F' H', Gr M F H F' H' → P v F' H' → Q v H') : tIf tt ta tb σ H Q := h1 _ fun F1 H1 g1 => by
  cases e : a with
  | true => exact iteT (h2 e F1 H1 g1 _ fun v F2 H2 g2 => q v F2 H2 (g1.trans g2))
  | false => exact iteF (h3 e F1 H1 g1 _ fun v F2 H2 g2 => q v F2 H2 (g1.trans g2))
end

/-! ### peeling a statement -/
section
variable {D : Ends} {σ : L2.St} {H : Hp} {t u : TS} {te : TE} {g : TG} {c : TT}
theorem p_seq (h : t { D with nx := u D } σ H) : tSeq t u D σ H := h
theorem p_asg (h : te σ H (fun x H1 => g x σ H1 D.nx)) : tAsg te g D σ H := h
theorem p_ret (h : te σ H D.rt) : tRet te D σ H := h
theorem p_if (h : c σ H (fun b H1 => if b = true then t D σ H1 else u D σ H1)) : tIfS c t u D σ H := h
theorem p_drop (h : te σ H (fun _ H1 => D.nx σ H1)) : tDrop te D σ H := h
/-- a statement, then the rest, with a word between them -/
def tCut (t u : TS) : TS := fun D σ H => ∃ Mid : L2.St → Hp → Prop, t { D with nx := Mid } σ H ∧ ∀ σ' H', Mid σ' H' → u D σ' H'
theorem pss_cut {X : Cx} {st : Stmt} {rest : List Stmt} (h1 : PS X st t) (h2 : PSs X rest u) : PSs X (st :: rest) (tCut t u) := by
  refine ⟨fun pins s σ H D I h => ?_⟩
  obtain ⟨Mid, hm, hu⟩ := h
  refine wpAny_execs_cons (thn (h1.run pins s σ H { D with nx := Mid } I hm) fun f s1 q => ?_)
  cases f with
  | next =>
    obtain ⟨σ', H', I', q⟩ := q
    exact h2.run pins s1 σ' H' D I' (hu σ' H' q)
  | ret v => exact q
  | brk => exact q
  | cont => exact q
end

/-! ### a call by names alone -/
section
variable {X : Cx} {CX : CXT} {k : Nat} {f : Addr} {fd : FuncData} {ps ks : List Str} {sp : Sp} {E : XK} {x : Str} {p pos : Pos} {kws : List Keyword} {tk : TA} {g : List Value → List Value → List Value} {gV : List V → List V → List V}
theorem pe_callK0 (F : FnOk X.prog X.w X.K X.mg X.base CX k f fd ps sp) (hr : Room k X.A) (hg : Gl X x) (hm : X.mg x = some (.ref f)) (hk : PySem.W.keepIn X.K (.ref f) = true) (hb : KBinds X.K fd ps ks g gV) (hx : Passes CX X E)
    (hkw : PK X kws tk) (hall : (backToKw pos (keywordEach kws X.env)).all (·.1.isSome) = true := by rfl) (hks : (backToKw pos (keywordEach kws X.env)).filterMap (·.1) = ks := by rfl)
    (hdb : (x == ("__debug__" : Str)) = false := by decide)
    (hpl : ((backTo pos (starEach [] X.env)).any (·.1) || (backToKw pos (keywordEach kws X.env)).any (·.1.isNone)) = false := by rfl) :
    PE X (.Call (.Name x p) [] kws pos) (tCallK sp gV E tNil tk) := by
  refine ⟨fun pins s σ H Q I h => ?_⟩
  refine wpAny_Call_Name_kw (ld_glob I hg hm ?_ hdb)
  refine PySem.W.callWith_KW0 (h₀ := X.base) I.ok.mod.kin hk hall ?_ hpl
  refine thn (hkw.run pos pins s σ H _ I h) fun ws s2 ⟨zs, H2, I2, rz, q2⟩ => ⟨I2.kIn, ?_⟩
  rw [hks]
  exact run_fnk F hr hb hx I2 .nil rz q2
end

/-! ### texts kept in a written table -/
def dgetS (kvs : List (Str × Str)) (k d : Str) : Str := ((kvs.find? fun kv => decide (kv.1 = k)).map (·.2)).getD d
def kvS (kvs : List (Str × Str)) : List (Key × V) := kvs.map fun kv => (Sum.inr kv.1, V.str kv.2)
theorem valS (k : Str) : ∀ kvs : List (Str × Str), valV (kvS kvs) (Sum.inr k) = ((kvs.find? fun kv => decide (kv.1 = k)).map (·.2)).map V.str
  | [] => rfl
  | kv :: r => by
    unfold valV kvS
    rw [List.map_cons, List.find?_cons, List.find?_cons]
    by_cases h : kv.1 = k
    · have h' : (Sum.inr kv.1 : Key) = Sum.inr k := by rw [h]
      simp only [decide_eq_true h, decide_eq_true h', Option.map_some]
    · have h' : ¬ (Sum.inr kv.1 : Key) = Sum.inr k := fun e => h (Sum.inr.inj e)
      simp only [decide_eq_false h, decide_eq_false h']
      exact valS k r
theorem rd_dgets {ty tx : TE} {σ : L2.St} {H : Hp} {Q : VK} {k d : Str} (trs : List (TE × TE)) (kvs : List (Str × Str)) (he : trs = kvs.map fun kv => (tC (.str kv.1), tC (.str kv.2))) (h15 : kvs.length ≤ 15) (hm : mergeK [] (kvS kvs) = kvS kvs)
    (hy : ∀ H1 Q', Q' (.str k) H1 → ty σ H1 Q') (hx : ∀ H1 Q', Q' (.str d) H1 → tx σ H1 Q') (q : ∀ p, H p = none → Q (.str (dgetS kvs k d)) (upd H p (.dK (kvS kvs)))) : tDGet2 (tDisp trs) ty tx σ H Q := by
  intro p hp
  have walk : ∀ (l : List (Str × Str)) (R : List (V × V) → Hp → Prop) (H1 : Hp), R (l.map fun kv => (V.str kv.1, V.str kv.2)) H1 → tPairs (l.map fun kv => (tC (.str kv.1), tC (.str kv.2))) σ H1 R := by
    intro l
    induction l with
    | nil => intro R H1 h; exact h
    | cons kv l ih => intro R H1 h; exact ih (fun ps H3 => R ((V.str kv.1, V.str kv.2) :: ps) H3) H1 h
  rw [he]
  refine walk kvs _ _ ⟨upd_same, kvS kvs, ?_, ?_, ?_⟩
  · unfold kvS
    rw [List.map_map]
    rfl
  · unfold kvS
    rw [List.length_map]
    exact h15
  · rw [hm, upd_upd]
    refine ⟨p, rfl, .inl ⟨_, .inl upd_same⟩, hy _ _ (hx _ _ ⟨_, DGet.k (k := Sum.inr k) upd_same, ?_⟩)⟩
    rw [valS]
    have e : (((kvs.find? fun kv => decide (kv.1 = k)).map (·.2)).map V.str).getD (.str d) = .str (dgetS kvs k d) := by
      unfold dgetS
      cases (kvs.find? fun kv => decide (kv.1 = k)) <;> rfl
    rw [e]
    exact q p hp
theorem GS.dg {kvs : List (Str × Str)} {k d : Str} (h : ∀ kv ∈ kvs, GS kv.2) (hd : GS d) : GS (dgetS kvs k d) := by
  unfold dgetS
  cases e : (kvs.find? fun kv => decide (kv.1 = k)) with
  | none => exact hd
  | some kv => exact h kv (List.mem_of_find?_eq_some e)
end G
/-! My base, part 4: lists of one's own, the bag. -/
namespace G
open PySem PySem.Spec PyProof.Rows L2 TL

/-- a list of one's own at p: made behind the entry (H0), not among what stays (F) -/
structure Ow (H0 F H : Hp) (p : Addr) (ws : List V) : Prop where
  h : H p = some (.lst ws)
  nF : F p = none
  n0 : H0 p = none
section
variable {M : Addr → Prop} {F0 H0 F H F' H' : Hp} {p q : Addr} {o : HO} {K : PySem.W.Frag} {xs ws us : List V}
theorem Ow.new (g : Gr M F0 H0 F H) (hp : H p = none) : Ow H0 F (upd H p (.lst ws)) p ws := ⟨upd_same, g.noneF hp, g.none0 hp⟩
theorem Ow.frz (w : Ow H0 F H p ws) (hq : H q = none) : Ow H0 (upd F q o) (upd H q o) p ws :=
  have ne := ne_of_none w.h hq
  ⟨(upd_ne ne).trans w.h, (upd_ne ne).trans w.nF, w.n0⟩
theorem Ow.own (w : Ow H0 F H p ws) (hq : H q = none) : Ow H0 F (upd H q o) p ws :=
  have ne := ne_of_none w.h hq
  ⟨(upd_ne ne).trans w.h, w.nF, w.n0⟩
theorem Ow.put (w : Ow H0 F H p ws) : Ow H0 F (upd H p (.lst us)) p us := ⟨upd_same, w.nF, w.n0⟩
theorem Ow.other (w : Ow H0 F H p ws) (ne : p ≠ q) : Ow H0 F (upd H q o) p ws := ⟨(upd_ne ne).trans w.h, w.nF, w.n0⟩
theorem Ow.ne (w : Ow H0 F H p ws) (hq : H q = none) : p ≠ q := ne_of_none w.h hq
theorem Ow.gr (w : Ow H0 F H p ws) (g : Gr M F H F' H') (m : ¬ M p) : Ow H0 F' H' p ws :=
  ⟨g.keep _ _ m w.h, g.new p (by rw [w.h]; simp) w.nF, w.n0⟩
theorem Ow.gr0 (w : Ow H0 F H p ws) (g : Gr M0 F H F' H') : Ow H0 F' H' p ws := w.gr g id
theorem Ow.fz (w : Ow H0 F H p ws) (ne : p ≠ q) : Ow H0 (upd F q o) H p ws := ⟨w.h, (upd_ne ne).trans w.nF, w.n0⟩
theorem Gr.put (g : Gr M F0 H0 F H) (w : Ow H0 F H p ws) : Gr M F0 H0 F (upd H p o) := g.mut w.nF (.inl w.n0)
theorem Gr.fz (g : Gr M F0 H0 F H) (w : Ow H0 F H p ws) : Gr M F0 H0 (upd F p (.lst ws)) H := g.freeze w.h w.n0
theorem Ow.sq (w : Ow H0 F H p ws) : SqL K H p ws := .inl (.inl w.h)
theorem Ow.sf (w : Ow H0 F H p ws) : Same F (upd F p (.lst ws)) := same_new w.nF
theorem fzS : SqL K (upd F p (.lst ws)) p ws := .inl (.inl upd_same)
theorem fzT : SqT K (upd F p (.tup ws)) p ws := .inl (.inl upd_same)
end

/-- the bag of a law: its cells, which is next, the seed, how many were stirred -/
structure Bag where
  cells : List Int
  at_ : Nat
  seed : Int
  cnt : Int
structure BagOk (b : Bag) : Prop where
  lo : 0 ≤ b.seed
  hi : b.seed < 2 ^ 31
abbrev Bc (B C : Addr) : Addr → Prop := fun a => a = B ∨ a = C
structure BagAt (F H : Hp) (B C : Addr) (b : Bag) : Prop where
  hB : H B = some (.lst [.ref C, .int (b.at_ : Nat), .int b.seed, .int b.cnt])
  hC : H C = some (.lst (b.cells.map V.int))
  ne : B ≠ C
  fB : F B = none
  fC : F C = none
section
variable {M : Addr → Prop} {F0 H0 F H F' H' : Hp} {p q B C : Addr} {o : HO} {b b' : Bag} {ws : List V}
theorem BagAt.frz (a : BagAt F H B C b) (hq : H q = none) : BagAt (upd F q o) (upd H q o) B C b :=
  have n1 := ne_of_none a.hB hq
  have n2 := ne_of_none a.hC hq
  ⟨(upd_ne n1).trans a.hB, (upd_ne n2).trans a.hC, a.ne, (upd_ne n1).trans a.fB, (upd_ne n2).trans a.fC⟩
theorem BagAt.own (a : BagAt F H B C b) (hq : H q = none) : BagAt F (upd H q o) B C b :=
  have n1 := ne_of_none a.hB hq
  have n2 := ne_of_none a.hC hq
  ⟨(upd_ne n1).trans a.hB, (upd_ne n2).trans a.hC, a.ne, a.fB, a.fC⟩
theorem BagAt.nb (a : BagAt F H B C b) (hq : H q = none) : ¬ Bc B C q := fun z => by
  rcases z with z | z
  · exact ne_of_none a.hB hq z.symm
  · exact ne_of_none a.hC hq z.symm
theorem BagAt.other (a : BagAt F H B C b) (m : ¬ Bc B C q) : BagAt F (upd H q o) B C b :=
  have n1 : B ≠ q := fun z => m (.inl z.symm)
  have n2 : C ≠ q := fun z => m (.inr z.symm)
  ⟨(upd_ne n1).trans a.hB, (upd_ne n2).trans a.hC, a.ne, a.fB, a.fC⟩
theorem BagAt.fz (a : BagAt F H B C b) (m : ¬ Bc B C q) : BagAt (upd F q o) H B C b :=
  have n1 : B ≠ q := fun z => m (.inl z.symm)
  have n2 : C ≠ q := fun z => m (.inr z.symm)
  ⟨a.hB, a.hC, a.ne, (upd_ne n1).trans a.fB, (upd_ne n2).trans a.fC⟩
theorem BagAt.gr0 (a : BagAt F H B C b) (g : Gr M0 F H F' H') : BagAt F' H' B C b :=
  ⟨g.keep _ _ id a.hB, g.keep _ _ id a.hC, a.ne, g.new _ (by rw [a.hB]; simp) a.fB, g.new _ (by rw [a.hC]; simp) a.fC⟩
/-- a promise over the whole heap as what stays: the caller's own part stays apart -/
theorem Gr.apart (g : Gr M F0 H0 F H) (k : Gr M0 H H F' H') : Gr M F0 H0 F H' :=
  ⟨g.fh.trans fun a o e => k.keep a o id e, g.ff, fun a o m e => k.keep a o id (g.keep a o m e), fun a e => k.there a (g.there a e), g.new⟩
theorem Ow.apart (w : Ow H0 F H p ws) (k : Gr M0 H H F' H') : Ow H0 F H' p ws := ⟨k.keep _ _ id w.h, w.nF, w.n0⟩
theorem BagAt.apart (a : BagAt F H B C b) (k : Gr M0 H H F' H') : BagAt F H' B C b := ⟨k.keep _ _ id a.hB, k.keep _ _ id a.hC, a.ne, a.fB, a.fC⟩
end
end G
namespace G
open PySem PySem.Spec PyProof.Rows L2 TL
/-! ### loops' ends in the makings -/
def lpK {S R T : Type} (l : Lp S R) (f : S → Option T) (g : R → Option T) : Option T := match l with
  | .go s => f s
  | .ret r => g r
def bindL0 {R T : Type} (o : Option (Lp Unit R)) (f : Option T) (g : R → Option T) : Option T := o.bind fun l => lpK l (fun _ => f) g
def bindL1 {α R T : Type} (o : Option (Lp α R)) (f : α → Option T) (g : R → Option T) : Option T := o.bind fun l => lpK l f g
def bindL2 {α β R T : Type} (o : Option (Lp (α × β) R)) (f : α → β → Option T) (g : R → Option T) : Option T := o.bind fun l => lpK l (fun s => f s.1 s.2) g
def bindL3 {α β γ R T : Type} (o : Option (Lp (α × β × γ) R)) (f : α → β → γ → Option T) (g : R → Option T) : Option T := o.bind fun l => lpK l (fun s => f s.1 s.2.1 s.2.2) g
def bindL4 {α β γ δ R T : Type} (o : Option (Lp (α × β × γ × δ) R)) (f : α → β → γ → δ → Option T) (g : R → Option T) : Option T := o.bind fun l => lpK l (fun s => f s.1 s.2.1 s.2.2.1 s.2.2.2) g
section
variable {α β γ δ R T : Type} {g : R → Option T} {r : R} {t : T}
theorem bndL0 {o : Option (Lp Unit R)} {f : Option T} (h : bindL0 o f g = some t) : ∃ l, o = some l ∧ lpK l (fun _ => f) g = some t := Option.bind_eq_some_iff.mp h
theorem bndL1 {o : Option (Lp α R)} {f : α → Option T} (h : bindL1 o f g = some t) : ∃ l, o = some l ∧ lpK l f g = some t := Option.bind_eq_some_iff.mp h
theorem bndL2 {o : Option (Lp (α × β) R)} {f : α → β → Option T} (h : bindL2 o f g = some t) : ∃ l, o = some l ∧ lpK l (fun s => f s.1 s.2) g = some t := Option.bind_eq_some_iff.mp h
theorem bndL3 {o : Option (Lp (α × β × γ) R)} {f : α → β → γ → Option T} (h : bindL3 o f g = some t) : ∃ l, o = some l ∧ lpK l (fun s => f s.1 s.2.1 s.2.2) g = some t := Option.bind_eq_some_iff.mp h
theorem bndL4 {o : Option (Lp (α × β × γ × δ) R)} {f : α → β → γ → δ → Option T} (h : bindL4 o f g = some t) : ∃ l, o = some l ∧ lpK l (fun s => f s.1 s.2.1 s.2.2.1 s.2.2.2) g = some t := Option.bind_eq_some_iff.mp h
theorem bgo0 {f : Option T} (h : lpK (.go ()) (fun _ => f) g = some t) : f = some t := h
theorem bgo1 {f : α → Option T} {a : α} (h : lpK (.go a) f g = some t) : f a = some t := h
theorem bgo2 {f : α → β → Option T} {a : α} {b : β} (h : lpK (.go (a, b)) (fun s => f s.1 s.2) g = some t) : f a b = some t := h
theorem bgo3 {f : α → β → γ → Option T} {a : α} {b : β} {c : γ} (h : lpK (.go (a, b, c)) (fun s => f s.1 s.2.1 s.2.2) g = some t) : f a b c = some t := h
theorem bgo4 {f : α → β → γ → δ → Option T} {a : α} {b : β} {c : γ} {d : δ} (h : lpK (.go (a, b, c, d)) (fun s => f s.1 s.2.1 s.2.2.1 s.2.2.2) g = some t) : f a b c d = some t := h
theorem bret {S : Type} {f : S → Option T} (h : lpK (.ret r) f g = some t) : g r = some t := h
end
/-- ranges -/
def rangeL (lo : Int) (n : Nat) : List Int := (List.range n).map fun k => lo + (k : Nat)
theorem rangeL_at {lo : Int} {n i : Nat} (h : i < n) : (rangeL lo n)[i]? = some (lo + (i : Nat)) := by
  unfold rangeL
  rw [List.getElem?_map, List.getElem?_range h]
  rfl
theorem rangeL_len (lo : Int) (n : Nat) : (rangeL lo n).length = n := by unfold rangeL; simp
def rangeO (lo hi : Int) : Option (List Int) := if (-(2 ^ 62) ≤ lo ∧ lo < 2 ^ 62 ∧ -(2 ^ 62) ≤ hi ∧ hi < 2 ^ 62) ∧ (hi - lo).toNat ≤ sizeLine then some (rangeL lo (hi - lo).toNat) else none
theorem rangeO_ok {lo hi : Int} {l : List Int} (h : rangeO lo hi = some l) : ((-(2 ^ 62) ≤ lo ∧ lo < 2 ^ 62 ∧ -(2 ^ 62) ≤ hi ∧ hi < 2 ^ 62) ∧ (hi - lo).toNat ≤ sizeLine) ∧ rangeL lo (hi - lo).toNat = l := by
  unfold rangeO at h
  split at h
  · exact ⟨by assumption, Option.some.inj h⟩
  · cases h
def appL {α : Type} (xs : List α) (x : α) : Option (List α) := if xs.length < sizeLine then some (xs ++ [x]) else none
theorem appL_ok {α : Type} {xs r : List α} {x : α} (h : appL xs x = some r) : xs.length < sizeLine ∧ xs ++ [x] = r := by
  unfold appL at h
  split at h
  · exact ⟨by assumption, Option.some.inj h⟩
  · cases h
def conL {α : Type} (xs ys : List α) : Option (List α) := if xs.length + ys.length ≤ sizeLine then some (xs ++ ys) else none
theorem conL_ok {α : Type} {xs ys r : List α} (h : conL xs ys = some r) : xs.length + ys.length ≤ sizeLine ∧ xs ++ ys = r := by
  unfold conL at h
  split at h
  · exact ⟨by assumption, Option.some.inj h⟩
  · cases h
def cutL {α : Type} (xs : List α) (lo hi : Option Int) : List α := (xs.drop (HT.sIx xs.length 0 lo)).take (HT.sIx xs.length xs.length hi - HT.sIx xs.length 0 lo)
theorem str_at {x : Str} {i c : Nat} (h : x.cps[i]? = some c) : (tl x)[i]? = some c := by simpa [tl] using h
theorem str_size {x : Str} : x.cps.size = (tl x).length := by simp [tl]
theorem lt_line {a i n : Nat} (h : a ≤ i) (h2 : i < n) (h3 : n ≤ sizeLine) : a < sizeLine := by omega
theorem snoc_rest {α : Type} {ds rest res : List α} {x : α} (h : ds ++ (x :: rest) = res) : (ds ++ [x]) ++ rest = res := by rw [← h, List.append_assoc]; rfl
theorem sjoin {α : Type} {a b : α} (h : some a = some b) : a = b := Option.some.inj h
end G
/-! My base, part 5: more peeling, walks over texts, lists' operations. -/
namespace G
open PySem PySem.Spec PyProof.Rows L2 TL

section
variable {D : Ends} {σ : L2.St} {H : Hp} {t u : TS} {te : TE} {g : TG} {c : TT} {wi : TI} {i : Nat} {v : V} {k : L2.St → Hp → Prop}
theorem p_next (h : D.nx σ H) : tNext D σ H := h
theorem p_cont (h : D.ct σ H) : tCont D σ H := h
theorem p_brk (h : D.bk σ H) : tBreak D σ H := h
theorem p_name (h : k (σ.set i (some v)) H) : gName i v σ H k := h
theorem p_nm {v' : V} (e : v = v') (h : k (σ.set i (some v')) H) : gName i v σ H k := by subst e; exact h
theorem p_nx {f : L2.St → Hp → Prop} {r : VK} {bk ct : L2.St → Hp → Prop} (h : f σ H) : (Ends.mk f r bk ct).nx σ H := h
theorem p_yes {A B : Hp → Prop} (h : A H) : tYes σ H (fun b H3 => if b = true then A H3 else B H3) := h
theorem p_for (h : tFor wi g t D σ H) : tFor wi g t D σ H := h
theorem p_id (h : t D σ H) : t D σ H := h
end
theorem pjoin {α β : Type} {a c : α} {b d : β} (h : some (a, b) = some (c, d)) : a = c ∧ b = d := by
  injection h with h
  injection h with h1 h2
  exact ⟨h1, h2⟩
theorem pjoin3 {α β γ : Type} {a a' : α} {b b' : β} {c c' : γ} (h : some (a, b, c) = some (a', b', c')) : a = a' ∧ b = b' ∧ c = c' := by
  injection h with h
  injection h with h1 h2
  injection h2 with h2 h3
  exact ⟨h1, h2, h3⟩
theorem pjoin4 {α β γ δ : Type} {a a' : α} {b b' : β} {c c' : γ} {d d' : δ} (h : some (a, b, c, d) = some (a', b', c', d')) : a = a' ∧ b = b' ∧ c = c' ∧ d = d' := by
  injection h with h
  injection h with h1 h2
  injection h2 with h2 h3
  injection h3 with h3 h4
  exact ⟨h1, h2, h3, h4⟩
theorem pjoin5 {α β γ δ ε : Type} {a a' : α} {b b' : β} {c c' : γ} {d d' : δ} {e e' : ε} (h : some (a, b, c, d, e) = some (a', b', c', d', e')) : a = a' ∧ b = b' ∧ c = c' ∧ d = d' ∧ e = e' := by
  injection h with h
  injection h with h1 h2
  injection h2 with h2 h3
  injection h3 with h3 h4
  injection h4 with h4 h5
  exact ⟨h1, h2, h3, h4, h5⟩

/-! ### parts whose value is told -/
def tVal (t : TE) : TE := fun σ H Q => ∃ v, (∀ Q' : VK, Q' v H → t σ H Q') ∧ Q v H
def tValT (t : TT) : TT := fun σ H Q => ∃ b, (∀ Q' : Bool → Hp → Prop, Q' b H → t σ H Q') ∧ Q b H
section
variable {X : Cx}
theorem pe_val {e : Expr} {t : TE} (h : PE X e t) : PE X e (tVal t) := ⟨fun pins s σ H Q I q => by
  obtain ⟨v, k, q⟩ := q
  exact h.run pins s σ H Q I (k Q q)⟩
theorem pt_valT {e : Expr} {t : TT} (h : PT X e t) : PT X e (tValT t) := ⟨fun pins s σ H Q I q => by
  obtain ⟨v, k, q⟩ := q
  exact h.run pins s σ H Q I (k Q q)⟩
end
section
variable {a b : Bool} {H : Hp}
theorem qTv {Q : VK} (h : a = true) (q : Q (.bl (a && b)) H) : Q (.bl b) H := by subst h; exact q
theorem qFv {Q : VK} (h : a = false) (q : Q (.bl (a && b)) H) : Q (.bl false) H := by subst h; exact q
theorem qTb {Q : Bool → Hp → Prop} (h : a = true) (q : Q (a && b) H) : Q b H := by subst h; exact q
theorem qFb {Q : Bool → Hp → Prop} (h : a = false) (q : Q (a && b) H) : Q false H := by subst h; exact q
end
section
variable {F H : Hp} {σ : L2.St} {ta tb : TE} {Q : VK} {a b : Bool}
theorem andV_t (h1 : EvB M0 F H (fun Q => ta σ H Q) a) (h2 : a = true → ∀ F1 H1, Gr M0 F H F1 H1 → EvB M0 F1 H1 (fun Q => tb σ H1 Q) b)
    (q : ∀ F' H', Gr M0 F H F' H' → Q (.bl (a && b)) H') : tAndV ta tb σ H Q :=
  andV_g (c := a && b) h1 (fun e F1 H1 g => by rw [e]; exact h2 e F1 H1 g) (fun e => by rw [e]; rfl) q
theorem orV_t (h1 : EvB M0 F H (fun Q => ta σ H Q) a) (h2 : a = false → ∀ F1 H1, Gr M0 F H F1 H1 → EvB M0 F1 H1 (fun Q => tb σ H1 Q) b)
    (q : ∀ F' H', Gr M0 F H F' H' → Q (.bl (a || b)) H') : tOrV ta tb σ H Q :=
  orV_g (c := a || b) h1 (fun e F1 H1 g => by rw [e]; exact h2 e F1 H1 g) (fun e => by rw [e]; rfl) q
theorem andT_t {ta tb : TT} {Q : Bool → Hp → Prop} (h1 : EvT M0 F H (fun Q => ta σ H Q) a) (h2 : a = true → ∀ F1 H1, Gr M0 F H F1 H1 → EvT M0 F1 H1 (fun Q => tb σ H1 Q) b)
    (q : ∀ F' H', Gr M0 F H F' H' → Q (a && b) H') : tAnd ta tb σ H Q :=
  andT_g (c := a && b) h1 (fun e F1 H1 g => by rw [e]; exact h2 e F1 H1 g) (fun e => by rw [e]; rfl) q
theorem orT_t {ta tb : TT} {Q : Bool → Hp → Prop} (h1 : EvT M0 F H (fun Q => ta σ H Q) a) (h2 : a = false → ∀ F1 H1, Gr M0 F H F1 H1 → EvT M0 F1 H1 (fun Q => tb σ H1 Q) b)
    (q : ∀ F' H', Gr M0 F H F' H' → Q (a || b) H') : tOr ta tb σ H Q :=
  orT_g (c := a || b) h1 (fun e F1 H1 g => by rw [e]; exact h2 e F1 H1 g) (fun e => by rw [e]; rfl) q
end

/-! ### e if c else e', behind its test -/
section
variable {M : Addr → Prop} {F H : Hp} {σ : L2.St} {ta tb : TE} {Q : VK} {c : Bool}
theorem ifJ {P : V → Hp → Hp → Prop} (h2 : c = true → ∀ Q : VK, (∀ v F' H', Gr M F H F' H' → P v F' H' → Q v H') → ta σ H Q)
    (h3 : c = false → ∀ Q : VK, (∀ v F' H', Gr M F H F' H' → P v F' H' → Q v H') → tb σ H Q)
    (q : ∀ v F' H', Gr M F H F' H' → P v F' H' → Q v H') : if c = true then ta σ H Q else tb σ H Q := by
  cases e : c with
  | true => exact iteT (h2 e Q q)
  | false => exact iteF (h3 e Q q)
end

section
variable {M : Addr → Prop} {F H : Hp} {σ : L2.St} {tb : TE} {ub : TT} {Q : VK} {U : Bool → Hp → Prop} {a c : Bool} {P : Hp → Hp → Prop}
theorem andJV (h2 : a = true → ∀ Q : VK, (∀ F' H', Gr M F H F' H' → P F' H' → Q (.bl c) H') → tb σ H Q) (h3 : a = false → c = false ∧ P F H) (fh : Same F H)
    (q : ∀ F' H', Gr M F H F' H' → P F' H' → Q (.bl c) H') : if a = true then tb σ H Q else Q (.bl false) H := by
  cases e : a with
  | true => exact iteT (h2 e Q q)
  | false =>
    obtain ⟨ec, p⟩ := h3 e
    subst ec
    exact iteF (q _ _ (Gr.refl fh) p)
theorem orJV (h2 : a = false → ∀ Q : VK, (∀ F' H', Gr M F H F' H' → P F' H' → Q (.bl c) H') → tb σ H Q) (h3 : a = true → c = true ∧ P F H) (fh : Same F H)
    (q : ∀ F' H', Gr M F H F' H' → P F' H' → Q (.bl c) H') : if a = true then Q (.bl true) H else tb σ H Q := by
  cases e : a with
  | false => exact iteF (h2 e Q q)
  | true =>
    obtain ⟨ec, p⟩ := h3 e
    subst ec
    exact iteT (q _ _ (Gr.refl fh) p)
theorem andJT (h2 : a = true → ∀ U : Bool → Hp → Prop, (∀ F' H', Gr M F H F' H' → P F' H' → U c H') → ub σ H U) (h3 : a = false → c = false ∧ P F H) (fh : Same F H)
    (q : ∀ F' H', Gr M F H F' H' → P F' H' → U c H') : if a = true then ub σ H U else U false H := by
  cases e : a with
  | true => exact iteT (h2 e U q)
  | false =>
    obtain ⟨ec, p⟩ := h3 e
    subst ec
    exact iteF (q _ _ (Gr.refl fh) p)
theorem orJT (h2 : a = false → ∀ U : Bool → Hp → Prop, (∀ F' H', Gr M F H F' H' → P F' H' → U c H') → ub σ H U) (h3 : a = true → c = true ∧ P F H) (fh : Same F H)
    (q : ∀ F' H', Gr M F H F' H' → P F' H' → U c H') : if a = true then U true H else ub σ H U := by
  cases e : a with
  | false => exact iteF (h2 e U q)
  | true =>
    obtain ⟨ec, p⟩ := h3 e
    subst ec
    exact iteT (q _ _ (Gr.refl fh) p)
end
theorem qOv {a b : Bool} {H : Hp} {Q : VK} (h : a = false) (q : Q (.bl (a || b)) H) : Q (.bl b) H := by subst h; exact q
theorem qOb {a b : Bool} {H : Hp} {Q : Bool → Hp → Prop} (h : a = false) (q : Q (a || b) H) : Q b H := by subst h; exact q
theorem anF {a b : Bool} (h : a = false) : (a && b) = false := by rw [h]; rfl
theorem orTt {a b : Bool} (h : a = true) : (a || b) = true := by rw [h]; rfl
theorem ifTr {c : Bool} {A B : Prop} (h : c = true) (q : A) : if c = true then A else B := by rw [if_pos h]; exact q
theorem ifFr {c : Bool} {A B : Prop} (h : c = false) (q : B) : if c = true then A else B := by rw [if_neg (by rw [h]; decide)]; exact q

/-! ### None -/
class NN (α : Type) [Enc α] : Prop where
  ne : ∀ x : α, Enc.d x ≠ .none
instance : NN Int := ⟨fun _ => nofun⟩
instance : NN Bool := ⟨fun _ => nofun⟩
instance : NN Str := ⟨fun _ => nofun⟩
instance {α : Type} [Enc α] : NN (List α) := ⟨fun _ => nofun⟩
instance {α : Type} [Enc α] : NN (VT α) := ⟨fun _ => nofun⟩
instance {α β : Type} [Enc α] [Enc β] : NN (α × β) := ⟨fun _ => nofun⟩
instance {α β γ : Type} [Enc α] [Enc β] [Enc γ] : NN (T3 α β γ) := ⟨fun _ => nofun⟩
instance {α β γ δ : Type} [Enc α] [Enc β] [Enc γ] [Enc δ] : NN (T4 α β γ δ) := ⟨fun _ => nofun⟩
instance {α β γ δ ε : Type} [Enc α] [Enc β] [Enc γ] [Enc δ] [Enc ε] : NN (T5 α β γ δ ε) := ⟨fun _ => nofun⟩
theorem isN_eq {α : Type} [Enc α] [NN α] {K : PySem.W.Frag} {F : Hp} {v : V} {o : Option α} (r : R K F v o) : decide (v = .non) = o.isNone := by
  cases o with
  | none =>
    have e := R.non_v r
    subst e
    rfl
  | some x =>
    have r' : Rp K F v (Enc.d x) := r
    have h : v ≠ .non := fun e => by
      subst e
      have n := NN.ne x
      revert r' n
      generalize Enc.d x = d
      intro r' n
      cases r'
      exact n rfl
    exact decide_eq_false h

/-! ### walks over texts -/
theorem str_lt {x : Str} {i c : Nat} (h : x.cps[i]? = some c) : i < x.cps.size := (Array.getElem?_eq_some_iff.mp h).1
theorem for_str {z : Str} {g : TG} {tb : TS} {D : Ends} {σ : L2.St} {H : Hp} (Pv : Nat → L2.St → Hp → Prop) (h0 : Pv 0 σ H)
    (hs : ∀ i c σ H, z.cps[i]? = some c → Pv i σ H → g (.str (sgn c)) σ H fun σ2 H2 => tb { D with nx := Pv (i + 1), ct := Pv (i + 1), bk := D.nx } σ2 H2) (hd : ∀ σ H, Pv z.cps.size σ H → D.nx σ H) :
    ∃ W : Nat → Nat → L2.St → Hp → Prop, (∃ m, W 0 m σ H) ∧ ∀ i m σ H, W i m σ H →
      ((Its z).stop i H ∧ D.nx σ H) ∨ ((Its z).go i H ∧ ∃ N : L2.St → Hp → Prop, (∀ σ' H', N σ' H' → ∃ m', m' < m ∧ W (i + 1) m' σ' H') ∧ ∀ x H', (Its z).yld i H x H' → g x σ H' fun σ2 H2 => tb { D with nx := N, ct := N, bk := D.nx } σ2 H2) :=
  for_it walk_str Pv h0 (fun _ _ _ _ _ => trivial) (fun i x σ H H' _ p y => by
    obtain ⟨rfl, c, hc, rfl⟩ := y
    exact hs i c σ _ hc p) hd
theorem lc_str {z : Str} {g : TG} {tt : TT} {te : TE} {vs : List Nat} {σ : L2.St} {H1 : Hp} {D : Addr} {Qd : Hp → Prop} (Pv : Nat → Hp → Prop) (h0 : Pv 0 (upd H1 D (.lst [])))
    (hs : ∀ i c H, z.cps[i]? = some c → Pv i H → g (.str (sgn c)) (wipe σ vs) H fun σ2 H2 => wipe σ2 vs = wipe σ vs ∧ tt σ2 H2 fun b H3 =>
      if b = true then te σ2 H3 fun y H4 => ∃ acc, H4 D = some (.lst acc) ∧ acc.length < sizeLine ∧ Pv (i + 1) (upd H4 D (.lst (acc ++ [y]))) else Pv (i + 1) H3) (hd : ∀ H, Pv z.cps.size H → Qd H) :
    ∃ W : Nat → Nat → Hp → Prop, (∃ m, W 0 m (upd H1 D (.lst []))) ∧ ∀ i m H, W i m H →
      ((Its z).stop i H ∧ Qd H) ∨ ((Its z).go i H ∧ ∃ Nx : Hp → Prop, (∀ H', Nx H' → ∃ m', m' < m ∧ W (i + 1) m' H') ∧ ∀ x H', (Its z).yld i H x H' → g x (wipe σ vs) H' fun σ2 H2 => wipe σ2 vs = wipe σ vs ∧ tt σ2 H2 fun b H3 =>
        if b = true then te σ2 H3 fun y H4 => ∃ acc, H4 D = some (.lst acc) ∧ acc.length < sizeLine ∧ Nx (upd H4 D (.lst (acc ++ [y]))) else Nx H3) :=
  lc_it walk_str Pv h0 (fun _ _ _ _ => trivial) (fun i x H H' _ p y => by
    obtain ⟨rfl, c, hc, rfl⟩ := y
    exact hs i c _ hc p) hd

/-! ### ranges from nought, lists -/
def rangeO1 (hi : Int) : Option (List Int) := if (-(2 ^ 62) ≤ hi ∧ hi < 2 ^ 62) ∧ hi.toNat ≤ sizeLine then some (rangeL 0 hi.toNat) else none
theorem rangeO1_ok {hi : Int} {l : List Int} (h : rangeO1 hi = some l) : ((-(2 ^ 62) ≤ hi ∧ hi < 2 ^ 62) ∧ hi.toNat ≤ sizeLine) ∧ rangeL 0 hi.toNat = l := by
  unfold rangeO1 at h
  split at h
  · exact ⟨by assumption, Option.some.inj h⟩
  · cases h
def setL {α : Type} (xs : List α) (i : Int) (x : α) : Option (List α) := (ixN xs.length i).map fun j => xs.set j x
theorem setL_ok {α : Type} {xs r : List α} {i : Int} {x : α} (h : setL xs i x = some r) : ∃ j, ixN xs.length i = some j ∧ xs.set j x = r := by
  unfold setL at h
  cases e : ixN xs.length i with
  | none => rw [e] at h; cases h
  | some j =>
    rw [e] at h
    exact ⟨j, rfl, Option.some.inj h⟩
/-- sorted whole numbers -/
def sortI (xs : List Int) : List Int := xs.mergeSort fun a b => decide (a ≤ b)
theorem sortI_perm (xs : List Int) : (sortI xs).Perm xs := List.mergeSort_perm _ _
theorem sortI_sorted (xs : List Int) : (sortI xs).Pairwise (· ≤ ·) := by
  have h := List.pairwise_mergeSort (le := fun a b : Int => decide (a ≤ b)) (fun a b c h1 h2 => decide_eq_true (Int.le_trans (of_decide_eq_true h1) (of_decide_eq_true h2)))
    (fun a b => by
      rcases Int.le_total a b with h | h
      · rw [decide_eq_true h]; rfl
      · rw [decide_eq_true h, Bool.or_true]) xs
  exact h.imp fun h => of_decide_eq_true h
theorem sortI_len (xs : List Int) : (sortI xs).length = xs.length := (sortI_perm xs).length_eq
theorem sorted_uniq : ∀ {xs ys : List Int}, xs.Perm ys → xs.Pairwise (· ≤ ·) → ys.Pairwise (· ≤ ·) → xs = ys
  | xs, ys, h, h1, h2 => h.eq_of_pairwise (le := (· ≤ ·)) (fun a b _ _ h3 h4 => Int.le_antisymm h3 h4) h1 h2
theorem sortI_uniq {ns ys : List Int} (h : ys.Perm ns) (h2 : ys.Pairwise (· ≤ ·)) : sortI ns = ys :=
  sorted_uniq ((sortI_perm ns).trans h.symm) (sortI_sorted ns) h2

/-! ### texts: what is stripped, joined -/
theorem GS.sub {x y : Str} (g : GS x) (h : ∀ c ∈ tl y, c ∈ tl x) (hl : (tl y).length ≤ (tl x).length) : GS y := GS.of (Nat.le_trans hl g.tll) fun c hc => g.mem c (h c hc)
theorem GS.join {sep r : Str} {ys : List Str} (gs : GS sep) (gy : ∀ y ∈ ys, GS y) (h : joinS sep ys = some r) : GS r := by
  obtain ⟨h1, rfl⟩ := joinS_ok h
  refine GS.of ?_ fun c hc => ?_
  · rw [← len_tl]
    have e : Txt.join sep ys = Str.join sep ys := by unfold Txt.join; exact StrLaws.glued_eq_join sep ys
    rw [e]
    refine Nat.le_trans (StrLaws.join_length_le sep ys) ?_
    rw [sizeLine_eq]
    exact h1
  · rw [tl_joinS] at hc
    have mem : ∀ (l : List (List Nat)), c ∈ joinL (tl sep) l → c ∈ tl sep ∨ ∃ p ∈ l, c ∈ p := by
      intro l
      induction l with
      | nil => intro h; cases h
      | cons p r ih =>
        cases r with
        | nil => intro h; exact .inr ⟨p, List.mem_singleton.mpr rfl, h⟩
        | cons q r =>
          intro h
          rcases List.mem_append.mp (show c ∈ p ++ (tl sep ++ joinL (tl sep) (q :: r)) from h) with h | h
          · exact .inr ⟨p, List.mem_cons_self .., h⟩
          · rcases List.mem_append.mp h with h | h
            · exact .inl h
            · rcases ih h with h | ⟨p', hp, h⟩
              · exact .inl h
              · exact .inr ⟨p', List.mem_cons_of_mem _ hp, h⟩
    rcases mem _ hc with h | ⟨p, hp, h⟩
    · exact gs.mem c h
    · obtain ⟨y, hy, rfl⟩ := List.mem_map.mp hp
      exact (gy y hy).mem c h
theorem GS.strip {x : Str} (g : GS x) (y : Str) : GS (Txt.stripChars x y) := by
  unfold Txt.stripChars Txt.stripBy
  split
  · exact g
  · have e : ∀ i j, tl (Builtin.Str.strSub x i j) = ((tl x).take j).drop i := fun i j => by
      show (x.cps.extract i j).toList = _
      rw [List.drop_take]
      simp [tl]
    refine g.sub (fun c hc => ?_) ?_
    · unfold stripped at hc
      rw [e] at hc
      exact List.mem_of_mem_take (List.mem_of_mem_drop hc)
    · unfold stripped
      rw [e, List.length_drop, List.length_take]
      omega
end G
/-! My base, part 6: defs by data. -/
namespace G
open PySem PySem.Spec PyProof.Rows L2 TL
abbrev FnP (K : PySem.W.Frag) (x : Str) (st : Stmt) (f : Addr) (fd : FuncData) : Prop := FunD K x x (defArgs st) (defBody st) (defScope st) [] [] f fd
section
variable {P : Program} {w : World} {K : PySem.W.Frag} {mg : Str → Option Value} {base : Heap} {x qual : Str} {params : Arguments} {body : List Stmt} {scope : Scope} {f : Addr} {fd : FuncData}
theorem fd_ok {N ps : List Str} {k : Nat} {sp : Sp} (F : FunD K x qual params body scope [] [] f fd) (S : FnScope N ps scope) (len : ∀ vs H Q E, sp vs H Q E → vs.length = ps.length)
    (hbody : ∀ (cdv : Value) (A : Around) (outer : List Env) (s : Shared) (H : Hp) (vs : List V) (Q : VK) (E : XK), Room k (A.deeper (envOfC qual scope s.heap.objs.size f cdv)) → sp vs H Q E →
      ∃ t, PSs (cxOf CX0 P w K mg base N qual scope f cdv A outer s H E).nox body t ∧ t { nx := fun _ H' => Q .non H', rt := Q } (start N vs) H) : FnOk P w K mg base CX0 (k + 1) f fd ps sp :=
  FunD.ok F S len fun cdv A outer s H vs Q E hr hsp =>
    let ⟨t, h, q⟩ := hbody cdv A outer s H vs Q E hr hsp
    ⟨t, h.nox, q⟩
theorem fd_plain (F : FunD K x qual params body scope [] [] f fd) : ∃ kV doc pm an cdv ct, fd = PySem.W.fnOf x qual params body scope .none kV doc pm an cdv ct := by
  obtain ⟨oc, od, dV, kV, doc, pm, an, cdv, ct, osl, rfl, lk, hcd, hD, hK⟩ := F.ex
  rcases hD with ⟨_, rfl⟩ | ⟨e, _⟩
  · exact ⟨kV, doc, pm, an, cdv, ct, rfl⟩
  · exact absurd rfl e
end
end G
/-! My base, part 7: a text turned round. -/
namespace G
open PySem PySem.Spec PyProof.Rows L2 TL
def revS (x : Str) : Str := ⟨(tl x).reverse.toArray⟩
theorem tl_revS (x : Str) : tl (revS x) = (tl x).reverse := by unfold revS tl; simp
theorem revS_len (x : Str) : (revS x).length = x.length := by rw [len_tl, tl_revS, List.length_reverse, ← len_tl]
theorem GS.rev {x : Str} (g : GS x) : GS (revS x) := g.sub (fun c hc => by rw [tl_revS] at hc; exact List.mem_reverse.mp hc) (by rw [tl_revS, List.length_reverse]; exact Nat.le_refl _)
theorem rev_pick (z : Str) : (⟨((Builtin.Str.strSliceIndices none none (-1) z.length).filterMap (z.cps[·]?)).toArray⟩ : Str) = revS z := by
  have h := step_rev_list z default
  unfold Txt.sliceBy slicePicked at h
  rw [if_neg (by intro h; exact absurd (Bool.and_eq_true_iff.mp h).1 (by decide))] at h
  unfold revS
  have e2 : (tl z).reverse = (List.range z.length).map fun k => z.cps.getD (z.length - 1 - k) 0 := by
    refine List.ext_getElem (by rw [List.length_reverse, List.length_map, List.length_range, ← len_tl]) fun i h1 h2 => ?_
    rw [List.getElem_reverse, List.getElem_map, List.getElem_range]
    have hi : i < z.length := by rw [List.length_reverse, ← len_tl] at h1; exact h1
    have hz : z.cps.size = z.length := rfl
    simp only [tl, Array.getElem_toList, Array.length_toList]
    rw [Array.getD, dif_pos (show z.length - 1 - i < z.cps.size by omega)]
    rfl
  rw [e2, ← h]
  rfl
def tRevS (te : TE) : TE := fun σ H Q => te σ H fun x H1 => ∃ z, x = .str z ∧ z.length ≤ sizeLine ∧ Q (.str (revS z)) H1
theorem pe_revS {X : Cx} {e : Expr} {te : TE} {k : Nat} {p1 p2 p3 pos : Pos} (he : PE X e te) : PE X (.Subscript e (.Slice none none (some (.UnaryOp .USub (.Constant (.int 1) k p1) p2)) p3) pos) (tRevS te) := by
  refine ⟨fun pins s σ H Q I h => ?_⟩
  refine Subscript_ (thn (he.run pins s σ H _ I h) fun v s1 ⟨x, H1, I1, r1, q1⟩ => ?_)
  obtain ⟨z, ex, hz, q⟩ := q1
  subst ex
  obtain ⟨t, rfl⟩ := r1
  have hst : PO X (some (.UnaryOp .USub (.Constant (.int 1) k p1) p2)) (tPart (tUn (rU fun i => .int (-i)) (tC (.int 1)))) := po_some (pe_un un_neg pe_int)
  refine wpAny_Slice (thn (po_none.run pins s1 σ H1 (fun o H2 => o = none ∧ H2 = H1) I1 ⟨rfl, rfl⟩) fun vl s2 ⟨l, H2, I2, pl, el, e2⟩ => ?_)
  subst el e2
  refine thn (po_none.run pins s2 σ H2 (fun o H3 => o = none ∧ H3 = H2) I2 ⟨rfl, rfl⟩) fun vu s3 ⟨u, H3, I3, pu, eu, e3⟩ => ?_
  subst eu e3
  refine thn (hst.run pins s3 σ H3 (fun o H4 => o = some (-1) ∧ H4 = H3) I3 ⟨1, rfl, -1, rfl, rfl, rfl⟩) fun vs s4 ⟨o, H4, I4, ps, eo, e4⟩ => ?_
  subst eo e4
  have I5 : Inv X pins σ H4 { s4 with heap := s4.heap.push { cls := .type "slice", data := .fields #[vl, vu, vs] } } := I4.kept (t' := s4.toks) fun b ob q => Heap.get?_push_of_some _ q
  cases pl
  cases pu
  cases ps with | int _ t2 => ?_
  show wpAny (model X.prog X.w) X.A (subscriptTail e (.Slice none none (some (.UnaryOp .USub (.Constant (.int 1) k p1) p2)) p3) (.str z t) (.ref s4.heap.objs.size)) (EP X pins σ Q) X.xe { s4 with heap := s4.heap.push { cls := .type "slice", data := .fields #[.none, .none, .int (-1) t2] } }
  refine tail_any (ops := [.str z t, .ref s4.heap.objs.size]) (typeIs_str _ _ _) F.slot_str_getitem.lookup ?_ (by with_unfolding_all rfl)
  obtain ⟨os, hos, hcs, hds⟩ := Heap.IsSliceOf.new s4.heap Value.none Value.none (Value.int (-1) t2)
  refine wpAny_getItem_str_slice (l := none) (u := none) (st := some (-1, t2)) ⟨os, hos, hcs, hds⟩ rfl ?_
  have e1 : sliceMade z t none none (some (-1, t2)) = .str (revS z) := by
    unfold sliceMade
    rw [if_neg (by intro h; exact absurd (show ((-1 : Int) == 1) = true from (Bool.and_eq_true_iff.mp h).1) (by decide))]
    exact congrArg Made.str (rev_pick z)
  rw [e1]
  have hl : (revS z).length ≤ sizeLine := by rw [revS_len]; exact hz
  exact ⟨hl, .str _, _, I5.tok _, ⟨_, rfl⟩, q⟩
end G
/-! My base, part 8: which type a thing is of; alike. -/
namespace G
open PySem PySem.Spec PyProof.Rows L2 TL
def tyD : PyData → String
  | .none => "NoneType"
  | .bool _ => "bool"
  | .int _ => "int"
  | .str _ => "str"
  | .list _ => "list"
  | .tuple _ => "tuple"
  | .dict _ => "dict"
def isSq (d : PyData) : Bool := tyD d == "list" || tyD d == "tuple"
section
variable {K : PySem.W.Frag} {F H : Hp} {v : V} {d : PyData} {a : Addr} {xs : List V}
theorem SqL.ty (h : SqL K H a xs) : TyX K H (.ref a) (.type "list") := by
  rcases h with (h | ⟨o, h⟩) | ⟨o, its, n, e, c, _⟩
  · exact .base (.lst h)
  · exact .base (.frz h)
  · exact .kList e c
theorem SqT.ty (h : SqT K H a xs) : TyX K H (.ref a) (.type "tuple") := by
  rcases h with (h | ⟨o, h⟩) | ⟨o, its, n, e, c, _⟩
  · exact .base (.tup h)
  · exact .fTuple h
  · exact .kTuple e c
theorem Rp.ty (h : Rp K H v d) : TyX K H v (.type (tyD d)) := by
  cases h with
  | non => exact .base .non
  | bl b => exact .base (.bl b)
  | int i => exact .base (.int i)
  | str x _ => exact .base (.str x)
  | lst hs _ _ => exact SqL.ty hs
  | tup hs _ _ => exact SqT.ty hs
/-- the six kinds -/
def Knd (s : String) : Prop := s = "NoneType" ∨ s = "bool" ∨ s = "int" ∨ s = "str" ∨ s = "list" ∨ s = "tuple"
theorem Rp.knd (h : Rp K H v d) : Knd (tyD d) := by
  cases h with
  | non => exact .inl rfl
  | bl _ => exact .inr (.inl rfl)
  | int _ => exact .inr (.inr (.inl rfl))
  | str _ _ => exact .inr (.inr (.inr (.inl rfl)))
  | lst _ _ _ => exact .inr (.inr (.inr (.inr (.inl rfl))))
  | tup _ _ _ => exact .inr (.inr (.inr (.inr (.inr rfl))))
theorem kit_two (s : String) (b c : Bool) (h1 : kitB s "list" = some b) (h2 : kitB s "tuple" = some c) : PySem.W.kitAny K (.type s) [.type "list", .type "tuple"] = some (b || c) := by
  refine kitAny_cons (b := b) (kit_ty h1) (fun hb => ?_) (fun hb => by rw [hb]; rfl)
  refine kitAny_cons (b := c) (kit_ty h2) (fun hc => ?_) (fun hc => by rw [hc, Bool.or_true])
  rw [hb, hc]
  exact kitAny_nil
theorem kit_lt {s : String} (h : Knd s) : PySem.W.kitAny K (.type s) [.type "list", .type "tuple"] = some (s == "list" || s == "tuple") := by
  rcases h with rfl | rfl | rfl | rfl | rfl | rfl <;> exact kit_two _ _ _ (by decide +kernel) (by decide +kernel)
theorem kit_one {s : String} (h : Knd s) (t : String) (ht : t = "list" ∨ t = "bool" ∨ t = "str") : PySem.W.kitOne K (.type s) (.type t) = some (s == t) := by
  rcases ht with rfl | rfl | rfl <;> rcases h with rfl | rfl | rfl | rfl | rfl | rfl <;> exact kit_ty (by decide +kernel)
theorem kit_int {s : String} (h : Knd s) : PySem.W.kitOne K (.type s) (.type "int") = some (s == "int" || s == "bool") := by
  rcases h with rfl | rfl | rfl | rfl | rfl | rfl <;> exact kit_ty (by decide +kernel)
end
/-- no value of the data is deeper than n -/
theorem depth_list {n : Nat} {ds : List PyData} (h : PyData.depthAll ds + 1 ≤ n + 1) {d : PyData} (hd : d ∈ ds) : d.depth ≤ n := by
  have : ∀ (l : List PyData), d ∈ l → d.depth ≤ PyData.depthAll l := by
    intro l
    induction l with
    | nil => intro h; cases h
    | cons x l ih =>
      intro h
      simp only [PyData.depthAll]
      rcases List.mem_cons.mp h with rfl | h
      · omega
      · have := ih h
        omega
  have := this ds hd
  omega
def sp_alike (n : Nat) (K : PySem.W.Frag) : Sp := fun vs H Q _ => ∃ (v1 v2 : V) (d : PyData), vs = [v1, v2] ∧ Rp K H v1 d ∧ Rp K H v2 d ∧ d.depth ≤ n ∧ (∀ F' H', Gr M0 H H F' H' → Q (.bl true) H')
theorem al_sc {K : PySem.W.Frag} {H : Hp} {v1 v2 : V} {d : PyData} (r1 : Rp K H v1 d) (r2 : Rp K H v2 d) (hc : (tyD d == "list" || tyD d == "tuple") = false) : v1 = v2 ∧ scal v1 v2 = true := by
  cases r1 with
  | non => cases r2; exact ⟨rfl, rfl⟩
  | bl b => cases r2; exact ⟨rfl, rfl⟩
  | int i => cases r2; exact ⟨rfl, rfl⟩
  | str x _ => cases r2; exact ⟨rfl, rfl⟩
  | lst h1 h2 h3 => exact absurd hc (by simp [tyD])
  | tup h1 h2 h3 => exact absurd hc (by simp [tyD])
theorem ix_go {K : PySem.W.Frag} {H : Hp} {p : Addr} {xs : List V} {i : Nat} {v : V} {Q : VK} (h : SqL K H p xs ∨ SqT K H p xs) (e : xs[i]? = some v) (q : Q v H) : rIx K (.ref p) (.int (0 + (i : Nat))) H Q := by
  have ha : atI xs (0 + (i : Nat)) = some v := by rw [Int.zero_add]; exact atI_nat e
  rcases h with h | h
  · exact .inl ⟨p, xs, _, v, rfl, rfl, h, ha, q⟩
  · exact .inr (.inl ⟨p, xs, _, v, rfl, rfl, h, ha, q⟩)
theorem sq_up {K : PySem.W.Frag} {H H' : Hp} {p : Addr} {xs : List V} (h : SqL K H p xs ∨ SqT K H p xs) (e : Same H H') : SqL K H' p xs ∨ SqT K H' p xs := by
  rcases h with h | h
  · exact .inl (e.seq h)
  · exact .inr (SqT_mono e h)
def spA : Nat → PySem.W.Frag → Sp
  | 0, _ => fun _ _ _ _ => False
  | n + 1, K => sp_alike n K
theorem al_sq {K : PySem.W.Frag} {H : Hp} {v1 v2 : V} {d : PyData} {n : Nat} (r1 : Rp K H v1 d) (r2 : Rp K H v2 d) (hc : (tyD d == "list" || tyD d == "tuple") = true) (hd : d.depth ≤ n) :
    ∃ a1 ws1 a2 ws2 ds m, v1 = .ref a1 ∧ v2 = .ref a2 ∧ (SqL K H a1 ws1 ∨ SqT K H a1 ws1) ∧ (SqL K H a2 ws2 ∨ SqT K H a2 ws2) ∧ ws1.length ≤ sizeLine ∧ ws2.length ≤ sizeLine ∧ RpA K H ws1 ds ∧ RpA K H ws2 ds ∧ n = m + 1 ∧ ∀ d ∈ ds, d.depth ≤ m := by
  cases r1 with
  | non => exact absurd hc (by decide)
  | bl b => exact absurd hc (by simp [tyD])
  | int i => exact absurd hc (by simp [tyD])
  | str x _ => exact absurd hc (by simp [tyD])
  | lst h1 h2 h3 =>
    cases r2 with
    | lst k1 k2 k3 =>
      cases n with
      | zero => exact absurd hd (Nat.not_succ_le_zero _)
      | succ m => exact ⟨_, _, _, _, _, m, rfl, rfl, .inl h1, .inl k1, h2, k2, h3, k3, rfl, fun d hd2 => depth_list hd hd2⟩
  | tup h1 h2 h3 =>
    cases r2 with
    | tup k1 k2 k3 =>
      cases n with
      | zero => exact absurd hd (Nat.not_succ_le_zero _)
      | succ m => exact ⟨_, _, _, _, _, m, rfl, rfl, .inr h1, .inr k1, h2, k2, h3, k3, rfl, fun d hd2 => depth_list hd hd2⟩
theorem R.of_eq {α : Type} [Enc α] {K : PySem.W.Frag} {F : Hp} {v : V} {x y : α} (h : x = y) (r : R K F v y) : R K F v x := by rw [h]; exact r
theorem retQ {e : Bool} {Q : VK} {H : Hp} (h : e = true) (q : Q (.bl true) H) : Q (.bl e) H := by rw [h]; exact q
def m_l_alike {α : Type} [DecidableEq α] (x y : α) : Option Bool := if x = y then some true else none
theorem alike_ok {α : Type} [DecidableEq α] {x y : α} {r : Bool} (h : m_l_alike x y = some r) : x = y ∧ true = r := by
  unfold m_l_alike at h
  split at h
  · exact ⟨by assumption, Option.some.inj h⟩
  · cases h
theorem op_powW {X : Cx} : OpR X (binaryOp .Pow) (rI (fun i j => 0 ≤ j ∧ (Builtin.Int.intBits i : Int) * j ≤ 2 ^ 27) fun i j => .int (i ^ j.toNat)) := opI fun _ _ _ _ _ _ _ hc q => pow_int hc.1 hc.2 q
end G
/-! My base, part 9: parts of a text. -/
namespace G
open PySem PySem.Spec PyProof.Rows L2 TL
theorem GS.sub_ {x : Str} (g : GS x) (i j : Nat) : GS (Builtin.Str.strSub x i j) := by
  have e : tl (Builtin.Str.strSub x i j) = ((tl x).take j).drop i := by
    show (x.cps.extract i j).toList = _
    rw [List.drop_take]
    simp [tl]
  refine g.sub (fun c hc => ?_) ?_
  · rw [e] at hc
    exact List.mem_of_mem_take (List.mem_of_mem_drop hc)
  · rw [e, List.length_drop, List.length_take]
    omega
theorem GS.empty : GS Str.empty := ⟨Nat.zero_le _, by decide +kernel⟩
theorem GS.part {x y : Str} (gx : GS x) (gy : GS y) : GS (Txt.partition x y).1 ∧ GS (Txt.partition x y).2.1 ∧ GS (Txt.partition x y).2.2 := by
  unfold Txt.partition
  split
  · exact ⟨gx.sub_ _ _, gy, gx.sub_ _ _⟩
  · exact ⟨gx, .empty, .empty⟩
def partS (x y : Str) : T3 Str Str Str := ⟨(Txt.partition x y).1, (Txt.partition x y).2.1, (Txt.partition x y).2.2⟩
theorem lpgo {S R T : Type} {s : S} {f : S → Option T} {g : R → Option T} {t : T} (h : lpK (.go s) f g = some t) : f s = some t := h
end G
/-! My base, part 10: sorted(set(a list of whole numbers)). -/
namespace G
open PySem PySem.Spec PyProof.Rows L2 TL
section
variable {P : Program} {w : World} {A : Around} {E : Value → Shared → Prop} {s : Shared}
/-- the empty set, as it is laid -/
abbrev newS (w : World) : Obj := { cls := .type "set", dict := none, data := .set #[] 0 (.fresh 0 0 (!w.params.followText "set-order")) }
theorem set_of_list {l : Addr} {xs : Array Value} (ks : List Int) {Q : Value → Shared → Prop} (hh : A.handled = none) (hl : s.heap.IsList l xs) (hk : IntsAre xs.toList ks) (hb : ks.length + 1 < scanBound)
    (hq : ∀ (h' : Heap) (tk c : Nat), SetR w h' s.heap.objs.size (fun j => decide (j ∈ ks)) c → c ≤ ks.length → (∀ b o, s.heap.get? b = some o → h'.get? b = some o) → Q (.ref s.heap.objs.size) { s with heap := h', toks := tk }) :
    wpAny (model P w) A (call (.type "set") [.ref l]) Q E s := by
  have hsz : xs.size = ks.length := (Array.length_toList (xs := xs)).symm.trans (IntsAre.length hk)
  obtain ⟨c0, tl0, hmro⟩ := F.called_set.mro
  have hmade := F.called_set.made; have hsub := F.called_set.sub
  refine wpAny_call (codeAny_of_tree ?_); show wpAny _ _ (callAny (.type "set") _) _ _ _
  refine wpAny_pure ⟨Code.quiet_builtin _ (by decide +kernel), codeAny_builtin F.entry_type_call ?_⟩; rw [Around.under_plain (weight_type_call_type "set" [.ref l] []) rfl]
  have n1 := F.called_set.notType; have n2 := F.called_set.canCreate; have n3 := F.typeCall_set_1 (.ref l)
  repeat (any_goals (first | assumption | wp_step))
  refine codeAny_mono (code_set_led1 (A := A.in1) (.ref l) (E := E) (Q₁ := fun ob s₁ => ob = .ref s.heap.objs.size ∧ s₁ = { s with heap := s.heap.push (newS w) }) ⟨rfl, rfl⟩) fun r s₁ hr => ?_
  cases r with
  | error e => exact hr
  | ok fl =>
    cases fl with
    | next => exact hr.elim
    | brk => exact hr.elim
    | cont => exact hr.elim
    | ret ob =>
      obtain ⟨rfl, rfl⟩ := hr
      have hS : (s.heap.push (newS w)).get? s.heap.objs.size = some (newS w) := Heap.get?_push_size _ rfl
      have hT : Shared.TypeIs { s with heap := s.heap.push (newS w) } (.ref s.heap.objs.size) "set" := ⟨_, hS, rfl⟩
      have hli := F.called_set.init.lookup; have hbi := F.called_set.init.bind (.ref s.heap.objs.size)
      repeat (any_goals (first | assumption | wp_step))
      refine codeAny_mono (codeAny_call_builtin (R := wants (fun rr s₂ => rr = .none ∧ ∃ h' tk c, s₂ = { s with heap := h', toks := tk } ∧ SetR w h' s.heap.objs.size (fun j => decide (j ∈ ks)) c ∧ c ≤ ks.length ∧ (∀ b o, s.heap.get? b = some o → h'.get? b = some o)) E)
        F.called_set.init.plain F.entry_set_init (check_set_init_1 hT ?_)) fun r2 s2 hr2 => ?_
      · obtain ⟨⟨lc, ld, lt, ls⟩, hol, hcl, nl, hdl⟩ := hl
        simp only at hcl hdl; subst hcl; subst hdl
        have hol' : (s.heap.push (newS w)).get? l = some { cls := .type "list", dict := ld, data := .seq xs nl, slots := ls } := Heap.get?_push_of_some _ hol
        have b1 := F.sub_list_set; have b2 := F.sub_list_frozenset
        have b3 : (Value.type "list" == Value.type "dict") = false := by decide
        have hl1 : (s.heap.push (newS w)).IsList l xs := ⟨_, hol', rfl, nl, rfl⟩
        unfold Builtin.«set.__init__» noKeywords Builtin.Frozenset.updateFrom; generalize hPI : pyIter = PI
        wp_walk
        subst hPI; refine wpAny_pyIter_list hl1 ?_
        refine wpAny_bind (wpAny_runValue ?_); have lS : l < s.heap.objs.size := Heap.lt_size hol
        have hh3 : A.in1.in1.in1.handled = none := by simp [hh]
        have lI : l ≠ (s.heap.push (newS w)).objs.size := by rw [Heap.size_push]; exact Nat.ne_of_lt (Nat.lt_succ_of_lt lS)
        have sI : s.heap.objs.size ∉ [(s.heap.push (newS w)).objs.size, l] := by
          rw [Heap.size_push]
          intro z
          rcases List.mem_cons.mp z with z | z
          · exact absurd z (Nat.ne_of_lt (Nat.lt_succ_self _))
          · exact absurd (List.mem_singleton.mp z) (Nat.ne_of_gt lS)
        have each : ∀ (i : Nat) (v : Value), xs[i]? = some v → ∃ k t, ks[i]? = some k ∧ v = .int k t := fun i v hv => by
          have hi : i < ks.length := by rw [← hsz]; exact (Array.getElem?_eq_some_iff.mp hv).1
          obtain ⟨t, e⟩ := PyProof.Rows.IntsAre.int_at hk i v (by rw [Array.getElem?_toList]; exact hv)
          exact ⟨ks[i], t, List.getElem?_eq_getElem hi, by rw [e, List.getD_eq_getElem?_getD, List.getElem?_eq_getElem hi]; rfl⟩
        refine set_update_ints ((Walks.list hh3 _ l lI xs).toS) s.heap.objs.size sI ks hsz hb each (xs.size - 0) 0 _ (by omega) (Nat.zero_le _) ⟨⟨_, Heap.get?_push_size _ rfl, rfl, rfl⟩, (hl1.push _)⟩ ⟨0, Nat.le_refl 0, setR_new_at (Heap.get?_push_of_some _ hS)⟩ (fun s' c' hm hc' hS' => ?_)
        obtain ⟨h', g2, d', tk', os'⟩ := s'
        have eg : g2 = s.gens := hm.gens; have ed : d' = s.drawn := hm.drawn
        have eo : os' = s.os := hm.os; subst eg; subst ed; subst eo
        show wpAny _ _ _ _ _ _; refine wpAny_pure ?_
        show wpAny _ _ (ret Value.none) _ _ _; rw [hsz] at hc'
        refine wpAny_pure ⟨rfl, h', tk', c', rfl, hS', hc', fun b o e => ?_⟩
        have m0 : b < s.heap.objs.size := Heap.lt_size e
        refine hm.heap b o (fun z => ?_) (Heap.get?_push_of_some _ (Heap.get?_push_of_some _ e))
        rcases List.mem_cons.mp z with z | z
        · exact absurd z (Nat.ne_of_lt m0)
        · have z := List.mem_singleton.mp z
          rw [Heap.size_push] at z
          exact absurd z (Nat.ne_of_lt (Nat.lt_succ_of_lt m0))
      · cases r2 with
        | error e => exact hr2
        | ok fl2 =>
          cases fl2 with
          | next => exact hr2.elim
          | brk => exact hr2.elim
          | cont => exact hr2.elim
          | ret rr =>
            obtain ⟨rfl, h', tk, c, rfl, hS', hc', hk'⟩ := hr2
            repeat (any_goals (first | assumption | wp_step))
            exact hq _ _ _ hS' hc' hk'
end
end G
/-! My base, part 11: the set sorted. -/
namespace G
open PySem PySem.Spec PyProof.Rows L2 TL
section
variable {P : Program} {w : World} {A : Around} {E : Value → Shared → Prop} {s : Shared} {a : Addr}
theorem set_sorted {S : Int → Bool} {n : Nat} {Q : Value → Shared → Prop} (R : SetR w s.heap a S n) (hh : A.handled = none)
    (hq : ∀ s' p (out : List Value) (c : Nat) (ns : List Int), (∀ b o, s.heap.get? b = some o → s'.heap.get? b = some o) → s'.gens = s.gens → s'.os = s.os → s.heap.objs.size ≤ p →
      s'.heap.get? p = some (seqObj "list" out.toArray c) → IntsAre out ns → ns.Pairwise (· < ·) → (∀ k, k ∈ ns ↔ S k = true) → ns.length ≤ n → Q (.ref p) s') :
    wpAny (model P w) A (call (.builtin "sorted") [.ref a]) Q E s := by
  obtain ⟨o, es, ep, t, ho, hex, hd, good, nd, hm, hb, hf, hn, hr, hl⟩ := R
  refine Calls.call_function_entry kind_sorted plain_sorted entry_sorted (args_sorted1 _) ?_; unfold Builtin.«sorted»
  refine wpAny_bind (m := checkCount "sorted" 1 1 _) (wpAny_pure ?_)
  refine wpAny_bind (collect_set (A := A.in1) hh ⟨o, ho, hex.1, hd⟩ hf hb hr hl fun s1 vs k1 hz g1 o1 pm => ?_)
  have hvl : vs.length = n := by rw [pm.length_eq, List.length_map, Array.length_toList]; exact hn
  have hI : IntsAre vs (vs.map Builtin.Re.reRawOf) := ints_of vs fun v hv => by
    obtain ⟨e, he, q⟩ := List.mem_map.mp (pm.mem_iff.mp hv)
    obtain ⟨k, tk, h1, _⟩ := good e he
    exact ⟨k, tk, q ▸ h1⟩
  have pk : (vs.map Builtin.Re.reRawOf).Perm (es.toList.map keyOf) := by
    have q := pm.map Builtin.Re.reRawOf
    rwa [List.map_map] at q
  have hsl : vs.length ≤ sizeLine := by
    rw [hvl, ← hn, sizeLine_eq]
    have := hb
    unfold scanBound at this
    omega
  refine wpAny_bind (wpAny_newList ?_ hsl)
  have hoL : (s1.heap.push (seqObj "list" vs.toArray 0)).get? s1.heap.objs.size = some (seqObj "list" vs.toArray 0) := Heap.get?_push_size _ rfl
  refine wpAny_bind (wpAny_holding (wpAny_call_entry slot_list_sort ⟨_, hoL, rfl⟩ entry_list_sort (SrtO.list_sort_ord SrtO.swo_int hoL hsl (fun h2 => SrtO.ints_sortable hI h2) fun out h1 h2 => ⟨_, rfl, ?_⟩) (args_list_sort _)))
  obtain ⟨z1, z2, z3⟩ := SrtO.ints_out hI h1 h2
  obtain ⟨c, hc⟩ := sortedHeap_at (vs := vs) (out := out.toArray) hoL
  have pn := z2.trans pk
  refine wpAny_pure ⟨_, rfl, hq _ s1.heap.objs.size out c _ (fun b u e => ?_) g1 o1 hz hc z1 (lt_of_le_nodup _ z3 (pn.nodup_iff.mpr nd)) (fun k => by rw [pn.mem_iff, ← hm k]) (by rw [pn.length_eq, List.length_map, Array.length_toList, hn]; exact Nat.le_refl _)⟩
  have q := k1 b u e
  have hlt := Heap.lt_size q
  show (sortedHeap (s1.heap.push (seqObj "list" vs.toArray 0)) s1.heap.objs.size vs out.toArray).get? b = some u
  rw [sortedHeap_old (Nat.ne_of_lt hlt) (by rw [Heap.size_push]; exact Nat.lt_succ_of_lt hlt)]
  exact Heap.get?_push_of_some _ q
end
end G
/-! My base, part 12: the rule. -/
namespace G
open PySem PySem.Spec PyProof.Rows L2 TL
section
variable {X : Cx}
/-- sorted(set(a list of whole numbers)) -/
def tSSet (K : PySem.W.Frag) (ta : TE) : TE := fun σ H Q => ta σ H fun x H1 => ∃ (l : Addr) (ks : List Int), x = V.ref l ∧ SqL K H1 l (ks.map V.int) ∧ ks.length < 4000 ∧
  ∀ (ns : List Int) (p : Addr), ns.Pairwise (· < ·) → (∀ k, k ∈ ns ↔ k ∈ ks) → ns.length ≤ ks.length → H1 p = none → Q (.ref p) (upd H1 p (.lst (ns.map V.int)))
theorem pe_sset {a : Expr} {ta : TE} {p p2 q pos : Pos} (hc : X.calm = true) (hg : Gl X "sorted") (hm : X.mg "sorted" = none) (hg2 : Gl X "set") (hm2 : X.mg "set" = none) (ha : PE X a ta)
    (na : starEach [a] X.env = (false, eval a X.env) :: starEach [] X.env := by rfl) : PE X (.Call (.Name "sorted" p) [.Call (.Name "set" p2) [a] [] q] [] pos) (tSSet X.K ta) := by
  refine ⟨fun pins s σ H Q I h => ?_⟩
  refine Call_ (ld_blt I hg hm (u := .builtin "sorted") (by decide +kernel) ?_)
  refine PyProof.Rows.callWith_builtin1 (PyProof.Rows.args_cons ?_ rfl) rfl rfl
  refine Call_ (ld_blt I hg2 hm2 PyProof.Rows.boot_set ?_)
  refine PyProof.Rows.callWith_type1 (PyProof.Rows.args_cons (thn (ha.run pins s σ H _ I h) fun v s1 ⟨x, H1, I1, r1, q1⟩ => PyProof.Rows.args_nil ?_) na) na rfl
  obtain ⟨l, ks, rfl, hq, h4, q1⟩ := q1
  cases r1
  obtain ⟨its, r, pl, hz⟩ := I1.list hq
  refine set_of_list ks (I1.ok.hd hc) pl.isList (by simpa using r.ints) (by unfold scanBound; omega) fun h' tk c hS hck hk => ?_
  refine PyProof.Rows.args_nil ?_
  have I2 : Inv X pins σ H1 { s1 with heap := h', toks := tk } := I1.kept fun b o e => hk b o e
  refine set_sorted hS (I2.ok.hd hc) fun s' p out c2 ns k g o hp hgt hi hs hmem hlen => ?_
  have hlen2 : ns.length ≤ ks.length := Nat.le_trans hlen hck
  have hlz : (ns.map V.int).length ≤ sizeLine := by rw [List.length_map, sizeLine_eq]; omega
  have hn : H1 p = none := I2.hok.fresh hp
  have J : Inv X pins σ (upd H1 p (.lst (ns.map V.int))) s' := Inv.call' (ch := []) I2 o (Un.laid k hp hn) (I2.hok.laid k hp ⟨hlz, out, c2, vals_of_ints hi, hgt⟩) (by rw [g]; exact I2.bare) (fun _ z => nomatch z)
  exact ⟨.ref p, _, J, rfl, q1 ns p hs (fun k => by rw [hmem k, decide_eq_true_iff]) hlen2 hn⟩
end
end G
/-! My base, part 13: what sorted(set(..)) comes to. -/
namespace G
open PySem PySem.Spec PyProof.Rows L2 TL
/-- x put into a rising list, once -/
def ins (x : Int) : List Int → List Int
  | [] => [x]
  | y :: ys => if x < y then x :: y :: ys else if x = y then y :: ys else y :: ins x ys
def ssort (xs : List Int) : List Int := xs.foldr ins []
theorem ins_mem {x k : Int} : ∀ {l : List Int}, k ∈ ins x l ↔ k = x ∨ k ∈ l
  | [] => by simp [ins]
  | y :: ys => by
    unfold ins
    split
    · simp
    · split
      · rename_i h
        subst h
        simp
      · rw [List.mem_cons, ins_mem, List.mem_cons]
        constructor
        · rintro (h | h | h)
          · exact .inr (.inl h)
          · exact .inl h
          · exact .inr (.inr h)
        · rintro (h | h | h)
          · exact .inr (.inl h)
          · exact .inl h
          · exact .inr (.inr h)
theorem ins_sorted {x : Int} : ∀ {l : List Int}, l.Pairwise (· < ·) → (ins x l).Pairwise (· < ·)
  | [], _ => List.pairwise_singleton _ _
  | y :: ys, h => by
    obtain ⟨h1, h2⟩ := List.pairwise_cons.mp h
    unfold ins
    split
    · rename_i hx
      exact List.pairwise_cons.mpr ⟨fun z hz => by
        rcases List.mem_cons.mp hz with rfl | hz
        · exact hx
        · exact Int.lt_trans hx (h1 z hz), h⟩
    · split
      · exact h
      · refine List.pairwise_cons.mpr ⟨fun z hz => ?_, ins_sorted h2⟩
        rcases ins_mem.mp hz with rfl | hz
        · omega
        · exact h1 z hz
theorem ssort_mem {k : Int} : ∀ {l : List Int}, k ∈ ssort l ↔ k ∈ l
  | [] => Iff.rfl
  | x :: l => by
    show k ∈ ins x (ssort l) ↔ _
    rw [ins_mem, ssort_mem, List.mem_cons]
theorem ssort_sorted : ∀ l : List Int, (ssort l).Pairwise (· < ·)
  | [] => List.Pairwise.nil
  | x :: l => ins_sorted (ssort_sorted l)
theorem rise_uniq : ∀ {a b : List Int}, a.Pairwise (· < ·) → b.Pairwise (· < ·) → (∀ k, k ∈ a ↔ k ∈ b) → a = b
  | [], [], _, _, _ => rfl
  | [], y :: _, _, _, h => absurd ((h y).mpr (List.mem_cons_self ..)) (fun z => nomatch z)
  | x :: _, [], _, _, h => absurd ((h x).mp (List.mem_cons_self ..)) (fun z => nomatch z)
  | x :: a, y :: b, ha, hb, h => by
    obtain ⟨a1, a2⟩ := List.pairwise_cons.mp ha
    obtain ⟨b1, b2⟩ := List.pairwise_cons.mp hb
    have e : x = y := by
      rcases List.mem_cons.mp ((h x).mp (List.mem_cons_self ..)) with z | z
      · exact z
      · rcases List.mem_cons.mp ((h y).mpr (List.mem_cons_self ..)) with z2 | z2
        · exact z2.symm
        · have := b1 x z
          have := a1 y z2
          omega
    subst e
    rw [rise_uniq a2 b2 fun k => ?_]
    constructor
    · intro hk
      rcases List.mem_cons.mp ((h k).mp (List.mem_cons_of_mem _ hk)) with z | z
      · have := a1 k hk; omega
      · exact z
    · intro hk
      rcases List.mem_cons.mp ((h k).mpr (List.mem_cons_of_mem _ hk)) with z | z
      · have := b1 k hk; omega
      · exact z
theorem ssort_uniq {xs ns : List Int} (h1 : ns.Pairwise (· < ·)) (h2 : ∀ k, k ∈ ns ↔ k ∈ xs) : ssort xs = ns :=
  rise_uniq (ssort_sorted xs) h1 fun k => by rw [ssort_mem, h2]
def ssetO (xs : List Int) : Option (List Int) := if xs.length < 4000 then some (ssort xs) else none
theorem ssetO_ok {xs r : List Int} (h : ssetO xs = some r) : xs.length < 4000 ∧ ssort xs = r := by
  unfold ssetO at h
  split at h
  · exact ⟨by assumption, Option.some.inj h⟩
  · cases h
end G
/-! My base, part 14: list(zip(two lists)). -/
namespace G
open PySem PySem.Spec PyProof.Rows L2 TL
theorem zip_nolen : typeLookup (.type "zip") "__len__" = pure none := by rw [typeLookup_type, builtinLookup_eq_fast]; kernel_rfl
theorem zip_nohint : typeLookup (.type "zip") "__length_hint__" = pure none := by rw [typeLookup_type, builtinLookup_eq_fast]; kernel_rfl
/-- where the gathering of a zip stands: Ts are the pairs handed out, all of them still there -/
structure ZSt (z TI TO i1 i2 l1 l2 : Addr) (lo : Nat) (xs ys : Array Value) (h : Heap) (Ts : List Addr) : Prop where
  ti : IsPair h TI (.ref i1) (.ref i2)
  z : (Ts = [] ∧ IsZip h z TI TO .none ∧ ∃ a b, IsPair h TO a b) ∨ ∃ T f, T ∈ Ts ∧ IsZipHeld h z TI TO T f
  a1 : h.IsListIter i1 l1 Ts.length
  a2 : h.IsListIter i2 l2 Ts.length
  b1 : h.IsList l1 xs
  b2 : h.IsList l2 ys
  prs : ∀ (j : Nat) (T : Addr), Ts[j]? = some T → ∃ x y, xs[j]? = some x ∧ ys[j]? = some y ∧ IsPair h T x y
  fr : ∀ T ∈ Ts, lo ≤ T
  nd : Ts.Nodup
theorem ne_lo {a b lo : Nat} (h : a < lo) (h2 : lo ≤ b) : b ≠ a := fun e => absurd (e ▸ h2) (Nat.not_le_of_lt h)
section
variable {P : Program} {w : World} {A : Around} {E : Value → Shared → Prop} {s : Shared} {z TI TO i1 i2 l1 l2 S : Addr} {lo : Nat} {xs ys : Array Value} {h h' : Heap} {Ts : List Addr}
theorem ZSt.at_T (Z : ZSt z TI TO i1 i2 l1 l2 lo xs ys h Ts) {T : Addr} (hT : T ∈ Ts) : ∃ o, h.get? T = some o := by
  obtain ⟨j, hj⟩ := List.getElem?_of_mem hT
  obtain ⟨x, y, _, _, p⟩ := Z.prs j T hj
  exact ⟨_, p⟩
/-- what is kept of it by a write elsewhere -/
theorem ZSt.keep (Z : ZSt z TI TO i1 i2 l1 l2 lo xs ys h Ts) (hS : S < lo) (S1 : S ≠ z) (S2 : S ≠ TI) (S3 : S ≠ TO) (S4 : S ≠ i1) (S5 : S ≠ i2) (S6 : S ≠ l1) (S7 : S ≠ l2) (k : ∀ b o, b ≠ S → h.get? b = some o → h'.get? b = some o) : ZSt z TI TO i1 i2 l1 l2 lo xs ys h' Ts := by
  refine ⟨k _ _ S2.symm Z.ti, ?_, Z.a1.at fun o e => k _ o S4.symm e, Z.a2.at fun o e => k _ o S5.symm e, Z.b1.at fun o e => k _ o S6.symm e, Z.b2.at fun o e => k _ o S7.symm e, fun j T hj => ?_, Z.fr, Z.nd⟩
  · rcases Z.z with ⟨e, q, a, b, r⟩ | ⟨T, f, hT, q⟩
    · exact .inl ⟨e, k _ _ S1.symm q, a, b, k _ _ S3.symm r⟩
    · exact .inr ⟨T, f, hT, k _ _ S1.symm q⟩
  · obtain ⟨x, y, e1, e2, p⟩ := Z.prs j T hj
    have hT := Z.fr T (List.mem_of_getElem? hj)
    exact ⟨x, y, e1, e2, k _ _ (ne_lo hS hT) p⟩
/-- one pair more -/
theorem ZSt.more (Z : ZSt z TI TO i1 i2 l1 l2 lo xs ys h Ts) (D : ZipApart z TI TO i1 i2 l1 l2) (hlo : lo ≤ h.objs.size) (hl : z < lo ∧ TO < lo ∧ i1 < lo ∧ i2 < lo) {f : Bool} {x y : Value} (c1 : IsZipHeld h' z TI TO h.objs.size f ∨ ∃ T, T ∈ Ts ∧ IsZipHeld h' z TI TO T f)
    (c2 : h'.IsListIter i1 l1 (Ts.length + 1)) (c3 : h'.IsListIter i2 l2 (Ts.length + 1)) (c4 : IsPair h' h.objs.size x y) (e1 : xs[Ts.length]? = some x) (e2 : ys[Ts.length]? = some y)
    (k : ∀ c o, c ≠ z → c ≠ TO → c ≠ i1 → c ≠ i2 → h.get? c = some o → h'.get? c = some o) : ZSt z TI TO i1 i2 l1 l2 lo xs ys h' (Ts ++ [h.objs.size]) := by
  have hn : h.objs.size ∉ Ts := fun m => by
    obtain ⟨o, e⟩ := Z.at_T m
    exact absurd (Heap.lt_size e) (Nat.lt_irrefl _)
  refine ⟨k _ _ D.TIz D.TITO D.TIi1 D.TIi2 Z.ti, .inr ?_, ?_, ?_, Z.b1.at fun o e => k _ o D.l1z D.l1TO D.l1i1 D.l1i2 e, Z.b2.at fun o e => k _ o D.l2z D.l2TO D.l2i1 D.l2i2 e, fun j T hj => ?_, fun T hT => ?_, ?_⟩
  · rcases c1 with c1 | ⟨T, hT, c1⟩
    · exact ⟨_, f, List.mem_append.mpr (.inr (List.mem_singleton.mpr rfl)), c1⟩
    · exact ⟨T, f, List.mem_append.mpr (.inl hT), c1⟩
  · rw [List.length_append]; exact c2
  · rw [List.length_append]; exact c3
  · by_cases hjl : j < Ts.length
    · rw [List.getElem?_append_left hjl] at hj
      obtain ⟨x', y', f1, f2, p⟩ := Z.prs j T hj
      have hT := Z.fr T (List.mem_of_getElem? hj)
      exact ⟨x', y', f1, f2, k _ _ (ne_lo hl.1 hT) (ne_lo hl.2.1 hT) (ne_lo hl.2.2.1 hT) (ne_lo hl.2.2.2 hT) p⟩
    · rw [List.getElem?_append_right (by omega)] at hj
      have hj0 : j - Ts.length = 0 := by
        cases q : j - Ts.length with
        | zero => rfl
        | succ m => rw [q] at hj; simp at hj
      rw [hj0] at hj
      have eT : h.objs.size = T := Option.some.inj hj
      have ej : j = Ts.length := by omega
      subst ej
      subst eT
      exact ⟨x, y, e1, e2, c4⟩
  · rcases List.mem_append.mp hT with m | m
    · exact Z.fr T m
    · rw [List.mem_singleton.mp m]; exact hlo
  · exact List.nodup_append.mpr ⟨Z.nd, by simp, fun a ha b hb => by
      rw [List.mem_singleton.mp hb]
      intro e
      rw [e] at ha
      exact hn ha⟩
theorem zip_gather {R : Result → Shared → Prop} (hh : A.in1.handled = none) (D : ZipApart z TI TO i1 i2 l1 l2) (hl : z < lo ∧ TO < lo ∧ i1 < lo ∧ i2 < lo) (hS : S < lo) (S1 : S ≠ z) (S2 : S ≠ TI) (S3 : S ≠ TO) (S4 : S ≠ i1) (S5 : S ≠ i2) (S6 : S ≠ l1) (S7 : S ≠ l2) (hn : min xs.size ys.size ≤ sizeLine) (res : Value) :
    ∀ (k : Nat) (s : Shared) (Ts : List Addr) (c : Nat), min xs.size ys.size - Ts.length = k → Ts.length ≤ min xs.size ys.size → lo ≤ s.heap.objs.size → ZSt z TI TO i1 i2 l1 l2 lo xs ys s.heap Ts →
    s.heap.get? S = some { cls := .type "list", dict := none, data := .seq (Ts.map Value.ref).toArray c, slots := #[] } →
    (∀ (s' : Shared) (Ts' : List Addr) (c' : Nat), s'.gens = s.gens → s'.os = s.os → (∀ (j : Nat) (T : Addr), Ts'[j]? = some T → ∃ x y, xs[j]? = some x ∧ ys[j]? = some y ∧ IsPair s'.heap T x y) → (∀ T ∈ Ts', lo ≤ T) → Ts'.Nodup → Ts'.length = min xs.size ys.size → s'.heap.get? S = some { cls := .type "list", dict := none, data := .seq (Ts'.map Value.ref).toArray c', slots := #[] } →
      (∀ b o, b ≠ S → b ≠ z → b ≠ TO → b ≠ i1 → b ≠ i2 → s.heap.get? b = some o → s'.heap.get? b = some o) → R (.ok (.ret res)) s') →
    codeAny (model P w) A (.builtin "list.extend.loop" ⟨[.ref S, .ref z, res], []⟩) R s := by
  intro k
  induction k with
  | zero =>
    intro s Ts c hk hle hlo Z hSo hR
    have hlen : Ts.length = min xs.size ys.size := by omega
    refine codeAny_builtin F.entry_extend_loop ?_; rw [Around.under_plainId F.plain_extend_loop _]
    show wpAny _ A.in1 (pyNext (.ref z) >>= _) _ _ s
    have hend : xs[Ts.length]? = none ∨ ys[Ts.length]? = none := by
      rcases Nat.le_total xs.size ys.size with q | q
      · exact .inl (Array.getElem?_eq_none (by omega))
      · exact .inr (Array.getElem?_eq_none (by omega))
    have fin : ∀ h' : Heap, (∀ c o, c ≠ z → c ≠ TO → c ≠ i1 → c ≠ i2 → s.heap.get? c = some o → h'.get? c = some o) → R (.ok (.ret res)) { s with heap := h' } := fun h' kk => by
      refine hR { s with heap := h' } Ts c rfl rfl (fun j T hj => ?_) Z.fr Z.nd hlen (kk _ _ S1 S3 S4 S5 hSo) (fun b o _ b2 b3 b4 b5 e => kk b o b2 b3 b4 b5 e)
      obtain ⟨x, y, e1, e2, p⟩ := Z.prs j T hj
      have hT := Z.fr T (List.mem_of_getElem? hj)
      exact ⟨x, y, e1, e2, kk _ _ (ne_lo hl.1 hT) (ne_lo hl.2.1 hT) (ne_lo hl.2.2.1 hT) (ne_lo hl.2.2.2 hT) p⟩
    rcases Z.z with ⟨e, q, a, b, r⟩ | ⟨T, f, hT, q⟩
    · refine wpAny_bind (wpAny_pyNext_zip_end hh D q Z.ti r Z.a1 Z.a2 Z.b1 Z.b2 hend fun h' kk => ?_)
      exact wpAny_pure (fin h' kk)
    · obtain ⟨oT, eT⟩ := Z.at_T hT
      refine wpAny_bind (wpAny_pyNext_zip_end_held hh D q eT Z.ti Z.a1 Z.a2 Z.b1 Z.b2 hend fun h' kk => ?_)
      exact wpAny_pure (fin h' fun c o c1 _ c3 c4 e => kk c o c1 c3 c4 e)
  | succ k ih =>
    intro s Ts c hk hle hlo Z hSo hR
    have hlt : Ts.length < min xs.size ys.size := by omega
    have hx : Ts.length < xs.size := by omega
    have hy : Ts.length < ys.size := by omega
    have e1 : xs[Ts.length]? = some xs[Ts.length] := Array.getElem?_eq_getElem hx
    have e2 : ys[Ts.length]? = some ys[Ts.length] := Array.getElem?_eq_getElem hy
    refine codeAny_builtin F.entry_extend_loop ?_; rw [Around.under_plainId F.plain_extend_loop _]
    show wpAny _ A.in1 (pyNext (.ref z) >>= _) _ _ s
    have go : ∀ h' : Heap, h'.objs.size = s.heap.objs.size + 1 → ZSt z TI TO i1 i2 l1 l2 lo xs ys h' (Ts ++ [s.heap.objs.size]) → (∀ c o, c ≠ z → c ≠ TO → c ≠ i1 → c ≠ i2 → s.heap.get? c = some o → h'.get? c = some o) →
        wpAny (model P w) A.in1 (updateSeq S (·.push (Value.ref s.heap.objs.size)) >>= fun _ => again (.builtin "list.extend.loop" ⟨[.ref S, .ref z, res], []⟩)) (fun fin s' => match fin with | .done f => R (.ok f) s' | .again c' => c'.quiet = true ∧ codeAny (model P w) A c' R s') (fun e s' => R (.error e) s') { s with heap := h' } := fun h' hsz Z' kk => by
      have hS' : h'.get? S = some { cls := .type "list", dict := none, data := .seq (Ts.map Value.ref).toArray c, slots := #[] } := kk _ _ S1 S3 S4 S5 hSo
      have hlen1 : ((Ts.map Value.ref).toArray).size = Ts.length := by simp
      refine wpAny_bind ?_
      refine wpAny_updateSeq (s := { s with heap := h' }) hS' rfl (wpAny_pure ⟨plainId_quiet F.plain_extend_loop _, ?_⟩) (by rw [hlen1]; omega) (by show ((Ts.map Value.ref).toArray.push _).size ≤ sizeLine + 1; rw [Array.size_push, hlen1]; omega)
      have hS2 := Heap.get?_update_self (Obj.mapSeq (·.push (Value.ref s.heap.objs.size))) hS' rfl
      have kS : ∀ b o, b ≠ S → h'.get? b = some o → (h'.update S (Obj.mapSeq (·.push (Value.ref s.heap.objs.size)))).get? b = some o := fun b o hb e => (Heap.get?_update_other _ _ (Ne.symm hb)).trans e
      have eA : (Ts.map Value.ref).toArray.push (Value.ref s.heap.objs.size) = ((Ts ++ [s.heap.objs.size]).map Value.ref).toArray := by simp
      refine ih _ (Ts ++ [s.heap.objs.size]) _ (by rw [List.length_append]; show _ - (Ts.length + 1) = k; omega) (by rw [List.length_append]; show Ts.length + 1 ≤ _; omega) ?_ (Z'.keep hS S1 S2 S3 S4 S5 S6 S7 kS) (by rw [← eA]; exact hS2) (fun s' Ts' c' g1 g2 g3 g4 g5 g6 g7 g8 => ?_)
      · show lo ≤ (h'.update S _).objs.size
        rw [(Heap.SameBut.update h' S _).1, hsz]
        omega
      · exact hR s' Ts' c' g1 g2 g3 g4 g5 g6 g7 fun b o b1 b2 b3 b4 b5 e => g8 b o b1 b2 b3 b4 b5 (kS b o b1 (kk b o b2 b3 b4 b5 e))
    rcases Z.z with ⟨e, q, a, b, r⟩ | ⟨T, f, hT, q⟩
    · refine wpAny_bind (wpAny_pyNext_zip_item D q Z.ti r Z.a1 Z.a2 Z.b1 Z.b2 e1 e2 fun h' d1 d2 d3 d4 d5 d6 kk => ?_)
      exact go h' d6 (Z.more D hlo hl (f := false) (.inl d1) d3 d4 d5 e1 e2 kk) kk
    · obtain ⟨oT, eT⟩ := Z.at_T hT
      refine wpAny_bind (wpAny_pyNext_zip_item_held D q eT Z.ti Z.a1 Z.a2 Z.b1 Z.b2 e1 e2 fun h' d1 d3 d4 d5 d6 kk => ?_)
      exact go h' d6 (Z.more D hlo hl (f := true) (.inr ⟨T, hT, d1⟩) d3 d4 d5 e1 e2 fun c o c1 _ c3 c4 e => kk c o c1 c3 c4 e) fun c o c1 _ c3 c4 e => kk c o c1 c3 c4 e
end
end G
/-! My base, part 15: list(zip(..)), the call. -/
namespace G
open PySem PySem.Spec PyProof.Rows L2 TL
section
variable {P : Program} {w : World} {A : Around} {E : Value → Shared → Prop} {s : Shared} {z TI TO i1 i2 l1 l2 S : Addr} {lo : Nat} {xs ys : Array Value}
theorem zip_extend {R : Result → Shared → Prop} (hh : A.handled = none) (D : ZipApart z TI TO i1 i2 l1 l2) (hl : z < lo ∧ TO < lo ∧ i1 < lo ∧ i2 < lo) (hS : S < lo) (S1 : S ≠ z) (S2 : S ≠ TI) (S3 : S ≠ TO) (S4 : S ≠ i1) (S5 : S ≠ i2) (S6 : S ≠ l1) (S7 : S ≠ l2) (hn : min xs.size ys.size ≤ sizeLine) (res : Value)
    (c0 : Nat) (hlo : lo ≤ s.heap.objs.size) (Z : ZSt z TI TO i1 i2 l1 l2 lo xs ys s.heap []) (hSo : s.heap.get? S = some { cls := .type "list", dict := none, data := .seq #[] c0, slots := #[] })
    (hR : ∀ (s' : Shared) (Ts' : List Addr) (c' : Nat), s'.gens = s.gens → s'.os = s.os → (∀ (j : Nat) (T : Addr), Ts'[j]? = some T → ∃ x y, xs[j]? = some x ∧ ys[j]? = some y ∧ IsPair s'.heap T x y) → (∀ T ∈ Ts', lo ≤ T) → Ts'.Nodup → Ts'.length = min xs.size ys.size → s'.heap.get? S = some { cls := .type "list", dict := none, data := .seq (Ts'.map Value.ref).toArray c', slots := #[] } →
      (∀ b o, b ≠ S → b ≠ z → b ≠ TO → b ≠ i1 → b ≠ i2 → s.heap.get? b = some o → s'.heap.get? b = some o) → R (.ok (.ret res)) s') :
    wpAny (model P w) A.in1 (Builtin.List.listExtendWith (.ref S) (.ref z) res) (fun fin s' => match fin with | .done f => R (.ok f) s' | .again c' => c'.quiet = true ∧ codeAny (model P w) A c' R s') (fun e s' => R (.error e) s') s := by
  have hh1 : A.in1.handled = none := by simp [hh]
  obtain ⟨q0, q, ta, tb, tr⟩ : ([] : List Addr) = [] ∧ IsZip s.heap z TI TO .none ∧ ∃ a b, IsPair s.heap TO a b := by
    rcases Z.z with h | ⟨T, f, hT, _⟩
    · exact h
    · exact nomatch hT
  have hT : s.TypeIs (.ref z) "zip" := ⟨_, q, rfl⟩
  unfold Builtin.List.listExtendWith; refine wpAny_bind (wpAny_typeOf hT ?_)
  have m1 : Builtin.List.listSameRef (.ref S) (.ref z) = false := by simp [Builtin.List.listSameRef, S1]
  have m2 : (Value.type "zip" == Value.type "list") = false := by decide
  have m3 : (Value.type "zip" == Value.type "tuple") = false := by decide
  simp only [m1, m2, m3, Bool.or_false, Bool.false_eq_true, if_false]
  refine wpAny_bind (wpAny_pyIter_zip q ?_)
  refine wpAny_bind (wpAny_holding ?_); unfold Builtin.List.listLengthHint
  refine wpAny_bind (wpAny_specialOf hT zip_nolen ?_)
  show wpAny _ A.in1 (specialOf (Value.ref z) (Str.ofString "__length_hint__") >>= _) _ _ _
  refine wpAny_bind (wpAny_specialOf hT zip_nohint ?_); refine wpAny_pure ?_
  show wpAny _ A.in1 (rule "list.extend.makes-room" >>= fun _ => Builtin.List.listTouch (.ref S) >>= fun _ => again (.builtin "list.extend.loop" ⟨[.ref S, .ref z, res], []⟩)) _ _ _
  refine wpAny_bind (wpAny_rule ?_); refine wpAny_bind ?_
  show wpAny _ A.in1 (updateSeq S (·.push .none) >>= fun _ => updateSeq S (·.pop)) _ _ _
  refine wpAny_bind (wpAny_updateSeq hSo rfl ?_)
  have hS2 := Heap.get?_update_self (Obj.mapSeq (·.push Value.none)) hSo rfl
  refine wpAny_updateSeq (hz := by seq_fits) hS2 rfl ?_
  have hS3 := Heap.get?_update_self (Obj.mapSeq (·.pop)) hS2 rfl
  have oth : ∀ b o, b ≠ S → s.heap.get? b = some o → ((s.heap.update S (Obj.mapSeq (·.push Value.none))).update S (Obj.mapSeq (·.pop))).get? b = some o := fun b o hb e => (Heap.get?_update_other _ _ (Ne.symm hb)).trans ((Heap.get?_update_other _ _ (Ne.symm hb)).trans e)
  refine wpAny_pure ⟨plainId_quiet F.plain_extend_loop _, zip_gather hh1 D hl hS S1 S2 S3 S4 S5 S6 S7 hn res (min xs.size ys.size) _ [] _ rfl (Nat.zero_le _) ?_ (Z.keep hS S1 S2 S3 S4 S5 S6 S7 oth) hS3 fun s' Ts' c' g1 g2 g3 g4 g5 g6 g7 g8 => ?_⟩
  · show lo ≤ ((s.heap.update S _).update S _).objs.size
    rw [(Heap.SameBut.update _ S _).1, (Heap.SameBut.update _ S _).1]
    exact hlo
  · exact hR s' Ts' c' g1 g2 g3 g4 g5 g6 g7 fun b o b1 b2 b3 b4 b5 e => g8 b o b1 b2 b3 b4 b5 (oth b o b1 e)
theorem list_zip {Q : Value → Shared → Prop} (hh : A.handled = none) (D : ZipApart z TI TO i1 i2 l1 l2) (hl : z < s.heap.objs.size ∧ TO < s.heap.objs.size ∧ i1 < s.heap.objs.size ∧ i2 < s.heap.objs.size ∧ TI < s.heap.objs.size ∧ l1 < s.heap.objs.size ∧ l2 < s.heap.objs.size) (hn : min xs.size ys.size ≤ sizeLine)
    (hz : IsZip s.heap z TI TO .none) (hTI : IsPair s.heap TI (.ref i1) (.ref i2)) {a b : Value} (hTO : IsPair s.heap TO a b) (a1 : s.heap.IsListIter i1 l1 0) (a2 : s.heap.IsListIter i2 l2 0) (b1 : s.heap.IsList l1 xs) (b2 : s.heap.IsList l2 ys)
    (hq : ∀ (s' : Shared) (Ts' : List Addr) (c' : Nat), s'.gens = s.gens → s'.os = s.os → (∀ (j : Nat) (T : Addr), Ts'[j]? = some T → ∃ x y, xs[j]? = some x ∧ ys[j]? = some y ∧ IsPair s'.heap T x y) → (∀ T ∈ Ts', s.heap.objs.size + 1 ≤ T) → Ts'.Nodup → Ts'.length = min xs.size ys.size → s'.heap.get? s.heap.objs.size = some { cls := .type "list", dict := none, data := .seq (Ts'.map Value.ref).toArray c', slots := #[] } →
      (∀ b o, b ≠ z → b ≠ TO → b ≠ i1 → b ≠ i2 → s.heap.get? b = some o → s'.heap.get? b = some o) → Q (.ref s.heap.objs.size) s') :
    wpAny (model P w) A (call (.type "list") [.ref z]) Q E s := by
  obtain ⟨z1, z2, z3, z4, z5, z6, z7⟩ := hl
  refine callType_codes (Q₁ := fun ob s₁ => ob = .ref s.heap.objs.size ∧ s₁ = { s with heap := s.heap.push { cls := .type "list", data := .seq #[] } }) F.called_list (F.typeCall_list_1 _) F.entry_list_init (code_list_new _ ⟨rfl, rfl⟩) fun ob s₁ h₁ => ?_
  obtain ⟨rfl, rfl⟩ := h₁
  have hSo : (s.heap.push { cls := .type "list", data := .seq #[] }).get? s.heap.objs.size = some { cls := .type "list", data := .seq #[] } := Heap.get?_push_size _ rfl
  have hsz : (s.heap.push { cls := .type "list", data := .seq #[] }).objs.size = s.heap.objs.size + 1 := Heap.size_push ..
  have up : ∀ b o, s.heap.get? b = some o → (s.heap.push { cls := .type "list", data := .seq #[] }).get? b = some o := fun b o e => Heap.get?_push_of_some _ e
  refine ⟨⟨_, hSo, rfl⟩, F.args_list_init_2 _ _, ?_⟩
  show wpAny _ _ (do let old ← Builtin.List.listItems (.ref s.heap.objs.size); Builtin.List.listUpdate (.ref s.heap.objs.size) (fun _ => #[]); letGo old.toList.reverse; Builtin.List.listExtendWith (.ref s.heap.objs.size) (.ref z) .none) _ _ _
  refine wpAny_bind ?_; unfold Builtin.List.listItems
  refine wpAny_bind (wpAny_seqItems hSo rfl (wpAny_pure ?_))
  show wpAny _ _ (updateSeq s.heap.objs.size (fun _ => #[]) >>= fun _ => letGo (#[] : Array Value).toList.reverse >>= fun _ => Builtin.List.listExtendWith (.ref s.heap.objs.size) (.ref z) .none) _ _ _
  refine wpAny_bind (wpAny_updateSeq hSo rfl ?_)
  have hS2 := Heap.get?_update_self (Obj.mapSeq (fun _ => (#[] : Array Value))) hSo rfl
  have oth : ∀ b o, b ≠ s.heap.objs.size → s.heap.get? b = some o → ((s.heap.push { cls := .type "list", data := .seq #[] }).update s.heap.objs.size (Obj.mapSeq (fun _ => (#[] : Array Value)))).get? b = some o := fun b o hb e => (Heap.get?_update_other _ _ (Ne.symm hb)).trans (up b o e)
  refine wpAny_bind (wpAny_letGo ?_)
  have ne : ∀ {b : Addr}, b < s.heap.objs.size → b ≠ s.heap.objs.size := fun hb => Nat.ne_of_lt hb
  refine zip_extend (lo := s.heap.objs.size + 1) (by simp [hh]) D ⟨Nat.lt_succ_of_lt z1, Nat.lt_succ_of_lt z2, Nat.lt_succ_of_lt z3, Nat.lt_succ_of_lt z4⟩ (Nat.lt_succ_self _) (ne z1).symm (ne z5).symm (ne z2).symm (ne z3).symm (ne z4).symm (ne z6).symm (ne z7).symm hn .none _ ?_
    ⟨oth _ _ (ne z5) hTI, .inl ⟨rfl, oth _ _ (ne z1) hz, a, b, oth _ _ (ne z2) hTO⟩, a1.at fun o e => oth _ o (ne z3) e, a2.at fun o e => oth _ o (ne z4) e, b1.at fun o e => oth _ o (ne z6) e, b2.at fun o e => oth _ o (ne z7) e, (fun j T hj => by simp at hj), (fun T hT => nomatch hT), List.nodup_nil⟩ hS2 (fun s' Ts' c' g1 g2 g3 g4 g5 g6 g7 g8 => ?_)
  · show _ ≤ ((s.heap.push _).update _ _).objs.size
    rw [(Heap.SameBut.update _ _ _).1, hsz]
    exact Nat.le_refl _
  · exact ⟨rfl, hq s' Ts' c' g1 g2 g3 g4 g5 g6 g7 fun b o b2 b3 b4 b5 e => g8 b o (Nat.ne_of_lt (Heap.lt_size e)) b2 b3 b4 b5 (oth b o (Nat.ne_of_lt (Heap.lt_size e)) e)⟩
end
end G
/-! My base, part 16: list(zip(..)), the rule; many new pairs. -/
namespace G
open PySem PySem.Spec PyProof.Rows L2 TL
/-- pairs that are laid, one behind another -/
def tupsU (H : Hp) : List (Addr × V × V) → Hp
  | [] => H
  | q :: l => tupsU (upd H q.1 (.tup [q.2.1, q.2.2])) l
structure NewP (H : Hp) (l : List (Addr × V × V)) : Prop where
  none : ∀ q ∈ l, H q.1 = none
  nd : (l.map (·.1)).Nodup
theorem NewP.tail {H : Hp} {q : Addr × V × V} {l : List (Addr × V × V)} (n : NewP H (q :: l)) {o : HO} : NewP (upd H q.1 o) l := by
  have hd := List.nodup_cons.mp (show (q.1 :: l.map (·.1)).Nodup from n.nd)
  refine ⟨fun r hr => ?_, hd.2⟩
  rw [upd_ne (fun e => hd.1 (by rw [← e]; exact List.mem_map.mpr ⟨r, hr, rfl⟩))]
  exact n.none r (List.mem_cons_of_mem _ hr)
theorem tupsU_at : ∀ {l : List (Addr × V × V)} {H : Hp} {a : Addr}, (∀ q ∈ l, q.1 ≠ a) → tupsU H l a = H a
  | [], _, _, _ => rfl
  | q :: l, H, a, h => by
    show tupsU _ l a = _
    rw [tupsU_at fun r hr => h r (List.mem_cons_of_mem _ hr), upd_ne (h q (List.mem_cons_self ..)).symm]
theorem tupsU_in : ∀ {l : List (Addr × V × V)} {H : Hp} {q : Addr × V × V}, (l.map (·.1)).Nodup → q ∈ l → tupsU H l q.1 = some (.tup [q.2.1, q.2.2])
  | r :: l, H, q, hn, hq => by
    have hd := List.nodup_cons.mp (show (r.1 :: l.map (·.1)).Nodup from hn)
    show tupsU _ l q.1 = _
    rcases List.mem_cons.mp hq with rfl | hq
    · rw [tupsU_at fun z hz e => hd.1 (by rw [← e]; exact List.mem_map.mpr ⟨z, hz, rfl⟩), upd_same]
    · exact tupsU_in hd.2 hq
theorem tupsU_gr {M : Addr → Prop} : ∀ {l : List (Addr × V × V)} {F0 H0 F H : Hp}, Gr M F0 H0 F H → NewP H l → Gr M F0 H0 (tupsU F l) (tupsU H l)
  | [], _, _, _, _, g, _ => g
  | q :: l, F0, H0, F, H, g, n => by
    show Gr M F0 H0 (tupsU (upd F q.1 (.tup [q.2.1, q.2.2])) l) (tupsU (upd H q.1 (.tup [q.2.1, q.2.2])) l)
    exact tupsU_gr (g.frz (n.none q (List.mem_cons_self ..))) n.tail
theorem tupsU_RL {α β : Type} [Enc α] [Enc β] {K : PySem.W.Frag} {F : Hp} : ∀ {l : List (Addr × V × V)} {xs : List α} {ys : List β}, (l.map (·.1)).Nodup → (∀ q ∈ l, F q.1 = some (.tup [q.2.1, q.2.2])) → RL K F (l.map (·.2.1)) xs → RL K F (l.map (·.2.2)) ys →
    RL K F (l.map fun q => V.ref q.1) (xs.zip ys)
  | [], _, _, _, _, h1, h2 => by
    have e1 := RL.len h1
    have e3 : ∀ {γ : Type} (z : List γ), ([] : List V).length = z.length → z = [] := fun z h => List.eq_nil_of_length_eq_zero h.symm
    rw [e3 _ e1]
    exact RpA.nil
  | q :: l, [], _, _, _, h1, _ => by cases h1
  | q :: l, _ :: _, [], _, _, _, h2 => by cases h2
  | q :: l, x :: xs, y :: ys, hn, hF, h1, h2 => by
    cases h1 with
    | cons r1 h1 =>
      cases h2 with
      | cons r2 h2 =>
        have hd := List.nodup_cons.mp (show (q.1 :: l.map (·.1)).Nodup from hn)
        exact RL.cons (R.mk2 (.inl (.inl (hF q (List.mem_cons_self ..)))) r1 r2) (tupsU_RL hd.2 (fun z hz => hF z (List.mem_cons_of_mem _ hz)) h1 h2)
theorem HOk.track {P : Program} {w : World} {H : Hp} {h : Heap} {a : Addr} {o : HO} (x : HOk P w H h) (hn : H a = none) (new : ObjOk P w (upd H a o) h a o) : HOk P w (upd H a o) h := fun b u e => by
  by_cases hb : b = a
  · subst hb; rw [upd_same] at e; cases e; exact new
  · rw [upd_ne hb] at e
    exact (x b u e).stay (fun c v _ q => q) (fun c q => by rw [upd_ne (ne_of_none q hn)]; exact q) fun c zs q => by rw [upd_ne (ne_of_none q hn)]; exact q
theorem HOk.tracks {P : Program} {w : World} {h : Heap} : ∀ {l : List (Addr × V × V)} {H : Hp}, HOk P w H h → NewP H l → (∀ q ∈ l, ∃ x y, IsPair h q.1 x y ∧ RelV q.2.1 x ∧ RelV q.2.2 y) → HOk P w (tupsU H l) h
  | [], _, x, _, _ => x
  | q :: l, H, x, n, hp => by
    obtain ⟨a, b, p, r1, r2⟩ := hp q (List.mem_cons_self ..)
    refine HOk.tracks (l := l) (H := upd H q.1 (.tup [q.2.1, q.2.2])) (HOk.track x (n.none q (List.mem_cons_self ..)) ⟨by show 2 ≤ sizeLine; decide, [a, b], .cons r1 (.cons r2 .nil), ⟨_, p, rfl, _, rfl⟩⟩) n.tail fun z hz => hp z (List.mem_cons_of_mem _ hz)
theorem vals_refs : ∀ Ts : List Addr, Vals (Ts.map V.ref) (Ts.map Value.ref)
  | [] => .nil
  | _ :: Ts => .cons rfl (vals_refs Ts)
section
variable {X : Cx}
/-- list(zip(xs, ys)) of two lists -/
def tLZip (K : PySem.W.Frag) (ta : TA) : TE := fun σ H Q => ta σ H fun vs H1 => ∃ (a b : Addr) (xs ys : List V), vs = [.ref a, .ref b] ∧ SqL K H1 a xs ∧ SqL K H1 b ys ∧
  ∀ (l : List (Addr × V × V)) (p : Addr), NewP H1 l → l.map (·.2.1) = xs.take (min xs.length ys.length) → l.map (·.2.2) = ys.take (min xs.length ys.length) → tupsU H1 l p = none → Q (.ref p) (upd (tupsU H1 l) p (.lst (l.map fun q => V.ref q.1)))
theorem pe_lzip {e e2 : Expr} {ta : TA} {p p2 q pos : Pos} (hc : X.calm = true) (hg : Gl X "list") (hm : X.mg "list" = none) (hg2 : Gl X "zip") (hm2 : X.mg "zip" = none) (ha : PA X [e, e2] ta)
    (hs : starEach [e, e2] X.env = (false, eval e X.env) :: starEach [e2] X.env := by rfl) (hpl : (backTo q (starEach [e2] X.env)).any (·.1) = false := by rfl) :
    PE X (.Call (.Name "list" p) [.Call (.Name "zip" p2) [e, e2] [] q] [] pos) (tLZip X.K ta) := by
  refine ⟨fun pins s σ H Q I h => ?_⟩
  refine Call_ (ld_blt I hg hm (u := .type "list") (by decide +kernel) ?_)
  refine PyProof.Rows.callWith_type1 (PyProof.Rows.args_cons ?_ rfl) rfl rfl
  refine Call_ (ld_blt I hg2 hm2 PyProof.Rows.boot_zip (PyProof.Rows.callWith_type1 (thn (ha.run q pins s σ H _ I h) fun us s1 ⟨vs, H1, I1, r1, q1⟩ => ?_) hs hpl))
  obtain ⟨a, b, xs, ys, ex, hqx, hqy, q1⟩ := q1
  subst ex
  obtain ⟨u1, u2, rfl, ra, rb⟩ := vals2 r1
  cases (show u1 = Value.ref a from ra)
  cases (show u2 = Value.ref b from rb)
  obtain ⟨its, rv, p1, hz1⟩ := I1.list hqx
  obtain ⟨its2, rv2, pq2, hz2⟩ := I1.list hqy
  have la : a < s1.heap.objs.size := p1.lt
  have lb : b < s1.heap.objs.size := pq2.lt
  refine call_zip_2 p1.isList pq2.isList fun h' hz hTI hTO h1 h2 hsz hk => ?_
  refine PyProof.Rows.args_nil ?_
  have hmin : min its.toArray.size its2.toArray.size = min xs.length ys.length := by simp [← rv.length, ← rv2.length]
  refine list_zip (s := { s1 with heap := h' }) (I1.ok.hd hc) (PySem.W.ktu_apart s1.heap.objs.size a b la lb) ?_ (by rw [hmin]; exact Nat.le_trans (Nat.min_le_left _ _) hz1) hz hTI hTO h1 h2 (p1.isList.at fun o e => hk a o e) (pq2.isList.at fun o e => hk b o e) fun s' Ts c g1 g2 g3 g4 g5 g6 g7 g8 => ?_
  · show _ < h'.objs.size ∧ _ < h'.objs.size ∧ _ < h'.objs.size ∧ _ < h'.objs.size ∧ _ < h'.objs.size ∧ a < h'.objs.size ∧ b < h'.objs.size
    rw [hsz]
    have la' : (a : Nat) < s1.heap.objs.size := la
    have lb' : (b : Nat) < s1.heap.objs.size := lb
    refine ⟨?_, ?_, ?_, ?_, ?_, ?_, ?_⟩ <;> (first | exact Nat.lt_succ_self _ | exact Nat.add_lt_add_left (by decide) _ | exact Nat.lt_of_lt_of_le la (Nat.le_add_right _ _) | exact Nat.lt_of_lt_of_le lb (Nat.le_add_right _ _) | exact Nat.lt_add_of_pos_right (by decide))
  · have hsz' : h'.objs.size = s1.heap.objs.size + 5 := hsz
    have kept : ∀ b o, s1.heap.get? b = some o → s'.heap.get? b = some o := fun b o e => by
      have hb := Heap.lt_size e
      exact g8 b o (Nat.ne_of_lt (Nat.lt_of_lt_of_le hb (Nat.le_add_right _ _))) (Nat.ne_of_lt (Nat.lt_of_lt_of_le hb (Nat.le_add_right _ _))) (Nat.ne_of_lt hb) (Nat.ne_of_lt (Nat.lt_of_lt_of_le hb (Nat.le_add_right _ _))) (hk b o e)
    generalize hn : min xs.length ys.length = n at hmin
    have hl1 : (xs.take n).length = n := by rw [List.length_take]; omega
    have hl2 : (ys.take n).length = n := by rw [List.length_take]; omega
    have hT : Ts.length = n := g6.trans hmin
    have hz2' : ((xs.take n).zip (ys.take n)).length = n := by rw [List.length_zip, hl1, hl2, Nat.min_self]
    obtain ⟨l, hl⟩ : ∃ l, l = Ts.zip ((xs.take n).zip (ys.take n)) := ⟨_, rfl⟩
    have m1 : l.map (·.1) = Ts := by rw [hl]; exact List.map_fst_zip (by rw [hT, hz2']; exact Nat.le_refl _)
    have m2 : l.map (·.2) = (xs.take n).zip (ys.take n) := by rw [hl]; exact List.map_snd_zip (by rw [hT, hz2']; exact Nat.le_refl _)
    have m3 : l.map (·.2.1) = xs.take n := by
      have : (l.map (·.2)).map (·.1) = xs.take n := by rw [m2]; exact List.map_fst_zip (by rw [hl1, hl2]; exact Nat.le_refl _)
      rwa [List.map_map] at this
    have m4 : l.map (·.2.2) = ys.take n := by
      have : (l.map (·.2)).map (·.2) = ys.take n := by rw [m2]; exact List.map_snd_zip (by rw [hl1, hl2]; exact Nat.le_refl _)
      rwa [List.map_map] at this
    have m5 : (l.map fun q => V.ref q.1) = Ts.map V.ref := by rw [← m1, List.map_map]; rfl
    have hTlo : ∀ T ∈ Ts, s1.heap.objs.size + 6 ≤ T := fun T hm => by
      have := g4 T hm
      have e : h'.objs.size + 1 = s1.heap.objs.size + 6 := by rw [hsz']
      rw [← e]
      exact this
    have newp : NewP H1 l := ⟨fun q hq => I1.hok.fresh (Nat.le_trans (Nat.le_add_right _ 6) (hTlo q.1 (by rw [← m1]; exact List.mem_map.mpr ⟨q, hq, rfl⟩))), by rw [m1]; exact g5⟩
    have hp0 : ∀ q ∈ l, q.1 ≠ h'.objs.size := fun q hq e => by
      have := g4 q.1 (by rw [← m1]; exact List.mem_map.mpr ⟨q, hq, rfl⟩)
      rw [e] at this
      exact absurd this (Nat.not_succ_le_self _)
    have hpn : tupsU H1 l h'.objs.size = none := by
      rw [tupsU_at hp0]
      exact I1.hok.fresh (by rw [hsz']; exact Nat.le_add_right _ _)
    have prs : ∀ q ∈ l, ∃ x y, IsPair s'.heap q.1 x y ∧ RelV q.2.1 x ∧ RelV q.2.2 y := fun q hq => by
      obtain ⟨j, hj⟩ := List.getElem?_of_mem hq
      have j1 : Ts[j]? = some q.1 := by rw [← m1, List.getElem?_map, hj]; rfl
      have j2 : (xs.take n)[j]? = some q.2.1 := by rw [← m3, List.getElem?_map, hj]; rfl
      have j3 : (ys.take n)[j]? = some q.2.2 := by rw [← m4, List.getElem?_map, hj]; rfl
      obtain ⟨x, y, e1, e2, pr⟩ := g3 j q.1 j1
      have k2 : xs[j]? = some q.2.1 := by
        have := List.getElem?_take_of_lt (l := xs) (show j < n by rw [← hT]; exact (List.getElem?_eq_some_iff.mp j1).1)
        rw [← this]
        exact j2
      have k3 : ys[j]? = some q.2.2 := by
        have := List.getElem?_take_of_lt (l := ys) (show j < n by rw [← hT]; exact (List.getElem?_eq_some_iff.mp j1).1)
        rw [← this]
        exact j3
      obtain ⟨w1, f1, r1⟩ := rv.get k2
      obtain ⟨w2, f2, r2⟩ := rv2.get k3
      have x1 : w1 = x := by
        have : its[j]? = some x := by simpa using e1
        rw [f1] at this
        exact Option.some.inj this
      have x2 : w2 = y := by
        have : its2[j]? = some y := by simpa using e2
        rw [f2] at this
        exact Option.some.inj this
      exact ⟨x, y, pr, x1 ▸ r1, x2 ▸ r2⟩
    have old : ∀ b, b < s1.heap.objs.size → upd (tupsU H1 l) h'.objs.size (.lst (l.map fun q => V.ref q.1)) b = H1 b := fun b hb => by
      rw [upd_ne (Nat.ne_of_lt (Nat.lt_of_lt_of_le hb (by rw [hsz']; exact Nat.le_add_right _ _)))]
      refine tupsU_at fun q hq e => ?_
      have := hTlo q.1 (by rw [← m1]; exact List.mem_map.mpr ⟨q, hq, rfl⟩)
      rw [e] at this
      exact absurd (Nat.lt_of_lt_of_le hb (Nat.le_trans (Nat.le_add_right _ 6) this)) (Nat.lt_irrefl _)
    have oldS : ∀ {b : Addr} {o : HO}, H1 b = some o → upd (tupsU H1 l) h'.objs.size (.lst (l.map fun q => V.ref q.1)) b = some o := fun e => by rw [old _ (I1.hok.lt e)]; exact e
    have hok : HOk X.prog X.w (upd (tupsU H1 l) h'.objs.size (.lst (l.map fun q => V.ref q.1))) s'.heap :=
      HOk.track (HOk.tracks (I1.hok.kept kept) newp prs) hpn ⟨by rw [m5, List.length_map, hT, ← hn]; exact Nat.le_trans (Nat.min_le_left _ _) hz1, Ts.map Value.ref, c, by rw [m5]; exact vals_refs Ts, g7⟩
    have un : Un (frs X.stack) [] H1 (upd (tupsU H1 l) h'.objs.size (.lst (l.map fun q => V.ref q.1))) s1.heap s'.heap :=
      ⟨fun b o e _ _ _ => kept b o e, fun b o e _ _ _ => ⟨o.slots, kept b o e⟩, fun b o e n _ => by rw [old b (Heap.lt_size e)]; exact n, fun b o e _ => ⟨o, kept b o e⟩, fun b zs e => oldS e, fun b o u e => oldS e, fun b ps e => ⟨#[], by rw [oldS e]; simp⟩⟩
    have J : Inv X pins σ (upd (tupsU H1 l) h'.objs.size (.lst (l.map fun q => V.ref q.1))) s' := Inv.call' (ch := []) I1 g2 un hok (by rw [g1]; exact I1.bare) (fun _ z => nomatch z)
    exact ⟨.ref h'.objs.size, _, J, rfl, q1 l h'.objs.size newp (by rw [m3, hn]) (by rw [m4, hn]) hpn⟩
end
end G
/-! My base, part 17: xs.extend(a tuple). -/
namespace G
open PySem PySem.Spec PyProof.Rows L2 TL
theorem ext_tup (l : Addr) (xs : Array Value) (n : Nat) (b : Addr) (ys : Array Value) (n2 : Nat) (dd : Option Addr) (sl : Array (Option Value)) (h0 : ¬(!xs.isEmpty && Builtin.List.listTooLong (xs.size + ys.size)) = true) (h1 : xs.size ≤ sizeLine) (h2 : xs.size + ys.size ≤ sizeLine + 1) :
    Meets (Builtin.«list.extend» ⟨[.ref l, .ref b], []⟩) (fun _ R s => s.heap.get? l = some { cls := .type "list", dict := none, data := .seq xs n, slots := #[] } ∧ s.heap.get? b = some { cls := .type "tuple", dict := dd, data := .seq ys n2, slots := sl } ∧ R (.ok (.ret Value.none)) { s with heap := s.heap.update l (Obj.mapSeq fun x => x ++ ys), toks := s.toks }) :=
  .of_wp fun prog w A R s h => by
    obtain ⟨hp, g, d, tk, os⟩ := s; obtain ⟨hl, hb, h⟩ := h; have q1 := AutoSeq1.idx_int; have q2 := AutoSeq1.sub_tuple_tuple; have q3 := AutoSeq1.sub_list_list; have q4 := AutoSeq1.sub_tuple_list; have q5 := AutoSeq1.sub_list_tuple
    have hz : (xs ++ ys).size ≤ sizeLine + 1 := by rw [Array.size_append]; exact h2
    wp_walk using (wpAny_updateSeq hl rfl (hz := h1) (_hz' := hz)), AutoSeq1.wpAny_loadPart' hl, AutoSeq1.wpAny_loadPart' hb; exact ⟨_, rfl, h⟩
section
variable {X : Cx}
def rExtT (K : PySem.W.Frag) : V → List V → Hp → VK → Prop := fun x vs H Q => ∃ l b xs zs, x = .ref l ∧ vs = [.ref b] ∧ H l = some (.lst xs) ∧ SqT K H b zs ∧ xs.length + zs.length ≤ sizeLine ∧ Q .non (upd H l (.lst (xs ++ zs)))
theorem mt_extT : MtM X "list.extend" (rExtT X.K) := by
  intro pins s σ H x vs v us Q I rx rv h
  obtain ⟨l, b, xs, zs, rfl, rfl, hH, hB, hz, q⟩ := h
  cases rx
  obtain ⟨u, rfl, ru⟩ := rv.one
  cases ru
  obtain ⟨z, its, n, r, hl, e⟩ := I.lstM hH
  obtain ⟨its2, r2, ⟨⟨oc, od, dt, sl⟩, ho, hc, n2, hd⟩, hz2⟩ := I.tuple hB
  simp only at hc hd
  subst hc; subst hd
  have hl2 := r2.length
  have hsz : its.toArray.size + its2.toArray.size ≤ sizeLine := by rw [List.size_toArray, List.size_toArray]; omega
  have hlong : ¬ (!its.toArray.isEmpty && Builtin.List.listTooLong (its.toArray.size + its2.toArray.size)) = true := by rw [notLongL hsz, Bool.and_false]; exact Bool.false_ne_true
  refine call_meets F.slot_list_extend ⟨_, e, rfl⟩ F.entry_list_extend (F.args_list_extend_2 _ _) (ext_tup l its.toArray n b its2.toArray n2 od sl hlong (by rw [List.size_toArray]; omega) (by omega)) ⟨e, ho, ?_⟩
  exact ⟨.non, _, I.lset (its' := its ++ its2) hH e (by simp) (r.append r2) (by rw [List.length_append]; omega), rfl, q⟩
end
end G
/-! My base, part 18: what list(zip(..)) stands for; extend. -/
namespace G
open PySem PySem.Spec PyProof.Rows L2 TL
theorem zip_tk {α β : Type} : ∀ (xs : List α) (ys : List β) (n : Nat), n = min xs.length ys.length → (xs.take n).zip (ys.take n) = xs.zip ys
  | [], ys, n, h => by simp
  | x :: xs, [], n, h => by simp
  | x :: xs, y :: ys, n, h => by
    have e : n = min xs.length ys.length + 1 := by rw [h, List.length_cons, List.length_cons]; omega
    subst e
    rw [List.take_succ_cons, List.take_succ_cons, List.zip_cons_cons, List.zip_cons_cons, zip_tk xs ys _ rfl]
section
variable {α β : Type} [Enc α] [Enc β] {K : PySem.W.Frag} {F H : Hp} {l : List (Addr × V × V)} {ws ws2 : List V} {xs : List α} {ys : List β}
theorem RL.tk (n : Nat) (h : RL K F ws xs) : RL K F (ws.take n) (xs.take n) := by
  show RpA K F _ _
  rw [List.map_take]
  exact RpA.take n h
theorem lz_RL (nw : NewP H l) (sm : Same F (tupsU F l)) (e1 : l.map (·.2.1) = ws.take (min ws.length ws2.length)) (e2 : l.map (·.2.2) = ws2.take (min ws.length ws2.length)) (h1 : RL K F ws xs) (h2 : RL K F ws2 ys) :
    RL K (tupsU F l) (l.map fun q => V.ref q.1) (List.zip xs ys) := by
  rw [← zip_tk xs ys (min ws.length ws2.length) (by rw [h1.len, h2.len])]
  refine tupsU_RL nw.nd (fun q hq => tupsU_in nw.nd hq) ?_ ?_
  · rw [e1]
    exact RpA.up (RL.tk _ h1) sm
  · rw [e2]
    exact RpA.up (RL.tk _ h2) sm
theorem lz_len (e1 : l.map (·.2.1) = ws.take (min ws.length ws2.length)) (hl : ws.length ≤ sizeLine) : (l.map fun q => V.ref q.1).length ≤ sizeLine := by
  have h := congrArg List.length e1
  rw [List.length_map, List.length_take] at h
  rw [List.length_map, h]
  exact Nat.le_trans (Nat.min_le_right _ _) hl
end
def extL {α : Type} (xs ys : List α) : Option (List α) := conL xs ys
end G
/-! My base, part 19: rules that name K. -/
namespace G
open PySem PySem.Spec PyProof.Rows L2 TL
theorem RL.re {α : Type} [Enc α] {K : PySem.W.Frag} {F : Hp} {ws : List V} {x y : List α} (h : x = y) (r : RL K F ws x) : RL K F ws y := h ▸ r
section
variable {X : Cx} {K : PySem.W.Frag}
theorem ix_listK (h : X.K = K := by rfl) : IxR X (rIxL K) := h ▸ ix_list
theorem ix_tupK (h : X.K = K := by rfl) : IxR X (rIxT K) := h ▸ ix_tup
theorem sl_listK (h : X.K = K := by rfl) : SlR X (rSlL K) := h ▸ sl_list
theorem call_lenLK (h : X.K = K := by rfl) : CallR X (.builtin "len") (fun xs H Q => ∃ p ys n, xs = [.ref p] ∧ (SqL K H p ys ∨ SqT K H p ys) ∧ ys.length = n ∧ Q (.int (n : Nat)) H) := by subst h; exact call_lenL
theorem call_isi_ (h : X.K = K := by rfl) : CallR X (.builtin "isinstance") (rIsi K) := by subst h; exact call_isi
theorem call_list_of_ (h : X.K = K := by rfl) : CallR X (.type "list") (fun xs H Q => ∃ p ys, xs = [.ref p] ∧ (SqL K H p ys ∨ SqT K H p ys) ∧ ∀ l, H l = none → Q (.ref l) (upd H l (.lst ys))) := by subst h; exact call_list_of
theorem cr_all_ (hc : X.calm = true) (h : X.K = K := by rfl) : CallR X (.builtin "all") (rAll K) := by subst h; exact cr_all hc
theorem cr_any_ (hc : X.calm = true) (h : X.K = K := by rfl) : CallR X (.builtin "any") (rAny K) := by subst h; exact cr_any hc
theorem cr_sortedI_ (h : X.K = K := by rfl) : CallR X (.builtin "sorted") (rSortedI K) := by subst h; exact cr_sortedI
theorem op_catLK (h : X.K = K := by rfl) : OpR X (binaryOp .Add) (rCatL K) := by subst h; exact op_catL
theorem op_eqDK (hu : X.A.units + 64 < cLine) (h : X.K = K := by rfl) : OpR X (compareOp .Eq) (rEqD K) := by subst h; exact op_eqD hu
theorem op_neDK (hu : X.A.units + 64 < cLine) (h : X.K = K := by rfl) : OpR X (compareOp .NotEq) (rNeD K) := by subst h; exact op_neD hu
theorem pi_listK {tg l : Expr} {tl : TE} (hl : PE X l tl) (h : X.K = K := by rfl) : PI X tg l (iList K tl) := by subst h; exact pi_list hl
theorem pi_tupK {tg l : Expr} {tl : TE} (hl : PE X l tl) (h : X.K = K := by rfl) : PI X tg l (iTup K tl) := by subst h; exact pi_tup hl
theorem pg_tupK {es : List Expr} {k : Nat} {pos : Pos} {t : TGs} (n : Nat) (hc : X.calm = true) (ht : PGs X es t) (h : X.K = K := by rfl)
    (hn : (assignEach es X.env).length = n := by rfl) (hst : (assignEach es X.env).findIdx? (·.1) = none := by rfl) : PG X (.Tuple es k pos) (gTup K n t) := by subst h; exact pg_tup hc ht hn hst
theorem pe_bmK {o e : Expr} {es : List Expr} {to : TE} {t : TA} {name : Str} {apos cpos : Pos} {T id : String} {r : V → List V → Hp → VK → Prop} (pa : PlainAttrs T) (slot : Slot T name id) (hty : typeOf (.builtin id) = pure (.type "method_descriptor")) (hm : MtR X id r) (ho : PE X o to) (ha : PA X (e :: es) t) (h : X.K = K := by rfl)
    (hbase : attributeBase o name X.env (eval o X.env) = eval o X.env := by rfl)
    (hfew : ((backTo cpos (starEach (e :: es) X.env)).all (fun x => !x.1) && (backToKw cpos (keywordEach [] X.env)).all (fun x => x.1.isSome) && decide ((e :: es).length + ([] : List Keyword).length + (if ([] : List Keyword).isEmpty then 0 else 1) < 30)) = true := by rfl)
    (hline : (apos.endLine == cpos.line) = true := by rfl) (hs : starEach (e :: es) X.env = (false, eval e X.env) :: starEach es X.env := by rfl) (hplain : (backTo cpos (starEach es X.env)).any (·.1) = false := by rfl) :
    PE X (.Call (.Attribute o name apos) (e :: es) [] cpos) (tBM K T r to t) := by subst h; exact pe_bm pa slot hty hm ho ha hbase hfew hline hs hplain
theorem pe_bm0K {o : Expr} {to : TE} {name : Str} {apos cpos : Pos} {T id : String} {r : V → List V → Hp → VK → Prop} (pa : PlainAttrs T) (slot : Slot T name id) (hty : typeOf (.builtin id) = pure (.type "method_descriptor")) (hm : MtR X id r) (ho : PE X o to) (h : X.K = K := by rfl)
    (hbase : attributeBase o name X.env (eval o X.env) = eval o X.env := by rfl) (hline : (apos.endLine == cpos.line) = true := by rfl) : PE X (.Call (.Attribute o name apos) [] [] cpos) (tBM0 K T r to) := by subst h; exact pe_bm0 pa slot hty hm ho hbase hline
def rJoin (K : PySem.W.Frag) : V → List V → Hp → VK → Prop := fun x xs H Q => ∃ a p, ∃ ys : List Str, x = .str a ∧ xs = [.ref p] ∧ (SqL K H p (ys.map V.str) ∨ SqT K H p (ys.map V.str)) ∧
  (ys.map (·.length)).sum + ys.length * a.length ≤ 16777216 ∧ Q (.str (Txt.join a ys)) H
theorem pe_joinK {o e : Expr} {to te : TE} {apos pos : Pos} (ho : PE X o to) (he : PE X e te) (h : X.K = K := by rfl) (hs : starEach [e] X.env = [(false, eval e X.env)] := by rfl) (hbase : attributeBase o "join" X.env (eval o X.env) = eval o X.env := by rfl) (hline : (apos.endLine == pos.line) = true := by rfl) :
    PE X (.Call (.Attribute o "join" apos) [e] [] pos) (tM1 (rJoin K) to te) := by subst h; exact pe_join ho he hs hbase hline
theorem pe_revLK {e : Expr} {te : TE} {k : Nat} {p1 p2 p3 pos : Pos} (he : PE X e te) (h : X.K = K := by rfl) : PE X (.Subscript e (.Slice none none (some (.UnaryOp .USub (.Constant (.int 1) k p1) p2)) p3) pos) (tRevL K te) := by subst h; exact pe_revL he
theorem pe_ssetK {a : Expr} {ta : TE} {p p2 q pos : Pos} (hc : X.calm = true) (hg : Gl X "sorted") (hm : X.mg "sorted" = none) (hg2 : Gl X "set") (hm2 : X.mg "set" = none) (ha : PE X a ta) (h : X.K = K := by rfl)
    (na : starEach [a] X.env = (false, eval a X.env) :: starEach [] X.env := by rfl) : PE X (.Call (.Name "sorted" p) [.Call (.Name "set" p2) [a] [] q] [] pos) (tSSet K ta) := by subst h; exact pe_sset hc hg hm hg2 hm2 ha na
theorem pe_lzipK {e e2 : Expr} {ta : TA} {p p2 q pos : Pos} (hc : X.calm = true) (hg : Gl X "list") (hm : X.mg "list" = none) (hg2 : Gl X "zip") (hm2 : X.mg "zip" = none) (ha : PA X [e, e2] ta) (h : X.K = K := by rfl)
    (hs : starEach [e, e2] X.env = (false, eval e X.env) :: starEach [e2] X.env := by rfl) (hpl : (backTo q (starEach [e2] X.env)).any (·.1) = false := by rfl) :
    PE X (.Call (.Name "list" p) [.Call (.Name "zip" p2) [e, e2] [] q] [] pos) (tLZip K ta) := by subst h; exact pe_lzip hc hg hm hg2 hm2 ha hs hpl
theorem mt_extTK (h : X.K = K := by rfl) : MtM X "list.extend" (rExtT K) := by subst h; exact mt_extT
end
end G
/-! Plain laws: how the makings come out. -/
namespace G
open PySem PySem.Spec PyProof.Rows L2 TL
section
variable {α β γ δ S : Type} {I : S → Prop}
def O1 (o : Option α) (P : α → Prop) : Prop := ∃ a, o = some a ∧ P a
def O2 (I : S → Prop) (o : Option (α × S)) (P : α → Prop) : Prop := ∃ a b, o = some (a, b) ∧ I b ∧ P a
theorem O1.ret {a : α} {P : α → Prop} (h : P a) : O1 (some a) P := ⟨a, rfl, h⟩
theorem O1.imp {o : Option α} {P Q : α → Prop} (h : O1 o P) (k : ∀ a, P a → Q a) : O1 o Q := let ⟨a, e, p⟩ := h; ⟨a, e, k a p⟩
theorem O1.bind {o : Option α} {f : α → Option β} {P : α → Prop} {Q : β → Prop} (h : O1 o P) (k : ∀ a, P a → O1 (f a) Q) : O1 (Option.bind o f) Q := by
  obtain ⟨a, rfl, p⟩ := h
  exact k a p
theorem O2.ret {a : α} {b : S} {P : α → Prop} (hb : I b) (h : P a) : O2 I (some (a, b)) P := ⟨a, b, rfl, hb, h⟩
theorem O2.imp {o : Option (α × S)} {P Q : α → Prop} (h : O2 I o P) (k : ∀ a, P a → Q a) : O2 I o Q := let ⟨a, b, e, i, p⟩ := h; ⟨a, b, e, i, k a p⟩
theorem O2.bind1 {o : Option α} {f : α → Option (β × S)} {P : α → Prop} {Q : β → Prop} (h : O1 o P) (k : ∀ a, P a → O2 I (f a) Q) : O2 I (Option.bind o f) Q := by
  obtain ⟨a, rfl, p⟩ := h
  exact k a p
theorem O2.ite {c : Bool} {x y : Option (α × S)} {P : α → Prop} (h1 : c = true → O2 I x P) (h2 : c = false → O2 I y P) : O2 I (if c = true then x else y) P := by
  cases c with
  | true => exact h1 rfl
  | false => exact h2 rfl
theorem O1.ite {c : Bool} {x y : Option α} {P : α → Prop} (h1 : c = true → O1 x P) (h2 : c = false → O1 y P) : O1 (if c = true then x else y) P := by
  cases c with
  | true => exact h1 rfl
  | false => exact h2 rfl
end
section
variable {α β : Type} {S : Type} {I : S → Prop}
theorem O2.bind {o : Option (α × S)} {f : α → S → Option (β × S)} {P : α → Prop} {Q : β → Prop} (h : O2 I o P) (k : ∀ a b, I b → P a → O2 I (f a b) Q) : O2 I (bind2 o f) Q := by
  obtain ⟨a, b, rfl, i, p⟩ := h
  exact k a b i p
end
section
variable {α β γ δ R T S : Type} {I : S → Prop} {Q : T → Prop} {g : R → Option (T × S)}
theorem O2.bL0 {o : Option (Lp Unit R)} {f : Option (T × S)} (e : o = some (.go ())) (k : O2 I f Q) : O2 I (bindL0 o f g) Q := by subst e; exact k
theorem O2.bL1 {o : Option (Lp α R)} {f : α → Option (T × S)} {a : α} (e : o = some (.go a)) (k : O2 I (f a) Q) : O2 I (bindL1 o f g) Q := by subst e; exact k
theorem O2.bL2 {o : Option (Lp (α × β) R)} {f : α → β → Option (T × S)} {a : α} {b : β} (e : o = some (.go (a, b))) (k : O2 I (f a b) Q) : O2 I (bindL2 o f g) Q := by subst e; exact k
theorem O2.bL3 {o : Option (Lp (α × β × γ) R)} {f : α → β → γ → Option (T × S)} {a : α} {b : β} {c : γ} (e : o = some (.go (a, b, c))) (k : O2 I (f a b c) Q) : O2 I (bindL3 o f g) Q := by subst e; exact k
end
theorem O2.true_ {S : Type} {I : S → Prop} {o : Option (Bool × S)} (h : O2 I o (fun r => r = true)) : ∃ b, o = some (true, b) := by
  obtain ⟨r, b, e, _, rfl⟩ := h
  exact ⟨b, e⟩
/-! ### lists and texts -/
theorem atI_O {α : Type} {xs : List α} {i : Int} {P : α → Prop} (h0 : 0 ≤ i) (h1 : i < xs.length) (h : ∀ x ∈ xs, P x) : O1 (atI xs i) P := by
  obtain ⟨n, rfl⟩ := Int.eq_ofNat_of_zero_le h0
  have hn : n < xs.length := by omega
  have e : xs[n]? = some xs[n] := List.getElem?_eq_getElem hn
  exact ⟨_, atI_nat e, h _ (List.getElem_mem hn)⟩
theorem tl_inj {x y : Str} (h : tl x = tl y) : x = y := by
  obtain ⟨⟨l⟩⟩ := x
  obtain ⟨⟨m⟩⟩ := y
  have h' : l = m := h
  rw [h']
theorem eqS_tl {x y : Str} : eqS x y = decide (tl x = tl y) := by
  rw [eqS_iff]
  exact decide_eq_decide.mpr ⟨fun h => by rw [h], tl_inj⟩
theorem tl_cut {z : Str} {lo hi : Option Int} : tl (cutS z lo hi) = ((tl z).drop (HT.sIx (tl z).length 0 lo)).take (HT.sIx (tl z).length (tl z).length hi - HT.sIx (tl z).length 0 lo) := by
  rw [← len_tl]
  unfold cutS tl
  rfl
theorem sIx_neg (n d : Nat) {k : Nat} (hk : 0 < k) : HT.sIx n d (some (-(k : Int))) = n - k := by
  show (if (-(k : Int)) < 0 then (-(k : Int) + (n : Int)).toNat else min (-(k : Int)).toNat n) = n - k
  rw [if_pos (by omega)]
  omega
theorem sIx_neg1 (n d : Nat) : HT.sIx n d (some (-1)) = n - 1 := sIx_neg n d (k := 1) (by decide)
theorem sIx_n (n d : Nat) : HT.sIx n d none = d := rfl
theorem tl_sgn (c : Nat) : tl (sgn c) = [c] := rfl
theorem catS_O {a b : Str} {P : Str → Prop} (h : (tl a).length + (tl b).length ≤ 16777216) (p : P (a ++ b)) : O1 (catS a b) P := by
  refine ⟨a ++ b, ?_, p⟩
  unfold catS
  rw [if_pos (by rw [len_tl, len_tl, sizeLine_eq]; exact h)]
theorem mulS_O {x : Str} {n : Int} {P : Str → Prop} (h1 : -(2 ^ 63 : Int) ≤ n) (h2 : n ≤ 16777216) (h3 : (tl x).length * n.toNat ≤ 16777216) (p : P (Txt.mul x n)) : O1 (mulS x n) P := by
  refine ⟨_, ?_, p⟩
  unfold mulS
  rw [if_pos ⟨h1, h2, by rw [len_tl]; exact h3⟩]
theorem codeAt_O {x : Str} {i : Int} {P : Nat → Prop} (h0 : 0 ≤ i) (h1 : i < (tl x).length) (h : ∀ c ∈ tl x, P c) : O1 (codeAt x i) P := atI_O h0 h1 h
theorem rangeO1_O {n : Int} {P : List Int → Prop} (h : n ≤ 16777216) (h0 : -(2 ^ 62) ≤ n) (p : P (rangeL 0 n.toNat)) : O1 (rangeO1 n) P := by
  refine ⟨_, ?_, p⟩
  unfold rangeO1
  rw [if_pos ⟨⟨h0, by omega⟩, by rw [sizeLine_eq]; omega⟩]
theorem joinS_O {sep : Str} {ys : List Str} {P : Str → Prop} (h : (ys.map fun y => (tl y).length).sum + ys.length * (tl sep).length ≤ 16777216) (p : P (Txt.join sep ys)) : O1 (joinS sep ys) P := by
  refine ⟨_, ?_, p⟩
  unfold joinS
  rw [if_pos]
  have e : (ys.map fun y => y.length) = ys.map fun y => (tl y).length := List.map_congr_left fun y _ => len_tl y
  show (ys.map fun y => y.length).sum + ys.length * sep.length ≤ _
  rw [e, len_tl]
  exact h
theorem tl_empty : tl ("" : Str) = [] := by decide +kernel
theorem joinL_nil : ∀ (ys : List (List Nat)), joinL [] ys = ys.flatten
  | [] => rfl
  | [y] => by show y = [y].flatten; simp
  | y :: z :: r => by
    show y ++ ([] ++ joinL [] (z :: r)) = _
    rw [joinL_nil (z :: r)]
    simp
theorem tl_join0 (ys : List Str) : tl (Txt.join ("" : Str) ys) = (ys.map tl).flatten := by rw [tl_joinS, tl_empty, joinL_nil]
/-- a text of no more than n signs -/
def Sh (n : Nat) (x : Str) : Prop := (tl x).length ≤ n
theorem Sh.mono {n m : Nat} {x : Str} (h : Sh n x) (k : n ≤ m) : Sh m x := Nat.le_trans h k
theorem Sh.cut {n : Nat} {x : Str} {lo hi : Option Int} (h : Sh n x) : Sh n (cutS x lo hi) := by
  unfold Sh at *
  rw [tl_cut, List.length_take, List.length_drop]
  omega
theorem Sh.sgn {c : Nat} : Sh 1 (sgn c) := Nat.le_refl 1
theorem Sh.rev {n : Nat} {x : Str} (h : Sh n x) : Sh n (revS x) := by
  unfold Sh at *
  rw [tl_revS, List.length_reverse]
  exact h
theorem Sh.cat {n m : Nat} {a b : Str} (ha : Sh n a) (hb : Sh m b) : Sh (n + m) (a ++ b) := by
  unfold Sh at *
  rw [tl_append, List.length_append]
  omega
theorem Sh.cat_O {n m : Nat} {a b : Str} (ha : Sh n a) (hb : Sh m b) (h : n + m ≤ 16777216 := by decide) : O1 (catS a b) (Sh (n + m)) :=
  catS_O (Nat.le_trans (Nat.add_le_add ha hb) h) (ha.cat hb)
theorem tl_mul_len (x : Str) (n : Int) : (tl (Txt.mul x n)).length = n.toNat * (tl x).length := by
  rw [tl_mul, List.length_flatten, List.map_replicate, List.sum_replicate_nat]
theorem Sh.mul_O {n m : Nat} {x : Str} {i : Int} (hx : Sh n x) (h0 : -1000000 ≤ i) (h1 : i ≤ (m : Nat)) (h2 : m * n ≤ 16777216) (h3 : m ≤ 16777216) : O1 (mulS x i) (Sh (m * n)) := by
  have h4 : i.toNat ≤ m := by omega
  have h5 : i.toNat * (tl x).length ≤ m * n := Nat.mul_le_mul h4 hx
  refine mulS_O (by omega) (by omega) (by rw [Nat.mul_comm]; omega) ?_
  unfold Sh
  rw [tl_mul_len]
  exact h5
theorem sh_sum {n : Nat} : ∀ {ys : List Str}, (∀ y ∈ ys, Sh n y) → (ys.map fun y => (tl y).length).sum ≤ ys.length * n
  | [], _ => by simp
  | y :: ys, h => by
    have h1 := sh_sum (n := n) (ys := ys) fun z hz => h z (List.mem_cons_of_mem _ hz)
    have h2 : (tl y).length ≤ n := h y (List.mem_cons_self ..)
    rw [List.map_cons, List.sum_cons, List.length_cons, Nat.add_mul, Nat.one_mul]
    omega
theorem Sh.join_O {n m : Nat} {ys : List Str} (h : ∀ y ∈ ys, Sh n y) (hm : ys.length ≤ m) (h2 : m * n ≤ 16777216) : O1 (joinS ("" : Str) ys) (Sh (m * n)) := by
  have h1 := sh_sum h
  have h3 : ys.length * n ≤ m * n := Nat.mul_le_mul_right n hm
  have e : (tl ("" : Str)).length = 0 := by rw [tl_empty]; rfl
  refine joinS_O (by rw [e]; omega) ?_
  unfold Sh
  rw [tl_join0, List.length_flatten, List.map_map]
  exact Nat.le_trans h1 h3
theorem rangeL_length {lo : Int} {n : Nat} : (rangeL lo n).length = n := rangeL_len lo n
/-! ### == of data -/
class EqvD (α : Type) [Enc α] : Prop where
  iff : ∀ x y : α, PyData.eqv (Enc.d x) (Enc.d y) = true ↔ x = y
instance : EqvD Int := ⟨fun x y => by show (x == y) = true ↔ _; exact beq_iff_eq⟩
instance : EqvD Bool := ⟨fun x y => by show (x == y) = true ↔ _; exact beq_iff_eq⟩
instance : EqvD Str := ⟨fun x y => by show (x == y) = true ↔ _; exact beq_iff_eq⟩
instance {α : Type} [Enc α] [EqvD α] [NN α] : EqvD (Option α) := ⟨fun x y => by
  cases x with
  | none =>
    cases y with
    | none => exact ⟨fun _ => rfl, fun _ => rfl⟩
    | some y =>
      have n := NN.ne y
      refine ⟨fun h => ?_, (fun h => nomatch h)⟩
      have h' : PyData.eqv .none (Enc.d y) = true := h
      revert h' n
      generalize Enc.d y = d
      intro n h'
      cases d <;> first | exact absurd rfl n | cases h'
  | some x =>
    cases y with
    | none =>
      have n := NN.ne x
      refine ⟨fun h => ?_, (fun h => nomatch h)⟩
      have h' : PyData.eqv (Enc.d x) .none = true := h
      revert h' n
      generalize Enc.d x = d
      intro n h'
      cases d <;> first | exact absurd rfl n | cases h'
    | some y => exact ⟨fun h => congrArg some ((EqvD.iff x y).mp h), fun h => (EqvD.iff x y).mpr (Option.some.inj h)⟩⟩
theorem eqvAll_iff {α : Type} [Enc α] [EqvD α] : ∀ xs ys : List α, PyData.eqvAll (xs.map Enc.d) (ys.map Enc.d) = true ↔ xs = ys
  | [], [] => ⟨fun _ => rfl, fun _ => rfl⟩
  | [], _ :: _ => ⟨(fun h => nomatch h), (fun h => nomatch h)⟩
  | _ :: _, [] => ⟨(fun h => nomatch h), (fun h => nomatch h)⟩
  | x :: xs, y :: ys => by
    show (PyData.eqv (Enc.d x) (Enc.d y) && PyData.eqvAll (xs.map Enc.d) (ys.map Enc.d)) = true ↔ _
    rw [Bool.and_eq_true, EqvD.iff, eqvAll_iff xs ys, List.cons.injEq]
instance {α : Type} [Enc α] [EqvD α] : EqvD (List α) := ⟨fun x y => eqvAll_iff x y⟩
instance {α : Type} [Enc α] [EqvD α] : EqvD (VT α) := ⟨fun x y => by
  obtain ⟨x⟩ := x
  obtain ⟨y⟩ := y
  rw [VT.mk.injEq]
  exact eqvAll_iff x y⟩
instance {α β : Type} [Enc α] [Enc β] [EqvD α] [EqvD β] : EqvD (α × β) := ⟨fun x y => by
  obtain ⟨a, b⟩ := x
  obtain ⟨c, d⟩ := y
  show (PyData.eqv (Enc.d a) (Enc.d c) && (PyData.eqv (Enc.d b) (Enc.d d) && true)) = true ↔ _
  rw [Bool.and_true, Bool.and_eq_true, EqvD.iff, EqvD.iff, Prod.mk.injEq]⟩
instance {α β γ : Type} [Enc α] [Enc β] [Enc γ] [EqvD α] [EqvD β] [EqvD γ] : EqvD (T3 α β γ) := ⟨fun x y => by
  obtain ⟨a, b, e⟩ := x
  obtain ⟨c, d, f⟩ := y
  show (PyData.eqv (Enc.d a) (Enc.d c) && (PyData.eqv (Enc.d b) (Enc.d d) && (PyData.eqv (Enc.d e) (Enc.d f) && true))) = true ↔ _
  rw [Bool.and_true, Bool.and_eq_true, Bool.and_eq_true, EqvD.iff, EqvD.iff, EqvD.iff, T3.mk.injEq]⟩
instance {α β γ δ : Type} [Enc α] [Enc β] [Enc γ] [Enc δ] [EqvD α] [EqvD β] [EqvD γ] [EqvD δ] : EqvD (T4 α β γ δ) := ⟨fun x y => by
  obtain ⟨a, b, e, g⟩ := x
  obtain ⟨c, d, f, h⟩ := y
  show (PyData.eqv (Enc.d a) (Enc.d c) && (PyData.eqv (Enc.d b) (Enc.d d) && (PyData.eqv (Enc.d e) (Enc.d f) && (PyData.eqv (Enc.d g) (Enc.d h) && true)))) = true ↔ _
  rw [Bool.and_true, Bool.and_eq_true, Bool.and_eq_true, Bool.and_eq_true, EqvD.iff, EqvD.iff, EqvD.iff, EqvD.iff, T4.mk.injEq]⟩
theorem eqD_iff {α : Type} [Enc α] [EqvD α] {x y : α} : eqD x y = true ↔ x = y := EqvD.iff x y
theorem eqD_dec {α : Type} [Enc α] [EqvD α] [DecidableEq α] {x y : α} : eqD x y = decide (x = y) := by
  rw [Bool.eq_iff_iff, eqD_iff, decide_eq_true_iff]
theorem eqD_refl {α : Type} [Enc α] [EqvD α] (x : α) : eqD x x = true := eqD_iff.mpr rfl
theorem eqD_false {α : Type} [Enc α] [EqvD α] {x y : α} (h : x ≠ y) : eqD x y = false := Bool.eq_false_iff.mpr fun e => h (eqD_iff.mp e)
theorem alike_self {α : Type} [DecidableEq α] (x : α) : m_l_alike x x = some true := by
  unfold m_l_alike
  rw [if_pos rfl]
theorem bind2_some {α β γ : Type} {a : α} {b : β} {f : α → β → Option γ} : bind2 (some (a, b)) f = f a b := rfl
theorem notT {α : Type} {a b : α} : (if (!true) = true then a else b) = b := rfl
theorem alike_O {α : Type} [DecidableEq α] {x y : α} {P : Bool → Prop} (h : x = y) (p : P true) : O1 (m_l_alike x y) P := by
  refine ⟨true, ?_, p⟩
  unfold m_l_alike
  rw [if_pos h]
end G
/-! Plain laws: patterns, their worth, addresses written. -/
namespace G
open PySem PySem.Spec PyProof.Rows L2 TL
/-- a sign of '01' -/
def isB (c : Nat) : Bool := decide (c ∈ [48, 49])
theorem isB_iff {c : Nat} : isB c = true ↔ c = 48 ∨ c = 49 := by unfold isB; simp
theorem tl01 : tl ("01" : Str) = [48, 49] := by decide +kernel
theorem tlStar : tl ("*" : Str) = [42] := by decide +kernel
theorem tl0 : tl ("0" : Str) = [48] := by decide +kernel
theorem tl1 : tl ("1" : Str) = [49] := by decide +kernel
def Bits (bs : List Nat) : Prop := ∀ c ∈ bs, isB c = true
theorem Bits.nil : Bits [] := fun _ h => nomatch h
theorem Bits.app {a b : List Nat} (ha : Bits a) (hb : Bits b) : Bits (a ++ b) := fun c h => (List.mem_append.mp h).elim (ha c) (hb c)
theorem Bits.take {a : List Nat} (n : Nat) (ha : Bits a) : Bits (a.take n) := fun c h => ha c (List.mem_of_mem_take h)
theorem Bits.drop {a : List Nat} (n : Nat) (ha : Bits a) : Bits (a.drop n) := fun c h => ha c (List.mem_of_mem_drop h)
theorem Bits.one {c : Nat} (h : isB c = true) : Bits [c] := fun d hd => by rw [List.mem_singleton.mp hd]; exact h
theorem Bits.mem01 {c : Nat} (h : c ∈ tl ("01" : Str)) : isB c = true := by rw [tl01] at h; exact decide_eq_true h
theorem Bits.no42 {a : List Nat} (ha : Bits a) : 42 ∉ a := fun h => absurd (ha 42 h) (by decide)
/-- the pattern of w signs that bits bs make -/
def patL (w : Nat) (bs : List Nat) : List Nat := bs ++ (if bs.length < w then [42] else [])
structure Pat (w : Nat) (bs : List Nat) (x : Str) : Prop where
  bits : Bits bs
  le : bs.length ≤ w
  eq : tl x = patL w bs
theorem tl_strip (x y : Str) : tl (Txt.stripChars x y) = ((tl x).take (stripHi y.cps.contains true x (stripLo y.cps.contains true x))).drop (stripLo y.cps.contains true x) := by
  unfold Txt.stripChars
  rw [stripBy_eq]
  show (x.cps.extract _ _).toList = _
  rw [List.drop_take]
  simp [tl]
theorem tw0 {p : Nat → Bool} : ∀ l : List Nat, (∀ c, l.head? = some c → p c = false) → l.takeWhile p = []
  | [], _ => rfl
  | c :: r, h => by rw [List.takeWhile_cons, if_neg (by rw [h c rfl]; exact Bool.false_ne_true)]
theorem strip_star {x : Str} {bs st : List Nat} (e : tl x = bs ++ st) (h : 42 ∉ bs) (hs : st = [] ∨ st = [42]) : tl (Txt.stripChars x ("*" : Str)) = bs := by
  have hc : ∀ c : Nat, (("*" : Str)).cps.contains c = decide (c = 42) := fun c => by
    have e1 : (("*" : Str)).cps = #[42] := by decide +kernel
    rw [e1]
    simp [Bool.beq_eq_decide_eq]
  rw [tl_strip]
  generalize hg : (("*" : Str)).cps.contains = g at *
  have hx : x.cps.toList = bs ++ st := e
  have hlen : x.length = bs.length + st.length := by rw [len_tl, e, List.length_append]
  cases bs with
  | nil =>
    rcases hs with rfl | rfl
    · rw [e]; simp
    · have h1 : stripLo g true x = 1 := by
        unfold stripLo
        rw [if_pos rfl, hx]
        show (List.takeWhile g [42]).length = 1
        rw [List.takeWhile_cons, if_pos (by rw [hc]; decide)]
        rfl
      rw [h1, e]
      rw [List.drop_eq_nil_iff, List.length_take]
      exact Nat.min_le_right _ _
  | cons c r =>
    have hc42 : g c = false := by rw [hc]; exact decide_eq_false fun z => h (by rw [z]; exact List.mem_cons_self ..)
    have h1 : stripLo g true x = 0 := by
      unfold stripLo
      rw [if_pos rfl, hx]
      show (List.takeWhile g (c :: (r ++ st))).length = 0
      rw [List.takeWhile_cons, if_neg (by rw [hc42]; decide)]
      rfl
    have hlast : ∀ l : List Nat, 42 ∉ l → l.reverse.takeWhile g = [] := fun l hl => tw0 _ fun d hd => by
      rw [hc]
      refine decide_eq_false fun z => hl ?_
      rw [← z]
      exact List.mem_reverse.mp (List.mem_of_mem_head? hd)
    have h2 : stripHi g true x 0 = (c :: r).length := by
      unfold stripHi
      rw [if_pos rfl, hx, List.drop_zero, hlen]
      rcases hs with rfl | rfl
      · rw [List.append_nil, hlast _ h]
        simp
      · rw [List.reverse_append]
        show _ - (List.takeWhile g (42 :: (c :: r).reverse)).length = _
        rw [List.takeWhile_cons, if_pos (by rw [hc]; decide), hlast _ h]
        simp
    rw [h1, h2, e, List.drop_zero, List.take_left]
theorem part_star {x : Str} {bs st : List Nat} (e : tl x = bs ++ st) (h : 42 ∉ bs) (hs : st = [] ∨ st = [42]) : tl (partS x ("*" : Str)).a = bs := by
  have ex : x = ⟨bs.toArray⟩ ++ (⟨st.toArray⟩ : Str) := tl_inj (by rw [tl_append, e])
  have hb : 42 ∉ tl (⟨bs.toArray⟩ : Str) := by simpa [tl] using h
  rcases hs with rfl | rfl
  · have e2 : x = ⟨bs.toArray⟩ := tl_inj (by rw [e]; simp [tl])
    show tl (Txt.partition x ("*" : Str)).1 = bs
    rw [e2, TL.partition_none tlStar hb]
  · have e2 : x = (⟨bs.toArray⟩ : Str) ++ ("*" : Str) ++ Str.empty := tl_inj (by rw [tl_append, tl_append, tlStar, e]; simp [tl, Str.empty])
    show tl (Txt.partition x ("*" : Str)).1 = bs
    rw [e2, TL.partition_app tlStar hb]
theorem Pat.strip {w : Nat} {bs : List Nat} {x : Str} (p : Pat w bs x) : tl (Txt.stripChars x ("*" : Str)) = bs := by
  refine strip_star (st := if bs.length < w then [42] else []) p.eq p.bits.no42 ?_
  split
  · exact .inr rfl
  · exact .inl rfl
theorem Pat.part {w : Nat} {bs : List Nat} {x : Str} (p : Pat w bs x) : tl (partS x ("*" : Str)).a = bs := by
  refine part_star (st := if bs.length < w then [42] else []) p.eq p.bits.no42 ?_
  split
  · exact .inr rfl
  · exact .inl rfl
theorem Pat.len {w : Nat} {bs : List Nat} {x : Str} (p : Pat w bs x) : (tl x).length ≤ w := by
  rw [p.eq, patL, List.length_append]
  have := p.le
  split
  · simp; omega
  · simp; omega
/-! ### worth -/
def wr (bs : List Nat) : Nat := bs.foldl (fun n c => 2 * n + (if c = 49 then 1 else 0)) 0
theorem wr_from (bs : List Nat) : ∀ a : Nat, bs.foldl (fun n c => 2 * n + (if c = 49 then 1 else 0)) a = a * 2 ^ bs.length + wr bs := by
  induction bs with
  | nil => intro a; simp [wr]
  | cons c bs ih =>
    intro a
    have h0 := ih (2 * 0 + (if c = 49 then 1 else 0))
    show List.foldl _ (2 * a + (if c = 49 then 1 else 0)) bs = _
    rw [ih]
    have h1 : wr (c :: bs) = (2 * 0 + (if c = 49 then 1 else 0)) * 2 ^ bs.length + wr bs := h0
    rw [h1, List.length_cons, Nat.pow_succ]
    generalize (if c = 49 then 1 else 0) = d
    generalize 2 ^ bs.length = p
    rw [Nat.add_mul, Nat.mul_zero, Nat.zero_add, Nat.add_assoc, Nat.mul_comm 2 a, Nat.mul_assoc, Nat.mul_comm 2 p]
theorem wr_app (a b : List Nat) : wr (a ++ b) = wr a * 2 ^ b.length + wr b := by
  unfold wr
  rw [List.foldl_append]
  exact wr_from b _
theorem wr_cons (c : Nat) (b : List Nat) : wr (c :: b) = (if c = 49 then 1 else 0) * 2 ^ b.length + wr b := by
  have := wr_app [c] b
  rw [List.singleton_append] at this
  rw [this]
  congr 2
  simp [wr]
theorem wr_snoc (a : List Nat) (c : Nat) : wr (a ++ [c]) = 2 * wr a + (if c = 49 then 1 else 0) := by
  unfold wr
  rw [List.foldl_append]
  rfl
theorem wr_lt : ∀ bs : List Nat, wr bs < 2 ^ bs.length
  | [] => by decide
  | c :: bs => by
    have := wr_lt bs
    rw [wr_cons, List.length_cons, Nat.pow_succ]
    split <;> omega
theorem wr_zeros (k : Nat) : wr (List.replicate k 48) = 0 := by
  induction k with
  | zero => rfl
  | succ k ih => rw [List.replicate_succ, wr_cons, ih]; simp
theorem wr_ones (k : Nat) : wr (List.replicate k 49) + 1 = 2 ^ k := by
  induction k with
  | zero => rfl
  | succ k ih =>
    rw [List.replicate_succ, wr_cons, List.length_replicate, Nat.pow_succ, if_pos rfl]
    omega
theorem wr_inj : ∀ {a b : List Nat}, Bits a → Bits b → a.length = b.length → wr a = wr b → a = b
  | [], [], _, _, _, _ => rfl
  | [], _ :: _, _, _, h, _ => nomatch h
  | _ :: _, [], _, _, h, _ => nomatch h
  | c :: a, d :: b, ha, hb, h, e => by
    have hl : a.length = b.length := Nat.succ.inj h
    rw [wr_cons, wr_cons, hl] at e
    have h1 := wr_lt a
    have h2 := wr_lt b
    rw [hl] at h1
    have hc := isB_iff.mp (ha c (List.mem_cons_self ..))
    have hd := isB_iff.mp (hb d (List.mem_cons_self ..))
    have he : c = d ∧ wr a = wr b := by
      rcases hc with rfl | rfl <;> rcases hd with rfl | rfl <;> simp at e ⊢ <;> omega
    rw [he.1, wr_inj (fun x hx => ha x (List.mem_cons_of_mem _ hx)) (fun x hx => hb x (List.mem_cons_of_mem _ hx)) hl he.2]
theorem toI_sgn1 (c : Nat) : toI (eqS (sgn c) ("1" : Str)) = ((if c = 49 then 1 else 0 : Nat) : Int) := by
  rw [eqS_tl, tl_sgn, tl1]
  by_cases h : c = 49
  · subst h; rfl
  · rw [decide_eq_false (fun e => h (List.cons.inj e).1), if_neg h]; rfl
theorem log2_lt64 {a : Nat} (h : a < 2 ^ 64) : a.log2 < 64 := by
  by_cases h0 : a = 0
  · subst h0; decide
  · exact (Nat.log2_lt h0).mpr h
theorem mulI_nat {a b : Nat} (ha : a < 2 ^ 64) (hb : b < 2 ^ 64) : mulI (a : Int) (b : Int) = some ((a * b : Nat) : Int) := by
  unfold mulI
  have h1 := log2_lt64 ha
  have h2 := log2_lt64 hb
  rw [if_pos (by rw [Int.natAbs_natCast, Int.natAbs_natCast]; omega)]
  rfl
theorem shlI_one {k : Nat} (h : k ≤ 1000000) : shlI 1 (k : Int) = some ((2 ^ k : Nat) : Int) := by
  unfold shlI
  rw [if_pos ⟨by omega, by omega, by decide⟩, Int.one_mul, Int.toNat_natCast]
  simp
theorem shrI_nat {n k : Nat} : shrI (n : Int) (k : Int) = some ((n / 2 ^ k : Nat) : Int) := by
  unfold shrI
  rw [if_pos (by omega), Int.toNat_natCast]
  simp
theorem and_one (n : Nat) : Builtin.bitAnd (n : Int) 1 = ((n % 2 : Nat) : Int) := by
  have := Bits.bitAnd_mask (x := (n : Int)) 1 (by omega)
  rw [show ((2 : Int) ^ 1 - 1) = 1 by decide] at this
  rw [this]
  simp
theorem pow_lt64 {k : Nat} (h : k < 64) : 2 ^ k < 2 ^ 64 := Nat.pow_lt_pow_right (by decide) h
/-! ### an address written with w signs -/
def bin : Nat → Nat → List Nat
  | 0, _ => []
  | w + 1, n => bin w (n / 2) ++ [48 + n % 2]
theorem bin_len : ∀ w n : Nat, (bin w n).length = w
  | 0, _ => rfl
  | w + 1, n => by rw [bin, List.length_append, bin_len w]; rfl
theorem bin_bits : ∀ w n : Nat, Bits (bin w n)
  | 0, _ => Bits.nil
  | w + 1, n => (bin_bits w _).app (Bits.one (isB_iff.mpr (by have := Nat.mod_two_eq_zero_or_one n; omega)))
theorem wr_bin : ∀ w n : Nat, wr (bin w n) = n % 2 ^ w
  | 0, n => by rw [Nat.pow_zero, Nat.mod_one]; rfl
  | w + 1, n => by
    rw [bin, wr_snoc, wr_bin w, Nat.pow_succ, Nat.mul_comm (2 ^ w) 2, Nat.mod_mul]
    have : (if 48 + n % 2 = 49 then 1 else 0) = n % 2 := by
      have := Nat.mod_two_eq_zero_or_one n
      split <;> omega
    rw [this]
    omega
theorem bin_take : ∀ (k j n : Nat), (bin (k + j) n).take k = bin k (n / 2 ^ j)
  | k, 0, n => by
    rw [Nat.add_zero, Nat.pow_zero, Nat.div_one]
    exact List.take_of_length_le (by rw [bin_len]; exact Nat.le_refl _)
  | k, j + 1, n => by
    show (bin (k + j) (n / 2) ++ [48 + n % 2]).take k = _
    rw [List.take_append_of_le_length (by rw [bin_len]; omega), bin_take k j, Nat.div_div_eq_div_mul, Nat.pow_succ, Nat.mul_comm 2]
theorem bin_top : ∀ k n : Nat, bin (k + 1) n = (48 + n / 2 ^ k % 2) :: bin k n
  | 0, n => by rw [Nat.pow_zero, Nat.div_one]; rfl
  | k + 1, n => by
    rw [bin, bin_top k (n / 2), Nat.div_div_eq_div_mul, Nat.mul_comm 2, ← Nat.pow_succ]
    rfl
theorem code01 {d : Nat} (h : d < 2) : codeAt ("01" : Str) (d : Nat) = some (48 + d) := by
  have : d = 0 ∨ d = 1 := by omega
  rcases this with rfl | rfl
  · exact atI_nat (by rw [tl01]; rfl)
  · exact atI_nat (by rw [tl01]; rfl)
end G
namespace G
open PySem PySem.Spec PyProof.Rows L2 TL
/-! ### addresses that spans have within a block -/
def cn1 (s : Int × Int) (a e : Int) : Int := max 0 (min e s.2 - max a s.1)
def ct (S : List (Int × Int)) (a e : Int) : Int := (S.map fun s => cn1 s a e).sum
theorem ct_nil (a e : Int) : ct [] a e = 0 := rfl
theorem ct_cons (s : Int × Int) (S : List (Int × Int)) (a e : Int) : ct (s :: S) a e = cn1 s a e + ct S a e := by unfold ct; rw [List.map_cons, List.sum_cons]
theorem ct_app (S T : List (Int × Int)) (a e : Int) : ct (S ++ T) a e = ct S a e + ct T a e := by
  induction S with
  | nil => rw [List.nil_append, ct_nil]; omega
  | cons s S ih => rw [List.cons_append, ct_cons, ct_cons, ih]; omega
theorem cn1_nn (s : Int × Int) (a e : Int) : 0 ≤ cn1 s a e := by unfold cn1; omega
theorem ct_nn (S : List (Int × Int)) (a e : Int) : 0 ≤ ct S a e := by
  induction S with
  | nil => exact Int.le_refl _
  | cons s S ih => rw [ct_cons]; have := cn1_nn s a e; omega
theorem cn1_cut {s : Int × Int} {a m e : Int} (h1 : a ≤ m) (h2 : m ≤ e) : cn1 s a e = cn1 s a m + cn1 s m e ∨ s.2 ≤ s.1 := by
  unfold cn1
  omega
/-- rising spans, that may touch -/
def Rise (S : List (Int × Int)) : Prop := (∀ s ∈ S, s.1 < s.2) ∧ S.Pairwise fun s t => s.2 ≤ t.1
/-- rising spans with gaps -/
def Gaps (S : List (Int × Int)) : Prop := (∀ s ∈ S, s.1 < s.2) ∧ S.Pairwise fun s t => s.2 < t.1
theorem Gaps.rise {S : List (Int × Int)} (h : Gaps S) : Rise S := ⟨h.1, h.2.imp fun h => Int.le_of_lt h⟩
theorem Rise.tail {s : Int × Int} {S : List (Int × Int)} (h : Rise (s :: S)) : Rise S := ⟨fun t ht => h.1 t (List.mem_cons_of_mem _ ht), (List.pairwise_cons.mp h.2).2⟩
theorem Gaps.tail {s : Int × Int} {S : List (Int × Int)} (h : Gaps (s :: S)) : Gaps S := ⟨fun t ht => h.1 t (List.mem_cons_of_mem _ ht), (List.pairwise_cons.mp h.2).2⟩
theorem ct_cut {S : List (Int × Int)} (h : Rise S) {a m e : Int} (h1 : a ≤ m) (h2 : m ≤ e) : ct S a e = ct S a m + ct S m e := by
  induction S with
  | nil => rfl
  | cons s S ih =>
    rw [ct_cons, ct_cons, ct_cons, ih h.tail]
    have := h.1 s (List.mem_cons_self ..)
    rcases cn1_cut (s := s) h1 h2 with e | e <;> omega
/-- what stands behind k alone has at most what is behind k -/
theorem ct_from {S : List (Int × Int)} (h : Rise S) {k a e : Int} (hk : ∀ s ∈ S, k ≤ s.1) : ct S a e ≤ max 0 (e - max a k) := by
  induction S generalizing k with
  | nil => rw [ct_nil]; omega
  | cons s S ih =>
    rw [ct_cons]
    have h1 := h.1 s (List.mem_cons_self ..)
    have h2 := hk s (List.mem_cons_self ..)
    have h3 := ih h.tail (k := s.2) fun t ht => (List.pairwise_cons.mp h.2).1 t ht
    unfold cn1
    omega
theorem ct_le {S : List (Int × Int)} (h : Rise S) {a e : Int} (hae : a ≤ e) : ct S a e ≤ e - a := by
  cases S with
  | nil => rw [ct_nil]; omega
  | cons s S =>
    have h3 := ct_from h.tail (k := s.2) (a := a) (e := e) fun t ht => (List.pairwise_cons.mp h.2).1 t ht
    have h1 := h.1 s (List.mem_cons_self ..)
    rw [ct_cons]
    unfold cn1
    omega
/-- a block that is had whole is had by one, where there are gaps -/
theorem ct_full {S : List (Int × Int)} (h : Gaps S) {a e : Int} (hae : a < e) (hc : ct S a e = e - a) : ∃ A s B, S = A ++ s :: B ∧ s.1 ≤ a ∧ e ≤ s.2 ∧ (∀ t ∈ A, cn1 t a e = 0) ∧ (∀ t ∈ B, cn1 t a e = 0) := by
  induction S with
  | nil => rw [ct_nil] at hc; omega
  | cons s S ih =>
    rw [ct_cons] at hc
    have h1 := h.1 s (List.mem_cons_self ..)
    have hp := (List.pairwise_cons.mp h.2).1
    by_cases hz : cn1 s a e = 0
    · obtain ⟨A, t, B, rfl, k1, k2, k3, k4⟩ := ih h.tail (by omega)
      refine ⟨s :: A, t, B, rfl, k1, k2, fun u hu => ?_, k4⟩
      rcases List.mem_cons.mp hu with rfl | hu
      · exact hz
      · exact k3 u hu
    · have h3 := ct_from h.tail.rise (k := s.2 + 1) (a := a) (e := e) fun t ht => hp t ht
      have hb : s.1 ≤ a ∧ e ≤ s.2 := by unfold cn1 at hz hc; omega
      refine ⟨[], s, S, rfl, hb.1, hb.2, (fun t ht => absurd ht (List.not_mem_nil)), fun t ht => ?_⟩
      have := hp t ht
      unfold cn1
      omega
def ends1 (s : Int × Int) (a e : Int) : Nat := (if a < s.1 ∧ s.1 < e then 1 else 0) + (if a < s.2 ∧ s.2 < e then 1 else 0)
def ends (S : List (Int × Int)) (a e : Int) : Nat := (S.map fun s => ends1 s a e).sum
theorem ends_cons (s : Int × Int) (S : List (Int × Int)) (a e : Int) : ends (s :: S) a e = ends1 s a e + ends S a e := by unfold ends; rw [List.map_cons, List.sum_cons]
theorem ends_le (S : List (Int × Int)) (a e : Int) : ends S a e ≤ 2 * S.length := by
  induction S with
  | nil => exact Nat.le_refl _
  | cons s S ih =>
    rw [ends_cons, List.length_cons]
    have : ends1 s a e ≤ 2 := by unfold ends1; split <;> split <;> omega
    omega
theorem ends_cut (S : List (Int × Int)) {a m e : Int} (h1 : a ≤ m) (h2 : m ≤ e) : ends S a m + ends S m e ≤ ends S a e := by
  induction S with
  | nil => exact Nat.le_refl _
  | cons s S ih =>
    rw [ends_cons, ends_cons, ends_cons]
    have : ends1 s a m + ends1 s m e ≤ ends1 s a e := by
      unfold ends1
      repeat' split
      all_goals omega
    omega
theorem ends_zero {S : List (Int × Int)} (h : Rise S) {a e : Int} (hae : a < e) (hz : ends S a e = 0) : ct S a e = 0 ∨ ct S a e = e - a := by
  induction S with
  | nil => exact .inl rfl
  | cons s S ih =>
    rw [ends_cons] at hz
    have hl := ct_le h (Int.le_of_lt hae)
    rw [ct_cons] at hl ⊢
    have h1 := h.1 s (List.mem_cons_self ..)
    have h0 : ends1 s a e = 0 := by omega
    have hs : cn1 s a e = 0 ∨ cn1 s a e = e - a := by
      unfold ends1 at h0
      unfold cn1
      split at h0 <;> split at h0 <;> omega
    have hn := ct_nn S a e
    rcases ih h.tail (by omega) with e1 | e1 <;> rcases hs with e2 | e2 <;> omega
/-! ### the leaves -/
abbrev H2 (j : Nat) : Int := ((2 ^ j : Nat) : Int)
theorem H2_succ (j : Nat) : H2 (j + 1) = 2 * H2 j := by show ((2 ^ (j + 1) : Nat) : Int) = 2 * ((2 ^ j : Nat) : Int); rw [Nat.pow_succ]; omega
theorem H2_pos (j : Nat) : 0 < H2 j := Int.ofNat_lt.mpr (Nat.two_pow_pos j)
theorem H2_zero : H2 0 = 1 := rfl
def can (S : List (Int × Int)) : Nat → Int → List Nat → List (List Nat)
  | 0, a, bs => if ct S a (a + H2 0) = 0 then [] else [bs]
  | j + 1, a, bs => if ct S a (a + H2 (j + 1)) = 0 then [] else if ct S a (a + H2 (j + 1)) = H2 (j + 1) then [bs ++ [42]] else can S j a (bs ++ [48]) ++ can S j (a + H2 j) (bs ++ [49])
/-- a leaf as it is written -/
def leaf (j : Nat) (bs : List Nat) : List Nat := if j = 0 then bs else bs ++ [42]
theorem can_none {S : List (Int × Int)} {j : Nat} {a : Int} {bs : List Nat} (h : ct S a (a + H2 j) = 0) : can S j a bs = [] := by
  cases j <;> (unfold can; rw [if_pos h])
theorem can_full {S : List (Int × Int)} {j : Nat} {a : Int} {bs : List Nat} (h : ct S a (a + H2 j) = H2 j) : can S j a bs = [leaf j bs] := by
  have := H2_pos j
  cases j with
  | zero => unfold can; rw [if_neg (by omega)]; rfl
  | succ j => unfold can; rw [if_neg (by omega), if_pos h]; rfl
theorem can_part {S : List (Int × Int)} {j : Nat} {a : Int} {bs : List Nat} (h1 : ct S a (a + H2 (j + 1)) ≠ 0) (h2 : ct S a (a + H2 (j + 1)) ≠ H2 (j + 1)) : can S (j + 1) a bs = can S j a (bs ++ [48]) ++ can S j (a + H2 j) (bs ++ [49]) := by
  conv => lhs; unfold can
  rw [if_neg h1, if_neg h2]
theorem can_len {S : List (Int × Int)} (h : Rise S) : ∀ (j : Nat) (a : Int) (bs : List Nat), (can S j a bs).length ≤ 1 + j * ends S a (a + H2 j)
  | 0, a, bs => by
    unfold can
    split
    · exact Nat.zero_le _
    · exact Nat.le_add_right _ _
  | j + 1, a, bs => by
    have hp := H2_pos (j + 1)
    have hj := H2_pos j
    have hs := H2_succ j
    by_cases h0 : ct S a (a + H2 (j + 1)) = 0
    · rw [can_none h0]; exact Nat.zero_le _
    · by_cases h1 : ct S a (a + H2 (j + 1)) = H2 (j + 1)
      · rw [can_full h1]; exact Nat.le_add_right _ _
      · rw [can_part h0 h1, List.length_append]
        have l := can_len h j a (bs ++ [48])
        have r := can_len h j (a + H2 j) (bs ++ [49])
        have he : a + H2 j + H2 j = a + H2 (j + 1) := by omega
        rw [he] at r
        have hc := ends_cut S (a := a) (m := a + H2 j) (e := a + H2 (j + 1)) (by omega) (by omega)
        have hz : ends S a (a + H2 (j + 1)) ≠ 0 := fun e => by
          rcases ends_zero h (by omega) e with e | e <;> omega
        generalize ends S a (a + H2 (j + 1)) = x at *
        generalize ends S a (a + H2 j) = y at *
        generalize ends S (a + H2 j) (a + H2 (j + 1)) = z at *
        have : j * y + j * z ≤ j * x := by rw [← Nat.mul_add]; exact Nat.mul_le_mul_left _ hc
        have : (j + 1) * x = j * x + x := Nat.succ_mul j x
        omega
theorem can_congr {S T : List (Int × Int)} : ∀ (j : Nat) (a : Int) (bs : List Nat), (∀ f b, a ≤ f → b ≤ a + H2 j → ct S f b = ct T f b) → can S j a bs = can T j a bs
  | 0, a, bs, h => by
    unfold can
    rw [h a (a + H2 0) (Int.le_refl _) (Int.le_refl _)]
  | j + 1, a, bs, h => by
    have hj := H2_pos j
    have hs := H2_succ j
    unfold can
    rw [h a _ (Int.le_refl _) (Int.le_refl _), can_congr j a _ fun f b h1 h2 => h f b h1 (by omega), can_congr j (a + H2 j) _ fun f b h1 h2 => h f b (by omega) (by omega)]
theorem flat_nil {α β : Type} {f : α → List β} : ∀ {l : List α}, (∀ x ∈ l, f x = []) → l.flatMap f = []
  | [], _ => rfl
  | x :: l, h => by rw [List.flatMap_cons, h x (List.mem_cons_self ..), flat_nil fun y hy => h y (List.mem_cons_of_mem _ hy)]; rfl
theorem ct_zero {S : List (Int × Int)} {a e : Int} : ct S a e = 0 ↔ ∀ s ∈ S, cn1 s a e = 0 := by
  induction S with
  | nil => exact ⟨fun _ t h => absurd h (List.not_mem_nil), fun _ => rfl⟩
  | cons s S ih =>
    rw [ct_cons]
    have h1 := cn1_nn s a e
    have h2 := ct_nn S a e
    constructor
    · intro h t ht
      rcases List.mem_cons.mp ht with rfl | ht
      · omega
      · exact ih.mp (by omega) t ht
    · intro h
      have h3 := h s (List.mem_cons_self ..)
      have h4 := ih.mpr fun t ht => h t (List.mem_cons_of_mem _ ht)
      omega
theorem ct_one (s : Int × Int) (a e : Int) : ct [s] a e = cn1 s a e := by rw [ct_cons, ct_nil]; omega
/-- the leaves of spans with gaps are those of each -/
theorem can_each {S : List (Int × Int)} (h : Gaps S) : ∀ (j : Nat) (a : Int) (bs : List Nat), can S j a bs = S.flatMap fun s => can [s] j a bs := fun j => by
  induction j with
  | zero =>
    intro a bs
    by_cases h0 : ct S a (a + H2 0) = 0
    · rw [can_none h0, flat_nil fun s hs => can_none (by rw [ct_one]; exact ct_zero.mp h0 s hs)]
    · have hl := ct_le h.rise (a := a) (e := a + H2 0) (by rw [H2_zero]; omega)
      have hn := ct_nn S a (a + H2 0)
      exact full h 0 a bs (by rw [H2_zero] at *; omega)
  | succ j ih =>
    intro a bs
    have hj := H2_pos j
    have hs := H2_succ j
    by_cases h0 : ct S a (a + H2 (j + 1)) = 0
    · rw [can_none h0, flat_nil fun s hs => can_none (by rw [ct_one]; exact ct_zero.mp h0 s hs)]
    · by_cases h1 : ct S a (a + H2 (j + 1)) = H2 (j + 1)
      · exact full h (j + 1) a bs h1
      · rw [can_part h0 h1, ih, ih]
        have e1 : S.flatMap (fun s => can [s] (j + 1) a bs) = S.flatMap fun s => can [s] j a (bs ++ [48]) ++ can [s] j (a + H2 j) (bs ++ [49]) := by
          have hle : ∀ T : List (Int × Int), (∀ t ∈ T, t.1 < t.2) → ct T a (a + H2 (j + 1)) < H2 (j + 1) → (T.flatMap fun s => can [s] (j + 1) a bs) = T.flatMap fun s => can [s] j a (bs ++ [48]) ++ can [s] j (a + H2 j) (bs ++ [49]) := fun T => by
            induction T with
            | nil => exact fun _ _ => rfl
            | cons t T ihT =>
              intro ht hc
              rw [ct_cons] at hc
              have n1 := cn1_nn t a (a + H2 (j + 1))
              have n2 := ct_nn T a (a + H2 (j + 1))
              rw [List.flatMap_cons, List.flatMap_cons, ihT (fun u hu => ht u (List.mem_cons_of_mem _ hu)) (by omega)]
              congr 1
              have ht1 := ht t (List.mem_cons_self ..)
              by_cases hz : ct [t] a (a + H2 (j + 1)) = 0
              · rw [can_none hz]
                have hcut := ct_cut (S := [t]) ⟨fun u hu => by rw [List.mem_singleton.mp hu]; exact ht1, List.pairwise_singleton _ _⟩ (a := a) (m := a + H2 j) (e := a + H2 (j + 1)) (by omega) (by omega)
                have m1 := ct_nn [t] a (a + H2 j)
                have m2 := ct_nn [t] (a + H2 j) (a + H2 (j + 1))
                have he : a + H2 j + H2 j = a + H2 (j + 1) := by omega
                rw [can_none (by omega : ct [t] a (a + H2 j) = 0), can_none (by rw [he]; omega)]
                rfl
              · exact can_part hz (by rw [ct_one]; omega)
          have hl := ct_le h.rise (a := a) (e := a + H2 (j + 1)) (by omega)
          exact hle S h.1 (by omega)
        rw [e1]
        exact (inter h (m := a + H2 j) (L := fun s => can [s] j a (bs ++ [48])) (R := fun s => can [s] j (a + H2 j) (bs ++ [49])) (fun s hs => can_none (by rw [ct_one]; unfold cn1; omega)) (fun s hs => can_none (by rw [ct_one]; unfold cn1; omega)))
where
  full {S : List (Int × Int)} (h : Gaps S) (j : Nat) (a : Int) (bs : List Nat) (h1 : ct S a (a + H2 j) = H2 j) : can S j a bs = S.flatMap fun s => can [s] j a bs := by
    have hj := H2_pos j
    obtain ⟨A, s, B, rfl, k1, k2, k3, k4⟩ := ct_full h (a := a) (e := a + H2 j) (by omega) (by omega)
    rw [can_full h1, List.flatMap_append, List.flatMap_cons, flat_nil fun t ht => can_none (by rw [ct_one]; exact k3 t ht), flat_nil fun t ht => can_none (by rw [ct_one]; exact k4 t ht), can_full (by rw [ct_one]; unfold cn1; omega)]
    rfl
  inter {S : List (Int × Int)} {m : Int} {L R : Int × Int → List (List Nat)} (h : Gaps S) (hL : ∀ s, m ≤ s.1 → L s = []) (hR : ∀ s, s.2 ≤ m → R s = []) : S.flatMap L ++ S.flatMap R = S.flatMap fun s => L s ++ R s := by
    induction S with
    | nil => rfl
    | cons s S ih =>
      rw [List.flatMap_cons, List.flatMap_cons, List.flatMap_cons, ← ih h.tail]
      by_cases hs : s.2 ≤ m
      · rw [hR s hs]; simp
      · have : S.flatMap L = [] := flat_nil fun t ht => hL t (by have := (List.pairwise_cons.mp h.2).1 t ht; omega)
        rw [this]; simp
end G
namespace K04
open PySem PySem.Spec PyProof.Rows L2 TL G
def topS (i : Nat) : Stmt := PySem.Challenge.pw_wishnet_k04_covers_by_few.main.body.getD i (.Pass ⟨0, 0, 0, 0⟩)
abbrev s_joined : Stmt := topS 3
abbrev s_pattern_at : Stmt := topS 4
abbrev s_cover : Stmt := topS 5
abbrev s_l_bag : Stmt := topS 7
abbrev s_l_draw : Stmt := topS 8
abbrev s_l_bits : Stmt := topS 9
abbrev s_l_worth : Stmt := topS 10
abbrev s_l_size : Stmt := topS 11
abbrev s_l_stretches : Stmt := topS 12
abbrev s_l_alike : Stmt := topS 13
abbrev s_l_leaves : Stmt := topS 14
abbrev s_law : Stmt := topS 15
structure Txt (K : PySem.W.Frag) (mg : Str → Option Value) where
  a_joined : Addr
  d_joined : FuncData
  F_joined : FnP K "joined" s_joined a_joined d_joined
  g_joined : mg "joined" = some (.ref a_joined)
  a_pattern_at : Addr
  d_pattern_at : FuncData
  F_pattern_at : FnP K "pattern_at" s_pattern_at a_pattern_at d_pattern_at
  g_pattern_at : mg "pattern_at" = some (.ref a_pattern_at)
  a_cover : Addr
  d_cover : FuncData
  F_cover : FnP K "cover" s_cover a_cover d_cover
  g_cover : mg "cover" = some (.ref a_cover)
  a_l_bag : Addr
  d_l_bag : FuncData
  F_l_bag : FnP K "_law_bag" s_l_bag a_l_bag d_l_bag
  g_l_bag : mg "_law_bag" = some (.ref a_l_bag)
  a_l_draw : Addr
  d_l_draw : FuncData
  F_l_draw : FnP K "_law_draw" s_l_draw a_l_draw d_l_draw
  g_l_draw : mg "_law_draw" = some (.ref a_l_draw)
  a_l_bits : Addr
  d_l_bits : FuncData
  F_l_bits : FnP K "_law_bits" s_l_bits a_l_bits d_l_bits
  g_l_bits : mg "_law_bits" = some (.ref a_l_bits)
  a_l_worth : Addr
  d_l_worth : FuncData
  F_l_worth : FnP K "_law_worth" s_l_worth a_l_worth d_l_worth
  g_l_worth : mg "_law_worth" = some (.ref a_l_worth)
  a_l_size : Addr
  d_l_size : FuncData
  F_l_size : FnP K "_law_size" s_l_size a_l_size d_l_size
  g_l_size : mg "_law_size" = some (.ref a_l_size)
  a_l_stretches : Addr
  d_l_stretches : FuncData
  F_l_stretches : FnP K "_law_stretches" s_l_stretches a_l_stretches d_l_stretches
  g_l_stretches : mg "_law_stretches" = some (.ref a_l_stretches)
  a_l_alike : Addr
  d_l_alike : FuncData
  F_l_alike : FnP K "_law_alike" s_l_alike a_l_alike d_l_alike
  g_l_alike : mg "_law_alike" = some (.ref a_l_alike)
  a_l_leaves : Addr
  d_l_leaves : FuncData
  F_l_leaves : FnP K "_law_leaves" s_l_leaves a_l_leaves d_l_leaves
  g_l_leaves : mg "_law_leaves" = some (.ref a_l_leaves)
  a_law : Addr
  d_law : FuncData
  F_law : FnP K "law" s_law a_law d_law
  g_law : mg "law" = some (.ref a_law)
  n_abs : mg "abs" = none
  n_all : mg "all" = none
  n_bool : mg "bool" = none
  n_int : mg "int" = none
  n_isinstance : mg "isinstance" = none
  n_len : mg "len" = none
  n_list : mg "list" = none
  n_max : mg "max" = none
  n_min : mg "min" = none
  n_range : mg "range" = none
  n_set : mg "set" = none
  n_sorted : mg "sorted" = none
  n_str : mg "str" = none
  n_sum : mg "sum" = none
  n_tuple : mg "tuple" = none
  t_BITS : Tok
  k_BITS : mg "BITS" = some (.str "01" t_BITS)
  t_STAR : Tok
  k_STAR : mg "STAR" = some (.str "*" t_STAR)
/-! ### the bag -/
structure BOk (b : Bag) : Prop where
  lo : 0 ≤ b.seed
  hi : b.seed < 2147483648
  len : b.cells.length ≤ 63
abbrev N_l_bag : List Str := ["_law_script", "_law_seed", "_law_cell"]
theorem sc_l_bag : FnScope N_l_bag ["_law_script"] (defScope s_l_bag) := ⟨rfl, rfl, rfl, by decide +kernel, rfl, by decide +kernel, by decide +kernel⟩
def sp_l_bag (K : PySem.W.Frag) : Sp := fun vs H Q _ => ∃ (a : Addr) (ns : List Int), vs = [.ref a] ∧ SqL K H a (ns.map V.int) ∧ ns.length ≤ 63 ∧ (∀ (B C : Addr) (b : Bag) (F H' : Hp), Same F H' → BagAt F H' B C b → BOk b → Q (.ref B) H')
/-! ### the draw -/
def skip0 : List Int → Nat → Nat
  | [], k => k
  | x :: r, k => if x = 0 then skip0 r (k + 1) else k
def stir (s c : Int) : Int := (s ^ 3 + 48271 * s + 2039 * c + 7) % 2147483647
def m_l_draw (b : Bag) (n : Int) : Option (Int × Bag) :=
  if (0 < n ∧ n.natAbs.log2 < 9000) ∧ (0 ≤ b.seed ∧ b.seed < 2147483648 ∧ b.cells.length ≤ sizeLine) then
    match b.cells[skip0 (b.cells.drop b.at_) b.at_]? with
    | some x => some (x % n, { b with at_ := skip0 (b.cells.drop b.at_) b.at_, cells := b.cells.set (skip0 (b.cells.drop b.at_) b.at_) (x / n) })
    | none => some (stir b.seed (b.cnt + 1) / 16 % n, { b with at_ := skip0 (b.cells.drop b.at_) b.at_, seed := stir b.seed (b.cnt + 1), cnt := b.cnt + 1 })
  else none
theorem BagAt.put {F H : Hp} {B C : Addr} {b b' : Bag} (a : BagAt F H B C b) (e : b'.cells = b.cells) : BagAt F (upd H B (.lst [.ref C, .int (b'.at_ : Nat), .int b'.seed, .int b'.cnt])) B C b' :=
  ⟨upd_same, by rw [upd_ne a.ne.symm, a.hC, e], a.ne, a.fB, a.fC⟩
theorem BagAt.cell {F H : Hp} {B C : Addr} {b : Bag} (a : BagAt F H B C b) (cs : List Int) : BagAt F (upd H C (.lst (cs.map V.int))) B C { b with cells := cs } :=
  ⟨by rw [upd_ne a.ne, a.hB], upd_same, a.ne, a.fB, a.fC⟩
theorem atI_map {xs : List Int} {k : Nat} {x : Int} (h : xs[k]? = some x) : atI (xs.map V.int) (k : Nat) = some (.int x) := atI_nat (by rw [List.getElem?_map, h]; rfl)
theorem ixN_nat {n k : Nat} (h : k < n) : ixN n (k : Nat) = some k := by unfold ixN; simp; omega
abbrev N_l_draw : List Str := ["_law_bag_here", "_law_many", "_law_left"]
theorem sc_l_draw : FnScope N_l_draw ["_law_bag_here", "_law_many"] (defScope s_l_draw) := ⟨rfl, rfl, rfl, by decide +kernel, rfl, by decide +kernel, by decide +kernel⟩
def sp_l_draw (K : PySem.W.Frag) : Sp := fun vs H Q _ => ∃ (F : Hp) (B C : Addr) (b : Bag) (y_many : Int) (r : Int) (b' : Bag), vs = [.ref B, .int y_many] ∧ Same F H ∧ BagAt F H B C b ∧ m_l_draw b y_many = some (r, b') ∧ (∀ F' H', Gr (Bc B C) F H F' H' → BagAt F' H' B C b' → Q (.int r) H')
/-! ### alike -/
abbrev N_l_alike : List Str := ["_law_found", "_law_due", "_law_k"]
theorem sc_l_alike : FnScope N_l_alike ["_law_found", "_law_due"] (defScope s_l_alike) := ⟨rfl, rfl, rfl, by decide +kernel, rfl, by decide +kernel, by decide +kernel⟩

/-! ### joined -/
def m_joined_l1  : List (Int × Int) → (List (Int × Int)) → (Option ((List (Int × Int))))
  | [], x_found => some x_found
  | e27 :: xs_, x_found =>
    Option.bind (if (!eqD x_found ([] : (List (Int × Int)))) then (Option.bind (atI x_found (-(1 : Int))) fun t51 => some ((eqI t51.2 e27.1))) else some false) fun c46 =>
    if c46 then (Option.bind (atI x_found (-(1 : Int))) fun t70 =>
 Option.bind (setL x_found (-(1 : Int)) (t70.1, e27.2)) fun t91 =>
 m_joined_l1  xs_ t91) else (Option.bind (appL x_found (e27.1, e27.2)) fun t109 =>
 m_joined_l1  xs_ t109)
def m_joined (x_spans : (List (Int × Int))) : Option (List (Int × Int)) :=
  Option.bind (some ([] : (List (Int × Int)))) fun x_found6 =>
  Option.bind (m_joined_l1  x_spans x_found6) fun x_found10 =>
  some x_found10
abbrev N_joined : List Str := ["spans", "found", "first", "behind"]
theorem sc_joined : FnScope N_joined ["spans"] (defScope s_joined) := ⟨rfl, rfl, rfl, by decide +kernel, rfl, by decide +kernel, by decide +kernel⟩
def sp_joined (K : PySem.W.Frag) : Sp := fun vs H Q _ => ∃ (F : Hp) (p_x_spans : Addr) (ws_x_spans : List V) (x_spans : (List (Int × Int))) (r : (List (Int × Int))), vs = [.ref p_x_spans] ∧ Same F H ∧ SqL K H p_x_spans ws_x_spans ∧ ws_x_spans.length ≤ sizeLine ∧ RL K F ws_x_spans x_spans ∧ ¬ M0 p_x_spans ∧ m_joined x_spans = some r ∧ (∀ p ws F' H', Gr M0 F H F' H' → H p = none → H' p = some (.lst ws) → F' p = none → ws.length ≤ sizeLine → RL K F' ws r → Q (.ref p) H')
/-! ### pattern_at -/
def m_pattern_at_l1  : List Int → Str → Int → (Option (Str × Int))
  | [], x_signs, x_number => some (x_signs, x_number)
  | e24 :: xs_, x_signs, x_number =>
    Option.bind (codeAt ("01" : Str) (x_number % (2 : Int))) fun c26 =>
    Option.bind (catS (sgn c26) x_signs) fun t28 =>
    Option.bind (some (x_number / (2 : Int))) fun x_number34 =>
    m_pattern_at_l1  xs_ t28 x_number34
def m_pattern_at (x_first : Int) (x_bits : Int) (x_width : Int) : Option Str :=
  Option.bind (shrI x_first (x_width - x_bits)) fun t1 =>
  Option.bind (rangeO1 x_bits) fun l6 =>
  bind2 (m_pattern_at_l1  l6 ("" : Str) t1) fun x_signs9 x_number10 =>
  Option.bind (if (eqI x_bits x_width) then ( some (x_signs9)) else (Option.bind (catS x_signs9 ("*" : Str)) fun t54 => some (t54))) fun c47 =>
  some c47
abbrev N_pattern_at : List Str := ["first", "bits", "width", "number", "signs", "turn"]
theorem sc_pattern_at : FnScope N_pattern_at ["first", "bits", "width"] (defScope s_pattern_at) := ⟨rfl, rfl, rfl, by decide +kernel, rfl, by decide +kernel, by decide +kernel⟩
def sp_pattern_at (K : PySem.W.Frag) : Sp := fun vs H Q _ => ∃ (x_first : Int) (x_bits : Int) (x_width : Int) (r : Str), vs = [.int x_first, .int x_bits, .int x_width] ∧ m_pattern_at x_first x_bits x_width = some r ∧ (∀ F' H', Gr M0 H H F' H' → GS r → Q (.str r) H')
/-! ### cover -/
def m_cover_l3 (x_width : Int) (x_behind : Int) (x_at : Int) : Nat → Int → (Option (Int))
  | 0, _ => none
  | n_ + 1, x_bits =>
    Option.bind (shlI (1 : Int) (x_width - x_bits)) fun t85 => Option.bind (modI x_at t85) fun t88 => Option.bind (if (neI t88 (0 : Int)) then some true else (Option.bind (shlI (1 : Int) (x_width - x_bits)) fun t96 => some ((decide (x_behind < (x_at + t96)))))) fun c91 => if c91 then (m_cover_l3 x_width x_behind x_at n_ (x_bits + (1 : Int))) else some x_bits
def m_cover_l2 (x_width : Int) (x_behind : Int) : Nat → Int → (List Str) → (Option (Int × (List Str)))
  | 0, _, _ => none
  | n_ + 1, x_at, x_found =>
     if (decide (x_at < x_behind)) then (Option.bind (m_cover_l3 x_width x_behind x_at 70 (0 : Int)) fun x_bits74 =>
    Option.bind (m_pattern_at x_at x_bits74 x_width) fun r106 =>
    Option.bind (appL x_found r106) fun t115 =>
    Option.bind (shlI (1 : Int) (x_width - x_bits74)) fun t123 =>
    m_cover_l2 x_width x_behind n_ (x_at + t123) t115) else some (x_at, x_found)
def m_cover_l1 (x_width : Int) : List (Int × Int) → (List Str) → (Option ((List Str)))
  | [], x_found => some x_found
  | e47 :: xs_, x_found =>
    bind2 (m_cover_l2 x_width e47.2 70 e47.1 x_found) fun x_at57 x_found58 =>
    m_cover_l1 x_width xs_ x_found58
def m_cover (x_spans : (List (Int × Int))) (x_width : Int) : Option (List Str) :=
  Option.bind (some ([] : (List Str))) fun x_found6 =>
  Option.bind (m_joined x_spans) fun r10 =>
  Option.bind (m_cover_l1 x_width r10 x_found6) fun x_found27 =>
  some x_found27
abbrev N_cover : List Str := ["spans", "width", "found", "first", "behind", "at", "bits"]
theorem sc_cover : FnScope N_cover ["spans", "width"] (defScope s_cover) := ⟨rfl, rfl, rfl, by decide +kernel, rfl, by decide +kernel, by decide +kernel⟩
def sp_cover (K : PySem.W.Frag) : Sp := fun vs H Q _ => ∃ (F : Hp) (p_x_spans : Addr) (ws_x_spans : List V) (x_spans : (List (Int × Int))) (x_width : Int) (r : (List Str)), vs = [.ref p_x_spans, .int x_width] ∧ Same F H ∧ SqL K H p_x_spans ws_x_spans ∧ ws_x_spans.length ≤ sizeLine ∧ RL K F ws_x_spans x_spans ∧ ¬ M0 p_x_spans ∧ m_cover x_spans x_width = some r ∧ (∀ p ws F' H', Gr M0 F H F' H' → H p = none → H' p = some (.lst ws) → F' p = none → ws.length ≤ sizeLine → RL K F' ws r → Q (.ref p) H')
/-! ### l_bits -/
def m_l_bits_c1  : List Int → Bag → Option (List Str × Bag)
  | [], b => some ([], b)
  | e82 :: xs_, b =>
    bind2 (m_l_draw b (2 : Int)) fun r84 b85 =>
    Option.bind (codeAt ("01" : Str) r84) fun c94 =>
    bind2 (m_l_bits_c1  xs_ b85) fun rest97 b98 => some ((sgn c94) :: rest97, b98)
def m_l_bits (b : Bag) (y_size_here : Int) : Option (Str × Bag) :=
  bind2 (m_l_draw b (4 : Int)) fun r1 b2 =>
  if (eqI r1 (0 : Int)) then (bind2 (m_l_draw b2 (2 : Int)) fun r10 b11 =>
 Option.bind (codeAt ("01" : Str) r10) fun c19 =>
 bind2 (if (decide ((0 : Int) < y_size_here)) then (Option.bind (mulS (sgn c19) y_size_here) fun t26 => bind2 (m_l_draw b11 (2 : Int)) fun r29 b30 => Option.bind (codeAt ("01" : Str) r29) fun c39 => Option.bind (catS t26 (sgn c39)) fun t41 => some ((cutS t41 (some (1 : Int)) (some (y_size_here + (1 : Int)))), b30)) else ( some (("" : Str), b11))) fun c21 b22 =>
 some (c21, b22)) else (Option.bind (rangeO1 y_size_here) fun l53 =>
 bind2 (m_l_bits_c1  l53 b2) fun l62 b63 =>
 Option.bind (joinS ("" : Str) l62) fun t118 =>
 some (t118, b63))
abbrev N_l_bits : List Str := ["_law_bag_here", "_law_size_here", "_law_sign", "_law_k"]
theorem sc_l_bits : FnScope N_l_bits ["_law_bag_here", "_law_size_here"] (defScope s_l_bits) := ⟨rfl, rfl, rfl, by decide +kernel, rfl, by decide +kernel, by decide +kernel⟩
def sp_l_bits (K : PySem.W.Frag) : Sp := fun vs H Q _ => ∃ (F : Hp) (B C : Addr) (b : Bag) (y_size_here : Int) (r : Str) (b' : Bag), vs = [.ref B, .int y_size_here] ∧ Same F H ∧ BagAt F H B C b ∧ m_l_bits b y_size_here = some (r, b') ∧ (∀ F' H', Gr (Bc B C) F H F' H' → BagAt F' H' B C b' → GS r → Q (.str r) H')
/-! ### l_worth -/
def m_l_worth_l1  : List Nat → Int → (Option (Int))
  | [], y_found => some y_found
  | e13 :: xs_, y_found =>
    Option.bind (some ((y_found * (2 : Int)) + (toI (eqS (sgn e13) ("1" : Str))))) fun y_found15 =>
    m_l_worth_l1  xs_ y_found15
def m_l_worth (y_bits_here : Str) : Option Int :=
  Option.bind (m_l_worth_l1  (y_bits_here).cps.toList (0 : Int)) fun y_found1 =>
  some y_found1
abbrev N_l_worth : List Str := ["_law_bits_here", "_law_found", "_law_sign"]
theorem sc_l_worth : FnScope N_l_worth ["_law_bits_here"] (defScope s_l_worth) := ⟨rfl, rfl, rfl, by decide +kernel, rfl, by decide +kernel, by decide +kernel⟩
def sp_l_worth (K : PySem.W.Frag) : Sp := fun vs H Q _ => ∃ (y_bits_here : Str) (r : Int), vs = [.str y_bits_here] ∧ GS y_bits_here ∧ m_l_worth y_bits_here = some r ∧ (∀ F' H', Gr M0 H H F' H' → Q (.int r) H')
/-! ### l_size -/
def m_l_size (b : Bag)  : Option (Int × Bag) :=
  bind2 (m_l_draw b (6 : Int)) fun r1 b2 =>
  bind2 (m_l_draw b2 (30 : Int)) fun r10 b11 =>
  bind2 (m_l_draw b11 (3 : Int)) fun r19 b20 =>
  bind2 (m_l_draw b20 (4 : Int)) fun r35 b36 =>
  Option.bind (atI ([((1 : Int) + r1), ((1 : Int) + r10), (30 : Int), ((1 : Int) + r19)] : List Int) r35) fun t45 =>
  some (t45, b36)
abbrev N_l_size : List Str := ["_law_bag_here"]
theorem sc_l_size : FnScope N_l_size ["_law_bag_here"] (defScope s_l_size) := ⟨rfl, rfl, rfl, by decide +kernel, rfl, by decide +kernel, by decide +kernel⟩
def sp_l_size (K : PySem.W.Frag) : Sp := fun vs H Q _ => ∃ (F : Hp) (B C : Addr) (b : Bag) (r : Int) (b' : Bag), vs = [.ref B] ∧ Same F H ∧ BagAt F H B C b ∧ m_l_size b  = some (r, b') ∧ (∀ F' H', Gr (Bc B C) F H F' H' → BagAt F' H' B C b' → Q (.int r) H')
/-! ### l_stretches -/
def m_l_stretches_l1 (y_size_here : Int) : List Int → (List Int) → Bag → (Option ((List Int) × Bag))
  | [], y_edges, b => some (y_edges, b)
  | e82 :: xs_, y_edges, b =>
    bind2 (m_l_draw b (y_size_here + (1 : Int))) fun r84 b85 =>
    bind2 (m_l_bits b85 r84) fun r94 b95 =>
    Option.bind (mulS ("0" : Str) (y_size_here - ((r94.length : Nat) : Int))) fun t104 =>
    Option.bind (catS r94 t104) fun t107 =>
    Option.bind (m_l_worth t107) fun r110 =>
    bind2 (m_l_draw b95 (((y_edges).length : Nat) : Int)) fun r119 b120 =>
    Option.bind (atI y_edges r119) fun t129 =>
    bind2 (m_l_draw b120 (4 : Int)) fun r134 b135 =>
    Option.bind (shlI (1 : Int) y_size_here) fun t144 =>
    bind2 (m_l_draw b135 (5 : Int)) fun r156 b157 =>
    Option.bind (atI ([r110, ((t129 + (1 : Int)) + r134), (if (t129 - (1 : Int)) > (0 : Int) then (t129 - (1 : Int)) else (0 : Int)), t144, (r110 + (1 : Int))] : List Int) r156) fun t167 =>
    Option.bind (appL y_edges t167) fun t172 =>
    m_l_stretches_l1 y_size_here xs_ t172 b157
def m_l_stretches_c2 (y_size_here : Int) : List Int → Option (List Int)
  | [] => some []
  | e238 :: xs_ =>
    Option.bind (shlI (1 : Int) y_size_here) fun t241 =>
    if (decide (e238 ≤ t241)) then (Option.bind (m_l_stretches_c2 y_size_here xs_) fun rest245 => some (e238 :: rest245)) else m_l_stretches_c2 y_size_here xs_
def m_l_stretches_l3 (y_edges : (List Int)) : List Int → (List (Int × Int)) → Bag → (Option ((List (Int × Int)) × Bag))
  | [], y_found, b => some (y_found, b)
  | e326 :: xs_, y_found, b =>
    bind2 (m_l_draw b (3 : Int)) fun r328 b329 =>
    if (decide ((0 : Int) < r328)) then (Option.bind (atI y_edges (e326 - (1 : Int))) fun t339 =>
 Option.bind (atI y_edges e326) fun t344 =>
 Option.bind (appL y_found (t339, t344)) fun t360 =>
 m_l_stretches_l3 y_edges xs_ t360 b329) else (m_l_stretches_l3 y_edges xs_ y_found b329)
def m_l_stretches (b : Bag) (y_size_here : Int) : Option ((List (Int × Int)) × Bag) :=
  Option.bind (some ([(0 : Int)] : List Int)) fun y_edges8 =>
  bind2 (m_l_draw b (6 : Int)) fun r12 b13 =>
  bind2 (m_l_draw b13 (31 : Int)) fun r22 b23 =>
  bind2 (m_l_draw b23 (2 : Int)) fun r41 b42 =>
  Option.bind (atI ([r12, r22] : List Int) r41) fun t52 =>
  Option.bind (rangeO1 t52) fun l57 =>
  bind2 (m_l_stretches_l1 y_size_here l57 y_edges8 b42) fun y_edges60 b61 =>
  Option.bind (m_l_stretches_c2 y_size_here y_edges60) fun l206 =>
  Option.bind (ssetO l206) fun t267 =>
  Option.bind (some ([] : (List (Int × Int)))) fun y_found299 =>
  Option.bind (rangeO (1 : Int) (((t267).length : Nat) : Int)) fun l303 =>
  bind2 (m_l_stretches_l3 t267 l303 y_found299 b61) fun y_found306 b307 =>
  some (y_found306, b307)
abbrev N_l_stretches : List Str := ["_law_bag_here", "_law_size_here", "_law_edges", "_law_k", "_law_bits_here", "_law_first", "_law_near", "_law_found", "_law_edge"]
theorem sc_l_stretches : FnScope N_l_stretches ["_law_bag_here", "_law_size_here"] (defScope s_l_stretches) := ⟨rfl, rfl, rfl, by decide +kernel, rfl, by decide +kernel, by decide +kernel⟩
def sp_l_stretches (K : PySem.W.Frag) : Sp := fun vs H Q _ => ∃ (F : Hp) (B C : Addr) (b : Bag) (y_size_here : Int) (r : (List (Int × Int))) (b' : Bag), vs = [.ref B, .int y_size_here] ∧ Same F H ∧ BagAt F H B C b ∧ m_l_stretches b y_size_here = some (r, b') ∧ (∀ p ws F' H', Gr (Bc B C) F H F' H' → BagAt F' H' B C b' → H p = none → H' p = some (.lst ws) → F' p = none → ws.length ≤ sizeLine → RL K F' ws r → Q (.ref p) H')
/-! ### l_leaves -/
def m_l_leaves_c1 (rec_ : ((List (Int × Int)) → Str → Int → Option (List Str))) (y_first : Int) (y_behind : Int) : List (Int × Int) → List (Int × Int)
  | [] => []
  | e45 :: xs_ => if ((decide (e45.1 < y_behind)) && (decide (y_first < e45.2))) then ((if e45.1 > y_first then e45.1 else y_first), (if e45.2 < y_behind then e45.2 else y_behind)) :: m_l_leaves_c1 rec_ y_first y_behind xs_ else m_l_leaves_c1 rec_ y_first y_behind xs_
def m_l_leaves_c2 (rec_ : ((List (Int × Int)) → Str → Int → Option (List Str)))  : List (Int × Int) → List Int
  | [] => []
  | e123 :: xs_ => (e123.2 - e123.1) :: m_l_leaves_c2 rec_  xs_
def mS_l_leaves (rec_ : ((List (Int × Int)) → Str → Int → Option (List Str))) (y_some : (List (Int × Int))) (y_bits_here : Str) (y_left : Int) : Option (List Str) :=
  Option.bind (m_l_worth y_bits_here) fun r1 =>
  Option.bind (shlI r1 y_left) fun t8 =>
  Option.bind (shlI (1 : Int) y_left) fun t13 =>
  Option.bind (some (m_l_leaves_c1 rec_ t8 (t8 + t13) y_some)) fun y_here88 =>
  Option.bind (some ((m_l_leaves_c2 rec_  y_here88)).sum) fun y_held150 =>
  if ((eqI y_held150 (0 : Int)) || (decide (y_left < (0 : Int)))) then (some ([] : (List Str))) else (if (eqI y_held150 ((t8 + t13) - t8)) then (Option.bind (mulS ("*" : Str) (toI (decide ((0 : Int) < y_left)))) fun t174 =>
 Option.bind (catS y_bits_here t174) fun t177 =>
 some ([t177] : List Str)) else (Option.bind (catS y_bits_here ("0" : Str)) fun t189 =>
 Option.bind (rec_ y_here88 t189 (y_left - (1 : Int))) fun r192 =>
 Option.bind (catS y_bits_here ("1" : Str)) fun t211 =>
 Option.bind (rec_ y_here88 t211 (y_left - (1 : Int))) fun r214 =>
 Option.bind (conL r192 r214) fun t235 =>
 some t235))
def m_l_leaves : Nat → ((List (Int × Int)) → Str → Int → Option (List Str))
  | 0 => fun _ _ _ => none
  | n_ + 1 => mS_l_leaves (m_l_leaves n_)
abbrev N_l_leaves : List Str := ["_law_some", "_law_bits_here", "_law_left", "_law_first", "_law_behind", "_law_here", "_law_held", "_law_one", "_law_other"]
theorem sc_l_leaves : FnScope N_l_leaves ["_law_some", "_law_bits_here", "_law_left"] (defScope s_l_leaves) := ⟨rfl, rfl, rfl, by decide +kernel, rfl, by decide +kernel, by decide +kernel⟩
def spR_l_leaves (m_ : ((List (Int × Int)) → Str → Int → Option (List Str))) (K : PySem.W.Frag) : Sp := fun vs H Q _ => ∃ (F : Hp) (p_y_some : Addr) (ws_y_some : List V) (y_some : (List (Int × Int))) (y_bits_here : Str) (y_left : Int) (r : (List Str)), vs = [.ref p_y_some, .str y_bits_here, .int y_left] ∧ Same F H ∧ SqL K H p_y_some ws_y_some ∧ ws_y_some.length ≤ sizeLine ∧ RL K F ws_y_some y_some ∧ ¬ M0 p_y_some ∧ GS y_bits_here ∧ m_ y_some y_bits_here y_left = some r ∧ (∀ p ws F' H', Gr M0 F H F' H' → H p = none → H' p = some (.lst ws) → F' p = none → ws.length ≤ sizeLine → RL K F' ws r → Q (.ref p) H')
def sp_l_leaves (K : PySem.W.Frag) : Sp := spR_l_leaves (m_l_leaves 40) K
/-! ### law -/
def m_law_l1 (y_size_here : Int) : List Int → Bag → (Option (Lp (Bag) (Bool × Bag)))
  | [], b => some (.go b)
  | e28 :: xs_, b =>
    bind2 (m_l_stretches b y_size_here) fun r30 b31 =>
    Option.bind (m_l_leaves 40 r30 ("" : Str) y_size_here) fun r57 =>
    Option.bind (m_cover r30 y_size_here) fun r78 =>
    Option.bind (m_l_alike r78 r57) fun r103 =>
    if ((!r103) || (!eqD r30 r30)) then (some (.ret (false, b31))) else (Option.bind (appL r78 ("*" : Str)) fun t133 =>
 Option.bind (m_cover r30 y_size_here) fun r144 =>
 Option.bind (m_l_alike r144 r57) fun r171 =>
 if (!r171) then (some (.ret (false, b31))) else (m_law_l1 y_size_here xs_ b31))
def m_law (b : Bag)  : Option (Bool × Bag) :=
  bind2 (m_l_size b ) fun r1 b2 =>
  bindL1 (m_law_l1 r1 (rangeL (0 : Int) 3) b2) (fun b10 => Option.bind (m_cover ([] : (List (Int × Int))) (1 : Int)) fun r205 =>
 Option.bind (if (!eqD r205 ([] : (List Str))) then some true else (Option.bind (m_cover ([((0 : Int), (1 : Int)), ((1 : Int), (2 : Int))] : List (Int × Int)) (1 : Int)) fun r284 => Option.bind (if (!eqD r284 ([("*" : Str)] : List Str)) then some true else (Option.bind (shlI (1 : Int) (30 : Int)) fun t335 => Option.bind (m_cover ([((0 : Int), t335)] : List (Int × Int)) (30 : Int)) fun r380 => some ((!eqD r380 ([("*" : Str)] : List Str))))) fun c330 => some (c330))) fun c237 =>
 if c237 then (some (false, b10)) else (Option.bind (m_cover ([((1 : Int), (7 : Int))] : List (Int × Int)) (3 : Int)) fun r489 =>
 some ((eqD r489 ([("001" : Str), ("01*" : Str), ("10*" : Str), ("110" : Str)] : List Str)), b10))) (fun r_ => some r_)
abbrev N_law : List Str := ["_law_script", "_law_bag_here", "_law_size_here", "_law_k", "_law_some", "_law_handed", "_law_due", "_law_told"]
theorem sc_law : FnScope N_law ["_law_script"] (defScope s_law) := ⟨rfl, rfl, rfl, by decide +kernel, rfl, by decide +kernel, by decide +kernel⟩
def sp_law (K : PySem.W.Frag) : Sp := fun vs H Q _ => ∃ (a : Addr) (ns : List Int), vs = [.ref a] ∧ SqL K H a (ns.map V.int) ∧ ns.length ≤ 63 ∧ (∀ H', Q (.bl true) H')
def kb_cover_0_g {α : Type} : List α → List α → List α
  | [], [w0, w1] => [w1, w0]
  | _, _ => []
theorem kb_cover_0 {K : PySem.W.Frag} {f : Addr} {fd : FuncData} (F : FnP K "cover" s_cover f fd) : KBinds K fd ["spans", "width"] ["width", "spans"] kb_cover_0_g kb_cover_0_g := by
  obtain ⟨kV, doc, pm, an, cdv, ct, rfl⟩ := fd_plain F
  refine ⟨fun s us ws _ hl => ?_, fun {vs us zs ws} h1 h2 => ?_⟩
  · unfold kb_cover_0_g at hl ⊢
    split at hl
    · exact BindsTo.of_eq rfl
    · cases hl
  · rcases h1 with _ | ⟨_, _⟩ <;> rcases h2 with _ | ⟨r_w0, _ | ⟨r_w1, _ | ⟨_, _⟩⟩⟩ <;> first | exact (.cons r_w1 (.cons r_w0 .nil)) | exact .nil
end K04
namespace K04
open PySem PySem.Spec PyProof.Rows L2 TL G
theorem ok_joined {P : Program} {w : World} {K : PySem.W.Frag} {mg : Str → Option Value} {base : Heap} (T : Txt K mg) : FnOk P w K mg base CX0 1 T.a_joined T.d_joined ["spans"] (sp_joined K) := by
  refine fd_ok T.F_joined sc_joined (fun vs H Q E h => ?_) (fun cdv A outer s H0 vs Q E hr h => ?_)
  · obtain ⟨_, _, _, _, _, rfl, _⟩ := h
    rfl
  · obtain ⟨F0, p_x_spans, ws_x_spans, x_spans, r, rfl, hS0, hS_x_spans, hl_x_spans, hA_x_spans, nm_x_spans, hm, hQ⟩ := h
    refine ⟨_, (pss_cons (ps_set (i := 1) sc_joined.nd rfl (.inl rfl) (pe_lst pa_nil)) (pss_cons (ps_for PassesOwn.never rfl (pi_listK (K := K) (pv 0)) (pg_tupK (K := K) 2 rfl (pgs_cons (pg_name (i := 2) sc_joined.nd rfl (Or.inl rfl)) (pgs_cons (pg_name (i := 3) sc_joined.nd rfl (Or.inl rfl)) pgs_nil))) (pss_one (ps_if (PW.pt (pw_and (pt_cmpR (op_neDK (K := K) hr.units) (pv 1) (pe_lst pa_nil) (nomark _)) (pw_and1 (pt_cmpR op_eq (pe_ix (ix_tupK (K := K)) (pe_ix (ix_listK (K := K)) (pv 1) (pe_un un_neg pe_int) (fun _ _ => rfl)) pe_int (fun _ _ => rfl)) (pv 2) (nomark _))))) (pss_one (ps_asg (pe_tup (pa_cons (pe_ix (ix_tupK (K := K)) (pe_ix (ix_listK (K := K)) (pv 1) (pe_un un_neg pe_int) (fun _ _ => rfl)) pe_int (fun _ _ => rfl)) (pa_cons (pv 3) pa_nil))) (pg_sub (pv 1) (pe_un un_neg pe_int) set_list))) (pss_one (ps_expr (pe_bmK (K := K) PySem.F.plainAttrs_list PySem.F.slot_list_append PySem.F.type_list_append mt_append (pv 1) (pa_cons (pe_tup (pa_cons (pv 2) (pa_cons (pv 3) pa_nil))) pa_nil))))))) (pss_one (ps_ret (pv 1))))), ?_⟩
    have g0 : Gr M0 F0 H0 F0 H0 := Gr.refl hS0
    unfold m_joined at hm
    refine p_seq ?_
    refine p_asg ?_
    refine ⟨(by show 0 ≤ sizeLine; decide), fun p1 np2 => ?_⟩
    have g3 := g0.own (o := (.lst [])) np2
    have ow4 : Ow H0 F0 (upd H0 p1 (.lst [])) p1 [] := Ow.new g0 np2
    obtain ⟨x_found6, hb7, hm⟩ := bnd hm
    have hx8 : ([] : (List (Int × Int))) = x_found6 := sjoin hb7
    have hA9 : RL K F0 [] x_found6 := RL.re hx8 RpA.nil
    refine p_name ?_
    refine p_nx ?_
    refine p_seq ?_
    refine p_for ?_
    refine ⟨(V.ref p_x_spans), rfl, p_x_spans, rfl, ⟨_, (g3.seq nm_x_spans hS_x_spans)⟩, ?_⟩
    obtain ⟨x_found10, ht11, hm⟩ := bnd hm
    refine for_list (K := K) (a := p_x_spans) (xs := ws_x_spans) (fun i σ' H' => ∃ (F' : Hp) (o_x_behind : Option V) (o_x_first : Option V) (x_found : (List (Int × Int))) (ws_x_found : List V), σ' = [(some (V.ref p_x_spans)), (some (V.ref p1)), o_x_first, o_x_behind] ∧ Gr M0 F0 H0 F' H' ∧ Same F0 F' ∧ Ow H0 F' H' p1 ws_x_found ∧ ws_x_found.length ≤ sizeLine ∧ RL K F' ws_x_found x_found ∧ m_joined_l1  (x_spans.drop i) x_found = some x_found10) ?_ ?_ ?_ ?_
    · exact ⟨F0, none, none, x_found6, [], rfl, g3, (Same.refl _), ow4, (by show 0 ≤ sizeLine; decide), hA9, ht11⟩
    · intro i σ' H' _ hP
      obtain ⟨F', o_x_behind, o_x_first, x_found, ws_x_found, rfl, g_, sm_, ow_x_found, hl_x_found, hA_x_found, hm_⟩ := hP
      exact (g_.seq nm_x_spans hS_x_spans)
    · intro i12 xv15 σ' H14 hx13 hP
      obtain ⟨F16, o_x_behind17, o_x_first18, x_found19, ws_x_found20, rfl, g21, sm22, ow_x_found23, hl_x_found24, hA_x_found25, hm26⟩ := hP
      obtain ⟨e27, he28, r29⟩ := RL.get (hA_x_spans.up sm22) hx13
      rw [drop_at he28, m_joined_l1.eq_2] at hm26
      obtain ⟨p30, v33, v34, ev31, hS32, r35, r36⟩ := R.p2_v r29
      obtain rfl := R.int_v r35
      obtain rfl := R.int_v r36
      refine ⟨p30, [(V.int e27.1), (V.int e27.2)], ev31, (SqT_mono g21.fh hS32), rfl, (V.int e27.1), [(V.int e27.2)], rfl, (V.int e27.2), [], rfl, rfl, ?_⟩
      refine p_if ?_
      refine ⟨(V.ref p1), rfl, (by show 0 ≤ sizeLine; decide), fun p37 np38 => ?_⟩
      have ne39 := ow_x_found23.ne np38
      have g40 := g21.own (o := (.lst [])) np38
      have ow41 := ow_x_found23.own (o := (.lst [])) np38
      have ow42 : Ow H0 F16 (upd H14 p37 (.lst [])) p37 [] := Ow.new g21 np38
      have rH44 : R K (upd H14 p37 (.lst [])) (V.ref p1) x_found19 := (R.mkl ow41.sq hl_x_found24 (RpA.up hA_x_found25 g40.fh))
      have rH45 : R K (upd H14 p37 (.lst [])) (V.ref p37) ([] : (List (Int × Int))) := (R.mkl ow42.sq (by show 0 ≤ sizeLine; decide) (RpA.up RpA.nil g40.fh))
      refine ⟨_, _, (Rp.dp _ _ rH44), (Rp.dp _ _ rH45), (R.shaped rH44), (R.shaped rH45), _, rfl, ?_⟩
      obtain ⟨c46, hc47, hm26⟩ := bnd hm26
      refine andJT (M := M0) (F := F16) (c := c46) (P := fun _ _ => True) (fun ha => ?_) (fun ha => ⟨(sjoin (ifF ha hc47)).symm, trivial⟩) g40.fh ?_
      · intro Q49 q50
        have hc47 := ifT ha hc47
        obtain ⟨t51, hb52, hc47⟩ := bnd hc47
        obtain ⟨v53, ha54, r55⟩ := RL.at hA_x_found25 hb52
        obtain ⟨p56, v59, v60, ev57, hS58, r61, r62⟩ := R.p2_v r55
        obtain rfl := R.int_v r61
        obtain rfl := R.int_v r62
        obtain rfl := sjoin hc47
        refine ⟨(V.ref p1), rfl, _, rfl, p1, ws_x_found20, _, v53, rfl, rfl, ow41.sq, ha54, p56, _, _, (V.int t51.2), ev57, rfl, (SqT_mono g40.fh hS58), rfl, (V.int e27.1), rfl, rfl, _, rfl, (q50 _ _ (Gr.refl (M := M0) g40.fh) trivial)⟩
      intro F63 H64 g65 hB66
      have g67 := Gr.trans g40 g65
      have ow68 := ow41.gr0 g65
      have ow69 := ow42.gr0 g65
      refine (iteB (fun hc => ?_) (fun hc => ?_))
      · have hm26 := ifT hc hm26
        refine p_asg ?_
        obtain ⟨t70, hb71, hm26⟩ := bnd hm26
        obtain ⟨v72, ha73, r74⟩ := RL.at (hA_x_found25.up g65.ff) hb71
        obtain ⟨p75, v78, v79, ev76, hS77, r80, r81⟩ := R.p2_v r74
        obtain rfl := R.int_v r80
        obtain rfl := R.int_v r81
        refine ⟨(V.ref p1), rfl, _, rfl, p1, ws_x_found20, _, v72, rfl, rfl, ow68.sq, ha73, p75, _, _, (V.int t70.1), ev76, rfl, (SqT_mono g67.fh hS77), rfl, (V.int e27.2), rfl, (by show 2 ≤ sizeLine; decide), fun p82 np83 => ?_⟩
        have ne84 := ow68.ne np83
        have ne85 := ow69.ne np83
        have sm86 := same_new (o := (.tup [(V.int t70.1), (V.int e27.2)])) (g67.noneF np83)
        have g87 := g67.frz (o := (.tup [(V.int t70.1), (V.int e27.2)])) np83
        have ow88 := ow68.frz (o := (.tup [(V.int t70.1), (V.int e27.2)])) np83
        have ow89 := ow69.frz (o := (.tup [(V.int t70.1), (V.int e27.2)])) np83
        have r90 : R K (upd F63 p82 (.tup [(V.int t70.1), (V.int e27.2)])) (.ref p82) ((t70.1, e27.2) : (Int × Int)) := R.mk2 fzT (Rp.int t70.1) (Rp.int e27.2)
        obtain ⟨t91, hb92, hm26⟩ := bnd hm26
        obtain ⟨j93, hj94, rfl⟩ := setL_ok hb92
        refine ⟨(V.ref p1), rfl, _, rfl, p1, _, _, j93, rfl, rfl, ow88.h, (by rw [RL.len (hA_x_found25.up (Same.trans g65.ff sm86))]; exact hj94), ?_⟩
        have hA96 := RL.set j93 r90 (hA_x_found25.up (Same.trans g65.ff sm86))
        have g97 := g87.put (o := (.lst (ws_x_found20.set j93 (V.ref p82)))) ow88
        have ow98 := ow89.other (o := (.lst (ws_x_found20.set j93 (V.ref p82)))) (Ne.symm ne39)
        have ow99 := ow88.put (us := (ws_x_found20.set j93 (V.ref p82)))
        exact ⟨(upd F63 p82 (.tup [(V.int t70.1), (V.int e27.2)])), (some (V.int e27.2)), (some (V.int e27.1)), (x_found19.set j93 (t70.1, e27.2)), (ws_x_found20.set j93 (V.ref p82)), rfl, g97, (Same.trans sm22 (Same.trans g65.ff sm86)), ow99, (by rw [List.length_set]; exact hl_x_found24), hA96, hm26⟩
      · have hm26 := ifF hc hm26
        refine p_drop ?_
        refine ⟨(V.ref p1), rfl, (.inl ⟨rfl, _, ow68.sq⟩), (V.int e27.1), rfl, (V.int e27.2), rfl, (by show 2 ≤ sizeLine; decide), fun p100 np101 => ?_⟩
        have ne102 := ow68.ne np101
        have ne103 := ow69.ne np101
        have sm104 := same_new (o := (.tup [(V.int e27.1), (V.int e27.2)])) (g67.noneF np101)
        have g105 := g67.frz (o := (.tup [(V.int e27.1), (V.int e27.2)])) np101
        have ow106 := ow68.frz (o := (.tup [(V.int e27.1), (V.int e27.2)])) np101
        have ow107 := ow69.frz (o := (.tup [(V.int e27.1), (V.int e27.2)])) np101
        have r108 : R K (upd F63 p100 (.tup [(V.int e27.1), (V.int e27.2)])) (.ref p100) ((e27.1, e27.2) : (Int × Int)) := R.mk2 fzT (Rp.int e27.1) (Rp.int e27.2)
        obtain ⟨t109, hb110, hm26⟩ := bnd hm26
        obtain ⟨hk111, rfl⟩ := appL_ok hb110
        refine ⟨p1, ws_x_found20, (V.ref p100), rfl, rfl, ow106.h, (by rw [RL.len (hA_x_found25.up (Same.trans g65.ff sm104))]; exact hk111), ?_⟩
        have hA112 : RL K (upd F63 p100 (.tup [(V.int e27.1), (V.int e27.2)])) (ws_x_found20 ++ [(V.ref p100)]) (x_found19 ++ [((e27.1, e27.2) : (Int × Int))]) := RL.snoc (hA_x_found25.up (Same.trans g65.ff sm104)) r108
        have hl113 : (ws_x_found20 ++ [(V.ref p100)]).length ≤ sizeLine := by rw [List.length_append, RL.len (hA_x_found25.up (Same.trans g65.ff sm104))]; exact hk111
        have g114 := g105.put (o := (.lst (ws_x_found20 ++ [(V.ref p100)]))) ow106
        have ow115 := ow107.other (o := (.lst (ws_x_found20 ++ [(V.ref p100)]))) (Ne.symm ne39)
        have ow116 := ow106.put (us := (ws_x_found20 ++ [(V.ref p100)]))
        exact ⟨(upd F63 p100 (.tup [(V.int e27.1), (V.int e27.2)])), (some (V.int e27.2)), (some (V.int e27.1)), (x_found19 ++ [(e27.1, e27.2)]), (ws_x_found20 ++ [(V.ref p100)]), rfl, g114, (Same.trans sm22 (Same.trans g65.ff sm104)), ow116, hl113, hA112, hm26⟩
    intro σ117 H118 hP
    obtain ⟨F119, o_x_behind120, o_x_first121, x_found122, ws_x_found123, rfl, g124, sm125, ow_x_found126, hl_x_found127, hA_x_found128, hm129⟩ := hP
    rw [drop_end (RL.len (hA_x_spans.up sm125)), m_joined_l1.eq_1] at hm129
    obtain rfl := sjoin hm129
    refine p_nx ?_
    refine p_ret ?_
    obtain rfl := sjoin hm
    refine ⟨(V.ref p1), rfl, (hQ _ _ _ _ g124 ow_x_found126.n0 ow_x_found126.h ow_x_found126.nF hl_x_found127 hA_x_found128)⟩
end K04
namespace K04
open PySem PySem.Spec PyProof.Rows L2 TL G
theorem ok_pattern_at {P : Program} {w : World} {K : PySem.W.Frag} {mg : Str → Option Value} {base : Heap} (T : Txt K mg) : FnOk P w K mg base CX0 1 T.a_pattern_at T.d_pattern_at ["first", "bits", "width"] (sp_pattern_at K) := by
  refine fd_ok T.F_pattern_at sc_pattern_at (fun vs H Q E h => ?_) (fun cdv A outer s H0 vs Q E hr h => ?_)
  · obtain ⟨_, _, _, _, rfl, _⟩ := h
    rfl
  · obtain ⟨x_first, x_bits, x_width, r, rfl, hm, hQ⟩ := h
    refine ⟨_, (pss_cons (ps_set (i := 3) sc_pattern_at.nd rfl (.inl rfl) (pe_op op_shr (pv 0) (pe_op op_sub (pv 2) (pv 1)))) (pss_cons (ps_set (i := 4) sc_pattern_at.nd rfl (.inl rfl) pe_str) (pss_cons (ps_for PassesOwn.never rfl (pi_range1 (by rfl) T.n_range (pa_cons (pv 1) pa_nil)) (pg_name (i := 5) sc_pattern_at.nd rfl (Or.inl rfl)) (pss_cons (ps_set (i := 4) sc_pattern_at.nd rfl (.inl rfl) (pe_op op_add_str (pe_ix ix_str (pe_glob (v := (V.str ("01" : Str))) rfl T.k_BITS ⟨_, rfl⟩) (pe_op op_mod (pv 3) pe_int) (fun _ _ => rfl)) (pv 4))) (pss_one (ps_set (i := 3) sc_pattern_at.nd rfl (.inl rfl) (pe_op op_fdiv (pv 3) pe_int))))) (pss_one (ps_ret (pe_ifExp (pt_cmpR op_eq (pv 1) (pv 2) (nomark _)) (pv 4) (pe_op op_add_str (pv 4) (pe_glob (v := (V.str ("*" : Str))) rfl T.k_STAR ⟨_, rfl⟩)))))))), ?_⟩
    have g0 : Gr M0 H0 H0 H0 H0 := Gr.refl (Same.refl _)
    unfold m_pattern_at at hm
    refine p_seq ?_
    refine p_asg ?_
    obtain ⟨t1, hb2, hm⟩ := bnd hm
    obtain ⟨hk3, rfl⟩ := shrI_ok hb2
    refine ⟨(V.int x_first), rfl, (V.int x_width), rfl, (V.int x_bits), rfl, _, _, rfl, rfl, _, _, rfl, rfl, hk3, ?_⟩
    obtain ⟨x_number4, hx5⟩ : ∃ z_, (x_first / 2 ^ ((x_width - x_bits)).toNat) = z_ := ⟨_, rfl⟩
    try rw [hx5] at hm
    refine p_nm (v' := (V.int x_number4)) (congrArg V.int hx5) ?_
    refine p_nx ?_
    refine p_seq ?_
    refine p_asg ?_
    refine p_name ?_
    refine p_nx ?_
    refine p_seq ?_
    refine p_for ?_
    obtain ⟨l6, hb8, hm⟩ := bnd hm
    obtain ⟨hk7, rfl⟩ := rangeO1_ok hb8
    refine ⟨(V.int x_bits), rfl, _, rfl, hk7.1.1, hk7.1.2, ?_⟩
    obtain ⟨x_signs9, x_number10, ht11, hm⟩ := bnd2 hm
    refine for_range (lo := (0 : Int)) (n := (x_bits).toNat) (fun i σ' H' => ∃ (F' : Hp) (x_signs : Str) (x_number : Int) (o_x_turn : Option V), σ' = [(some (V.int x_first)), (some (V.int x_bits)), (some (V.int x_width)), (some (V.int x_number)), (some (V.str x_signs)), o_x_turn] ∧ Gr M0 H0 H0 F' H' ∧ Same H0 F' ∧ GS x_signs ∧ m_pattern_at_l1  ((rangeL (0 : Int) (x_bits).toNat).drop i) x_signs x_number = some (x_signs9, x_number10)) ?_ ?_ ?_
    · exact ⟨H0, ("" : Str), x_number4, none, rfl, g0, (Same.refl _), ⟨by decide +kernel, by decide +kernel⟩, ht11⟩
    · intro i12 σ' H14 hx13 hP
      obtain ⟨F16, x_signs17, x_number18, o_x_turn19, rfl, g20, sm21, gs_x_signs22, hm23⟩ := hP
      have he25 := rangeL_at (lo := (0 : Int)) hx13
      rw [drop_at he25, m_pattern_at_l1.eq_2] at hm23
      refine p_name ?_
      refine p_seq ?_
      refine p_asg ?_
      obtain ⟨c26, hb27, hm23⟩ := bnd hm23
      obtain ⟨t28, hb29, hm23⟩ := bnd hm23
      obtain ⟨hk30, rfl⟩ := catS_ok hb29
      refine ⟨(V.int x_number18), rfl, _, _, rfl, rfl, (show (0 : Int) < 2 by decide), _, _, c26, rfl, rfl, (⟨by decide +kernel, by decide +kernel⟩ : GS ("01" : Str)).len, hb27, (V.str x_signs17), rfl, _, _, rfl, rfl, hk30, ?_⟩
      obtain ⟨x_signs31, hx32⟩ : ∃ z_, ((sgn c26) ++ x_signs17) = z_ := ⟨_, rfl⟩
      try rw [hx32] at hm23
      have gs33 : GS x_signs31 := hx32 ▸ ((GS.cat (GS.sg ⟨by decide +kernel, by decide +kernel⟩ (codeAt_mem hb27)) gs_x_signs22 hb29) : GS ((sgn c26) ++ x_signs17))
      refine p_nm (v' := (V.str x_signs31)) (congrArg V.str hx32) ?_
      refine p_nx ?_
      refine p_asg ?_
      refine ⟨(V.int x_number18), rfl, _, _, rfl, rfl, ⟨by decide, by decide⟩, ?_⟩
      obtain ⟨x_number34, hb35, hm23⟩ := bnd hm23
      have hx36 : (x_number18 / (2 : Int)) = x_number34 := sjoin hb35
      refine p_nm (v' := (V.int x_number34)) (congrArg V.int hx36) ?_
      exact ⟨F16, x_signs31, x_number34, (some (V.int ((0 : Int) + ((i12 : Nat) : Int)))), rfl, g20, sm21, gs33, hm23⟩
    intro σ37 H38 hP
    obtain ⟨F39, x_signs40, x_number41, o_x_turn42, rfl, g43, sm44, gs_x_signs45, hm46⟩ := hP
    rw [drop_end (rangeL_len _ _).symm, m_pattern_at_l1.eq_1] at hm46
    obtain ⟨rfl, rfl⟩ := pjoin hm46
    refine p_nx ?_
    refine p_ret ?_
    refine ⟨(V.int x_bits), rfl, (V.int x_width), rfl, rfl, _, rfl, ?_⟩
    obtain ⟨c47, hc49, hm⟩ := bnd hm
    refine ifJ (M := M0) (F := F39) (P := fun v' F' H' => v' = V.str (c47 : Str) ∧ GS (c47 : Str)) (fun ha => ?_) (fun ha => ?_) ?_
    · intro Q50 q51
      have hc49 := ifT ha hc49
      obtain rfl := sjoin hc49
      refine ⟨(V.str x_signs40), rfl, (q51 _ _ _ (Gr.refl (M := M0) g43.fh) ⟨rfl, gs_x_signs45⟩)⟩
    · intro Q52 q53
      have hc49 := ifF ha hc49
      obtain ⟨t54, hb55, hc49⟩ := bnd hc49
      obtain ⟨hk56, rfl⟩ := catS_ok hb55
      obtain rfl := sjoin hc49
      refine ⟨(V.str x_signs40), rfl, _, _, rfl, rfl, hk56, (q53 _ _ _ (Gr.refl (M := M0) g43.fh) ⟨rfl, (GS.cat gs_x_signs45 ⟨by decide +kernel, by decide +kernel⟩ hb55)⟩)⟩
    intro v60 F57 H58 g59 hp61
    obtain ⟨hp61, hp61g⟩ := hp61
    have g63 := Gr.trans g43 g59
    obtain rfl := hp61
    obtain rfl := sjoin hm
    exact (hQ _ _ g63 hp61g)
end K04
namespace K04
open PySem PySem.Spec PyProof.Rows L2 TL G
theorem ok_cover {P : Program} {w : World} {K : PySem.W.Frag} {mg : Str → Option Value} {base : Heap} (T : Txt K mg) : FnOk P w K mg base CX0 2 T.a_cover T.d_cover ["spans", "width"] (sp_cover K) := by
  have G_joined : FnOk P w K mg base CX0 1 T.a_joined T.d_joined ["spans"] (sp_joined K) := ok_joined T
  have b_joined := T.F_joined.bindsN (ps := ["spans"]) fun _ _ _ _ _ _ us hl => match us, hl with | [_], _ => rfl
  have G_pattern_at : FnOk P w K mg base CX0 1 T.a_pattern_at T.d_pattern_at ["first", "bits", "width"] (sp_pattern_at K) := ok_pattern_at T
  have b_pattern_at := T.F_pattern_at.bindsN (ps := ["first", "bits", "width"]) fun _ _ _ _ _ _ us hl => match us, hl with | [_, _, _], _ => rfl
  refine fd_ok T.F_cover sc_cover (fun vs H Q E h => ?_) (fun cdv A outer s H0 vs Q E hr h => ?_)
  · obtain ⟨_, _, _, _, _, _, rfl, _⟩ := h
    rfl
  · obtain ⟨F0, p_x_spans, ws_x_spans, x_spans, x_width, r, rfl, hS0, hS_x_spans, hl_x_spans, hA_x_spans, nm_x_spans, hm, hQ⟩ := h
    refine ⟨_, (pss_cons (ps_set (i := 2) sc_cover.nd rfl (.inl rfl) (pe_lst pa_nil)) (pss_cons (ps_for PassesOwn.never rfl (pi_listK (K := K) (pe_call G_joined (hr.mono (by decide)) (by rfl) T.g_joined T.F_joined.kp b_joined .nil pass0 (pa_cons (pv 0) pa_nil))) (pg_tupK (K := K) 2 rfl (pgs_cons (pg_name (i := 3) sc_cover.nd rfl (Or.inl rfl)) (pgs_cons (pg_name (i := 4) sc_cover.nd rfl (Or.inl rfl)) pgs_nil))) (pss_cons (ps_set (i := 5) sc_cover.nd rfl (.inl rfl) (pv 3)) (pss_one (ps_while PassesOwn.never (pt_cmpR op_lt (pv 5) (pv 4) (nomark _)) (pss_cons (ps_set (i := 6) sc_cover.nd rfl (.inl rfl) pe_int) (pss_cons (ps_while PassesOwn.never (PW.pt (pw_or (pt_cmpR op_ne (pe_op op_mod (pv 5) (pe_op op_shl pe_int (pe_op op_sub (pv 1) (pv 6)))) pe_int (nomark _)) (pw_or1 (pt_cmpR op_gt (pe_op op_add (pv 5) (pe_op op_shl pe_int (pe_op op_sub (pv 1) (pv 6)))) (pv 4) (nomark _))))) (pss_one (ps_aug (i := 6) sc_cover.nd rfl (.inl rfl) pe_int ip_add))) (pss_cons (ps_expr (pe_bmK (K := K) PySem.F.plainAttrs_list PySem.F.slot_list_append PySem.F.type_list_append mt_append (pv 2) (pa_cons (pe_call G_pattern_at (hr.mono (by decide)) (by rfl) T.g_pattern_at T.F_pattern_at.kp b_pattern_at .nil pass0 (pa_cons (pv 5) (pa_cons (pv 6) (pa_cons (pv 1) pa_nil)))) pa_nil))) (pss_one (ps_aug (i := 5) sc_cover.nd rfl (.inl rfl) (pe_op op_shl pe_int (pe_op op_sub (pv 1) (pv 6))) ip_add))))))))) (pss_one (ps_ret (pv 2))))), ?_⟩
    have g0 : Gr M0 F0 H0 F0 H0 := Gr.refl hS0
    unfold m_cover at hm
    refine p_seq ?_
    refine p_asg ?_
    refine ⟨(by show 0 ≤ sizeLine; decide), fun p1 np2 => ?_⟩
    have g3 := g0.own (o := (.lst [])) np2
    have ow4 : Ow H0 F0 (upd H0 p1 (.lst [])) p1 [] := Ow.new g0 np2
    obtain ⟨x_found6, hb7, hm⟩ := bnd hm
    have hx8 : ([] : (List Str)) = x_found6 := sjoin hb7
    have hA9 : RL K F0 [] x_found6 := RL.re hx8 RpA.nil
    refine p_name ?_
    refine p_nx ?_
    refine p_seq ?_
    refine p_for ?_
    obtain ⟨r10, hb11, hm⟩ := bnd hm
    refine ⟨(V.ref p_x_spans), rfl, F0, p_x_spans, ws_x_spans, x_spans, r10, rfl, g3.fh, (g3.seq nm_x_spans hS_x_spans), hl_x_spans, hA_x_spans, id, hb11, fun p15 ws16 F12 H13 g14 np17 h18 nF19 hl20 hA21 => ?_⟩
    have ne22 := ow4.ne np17
    have n023 := g3.none0 np17
    have g24 := Gr.trans g3 g14
    have ow25 := ow4.gr0 g14
    have ow26 : Ow H0 F12 H13 p15 ws16 := ⟨h18, nF19, n023⟩
    refine ⟨p15, rfl, ⟨_, ow26.sq⟩, ?_⟩
    obtain ⟨x_found27, ht28, hm⟩ := bnd hm
    refine for_list (K := K) (a := p15) (xs := ws16) (fun i σ' H' => ∃ (F' : Hp) (o_x_behind : Option V) (o_x_first : Option V) (o_x_at : Option V) (o_x_bits : Option V) (x_found : (List Str)) (ws_x_found : List V), σ' = [(some (V.ref p_x_spans)), (some (V.int x_width)), (some (V.ref p1)), o_x_first, o_x_behind, o_x_at, o_x_bits] ∧ Gr M0 F0 H0 F' H' ∧ Same F12 F' ∧ Ow H0 F' H' p1 ws_x_found ∧ ws_x_found.length ≤ sizeLine ∧ RL K F' ws_x_found x_found ∧ Ow H0 F' H' p15 ws16 ∧ m_cover_l1 x_width (r10.drop i) x_found = some x_found27) ?_ ?_ ?_ ?_
    · exact ⟨F12, none, none, none, none, x_found6, [], rfl, g24, (Same.refl _), ow25, (by show 0 ≤ sizeLine; decide), (hA9.up g14.ff), ow26, ht28⟩
    · intro i σ' H' _ hP
      obtain ⟨F', o_x_behind, o_x_first, o_x_at, o_x_bits, x_found, ws_x_found, rfl, g_, sm_, ow_x_found, hl_x_found, hA_x_found, owk0_, hm_⟩ := hP
      exact owk0_.sq
    · intro i29 xv32 σ' H31 hx30 hP
      obtain ⟨F33, o_x_behind34, o_x_first35, o_x_at36, o_x_bits37, x_found38, ws_x_found39, rfl, g40, sm41, ow_x_found42, hl_x_found43, hA_x_found44, owk045, hm46⟩ := hP
      obtain ⟨e47, he48, r49⟩ := RL.get (hA21.up sm41) hx30
      rw [drop_at he48, m_cover_l1.eq_2] at hm46
      obtain ⟨p50, v53, v54, ev51, hS52, r55, r56⟩ := R.p2_v r49
      obtain rfl := R.int_v r55
      obtain rfl := R.int_v r56
      refine ⟨p50, [(V.int e47.1), (V.int e47.2)], ev51, (SqT_mono g40.fh hS52), rfl, (V.int e47.1), [(V.int e47.2)], rfl, (V.int e47.2), [], rfl, rfl, ?_⟩
      refine p_seq ?_
      refine p_asg ?_
      refine ⟨(V.int e47.1), rfl, ?_⟩
      refine p_name ?_
      refine p_nx ?_
      obtain ⟨x_at57, x_found58, ht59, hm46⟩ := bnd2 hm46
      refine ⟨fun i σ' H' => ∃ (F' : Hp) (x_at : Int) (o_x_bits : Option V) (x_found : (List Str)) (ws_x_found : List V), σ' = [(some (V.ref p_x_spans)), (some (V.int x_width)), (some (V.ref p1)), (some (V.int e47.1)), (some (V.int e47.2)), (some (V.int x_at)), o_x_bits] ∧ Gr M0 F0 H0 F' H' ∧ Same F33 F' ∧ Ow H0 F' H' p1 ws_x_found ∧ ws_x_found.length ≤ sizeLine ∧ RL K F' ws_x_found x_found ∧ Ow H0 F' H' p15 ws16 ∧ m_cover_l2 x_width e47.2 i x_at x_found = some (x_at57, x_found58), ⟨70, ⟨F33, e47.1, o_x_bits37, x_found38, ws_x_found39, rfl, g40, (Same.refl _), ow_x_found42, hl_x_found43, hA_x_found44, owk045, ht59⟩⟩, ?_⟩
      intro i σ60 H61 hP
      obtain ⟨F62, x_at63, o_x_bits64, x_found65, ws_x_found66, rfl, g67, sm68, ow_x_found69, hl_x_found70, hA_x_found71, owk072, hm73⟩ := hP
      cases i with | zero => exact absurd hm73 (by rw [m_cover_l2.eq_1]; exact nofun) | succ i => ?_
      rw [m_cover_l2.eq_2] at hm73
      refine ⟨(V.int x_at63), rfl, (V.int e47.2), rfl, _, _, rfl, rfl, _, rfl, (iteB (fun hc => ?_) (fun hc => ?_))⟩
      · have hm73 := ifT hc hm73
        refine ⟨fun σ' H' => ∃ (F' : Hp) (x_at : Int) (o_x_bits : Option V) (x_found : (List Str)) (ws_x_found : List V), σ' = [(some (V.ref p_x_spans)), (some (V.int x_width)), (some (V.ref p1)), (some (V.int e47.1)), (some (V.int e47.2)), (some (V.int x_at)), o_x_bits] ∧ Gr M0 F0 H0 F' H' ∧ Same F33 F' ∧ Ow H0 F' H' p1 ws_x_found ∧ ws_x_found.length ≤ sizeLine ∧ RL K F' ws_x_found x_found ∧ Ow H0 F' H' p15 ws16 ∧ m_cover_l2 x_width e47.2 i x_at x_found = some (x_at57, x_found58), fun _ _ n => ⟨i, Nat.lt_succ_self i, n⟩, ?_⟩
        refine p_id ?_
        refine p_seq ?_
        refine p_asg ?_
        refine p_name ?_
        refine p_nx ?_
        refine p_seq ?_
        obtain ⟨x_bits74, ht75, hm73⟩ := bnd hm73
        refine ⟨fun i σ' H' => ∃ (F' : Hp) (x_bits : Int), σ' = [(some (V.ref p_x_spans)), (some (V.int x_width)), (some (V.ref p1)), (some (V.int e47.1)), (some (V.int e47.2)), (some (V.int x_at63)), (some (V.int x_bits))] ∧ Gr M0 F0 H0 F' H' ∧ Same F62 F' ∧ Ow H0 F' H' p1 ws_x_found66 ∧ Ow H0 F' H' p15 ws16 ∧ m_cover_l3 x_width e47.2 x_at63 i x_bits = some x_bits74, ⟨70, ⟨F62, (0 : Int), rfl, g67, (Same.refl _), ow_x_found69, owk072, ht75⟩⟩, ?_⟩
        intro i σ76 H77 hP
        obtain ⟨F78, x_bits79, rfl, g80, sm81, owk082, owk183, hm84⟩ := hP
        cases i with | zero => exact absurd hm84 (by rw [m_cover_l3.eq_1]; exact nofun) | succ i => ?_
        rw [m_cover_l3.eq_2] at hm84
        obtain ⟨t85, hb86, hm84⟩ := bnd hm84
        obtain ⟨hk87, rfl⟩ := shlI_ok hb86
        obtain ⟨t88, hb89, hm84⟩ := bnd hm84
        obtain ⟨hk90, rfl⟩ := modI_ok hb89
        refine ⟨(V.int x_at63), rfl, (V.int x_width), rfl, (V.int x_bits79), rfl, _, _, rfl, rfl, _, _, rfl, rfl, hk87, _, _, rfl, rfl, hk90, rfl, _, rfl, ?_⟩
        obtain ⟨c91, hc92, hm84⟩ := bnd hm84
        refine orJT (M := M0) (F := F78) (c := c91) (P := fun _ _ => True) (fun ha => ?_) (fun ha => ⟨(sjoin (ifT ha hc92)).symm, trivial⟩) g80.fh ?_
        · intro Q94 q95
          have hc92 := ifF ha hc92
          obtain ⟨t96, hb97, hc92⟩ := bnd hc92
          obtain ⟨hk98, rfl⟩ := shlI_ok hb97
          obtain rfl := sjoin hc92
          refine ⟨(V.int x_at63), rfl, (V.int x_width), rfl, (V.int x_bits79), rfl, _, _, rfl, rfl, _, _, rfl, rfl, hk98, _, _, rfl, rfl, (V.int e47.2), rfl, _, _, rfl, rfl, _, rfl, (q95 _ _ (Gr.refl (M := M0) g80.fh) trivial)⟩
        intro F99 H100 g101 hB102
        have g103 := Gr.trans g80 g101
        have ow104 := owk082.gr0 g101
        have ow105 := owk183.gr0 g101
        refine (iteB (fun hc => ?_) (fun hc => ?_))
        · have hm84 := ifT hc hm84
          refine ⟨fun σ' H' => ∃ (F' : Hp) (x_bits : Int), σ' = [(some (V.ref p_x_spans)), (some (V.int x_width)), (some (V.ref p1)), (some (V.int e47.1)), (some (V.int e47.2)), (some (V.int x_at63)), (some (V.int x_bits))] ∧ Gr M0 F0 H0 F' H' ∧ Same F62 F' ∧ Ow H0 F' H' p1 ws_x_found66 ∧ Ow H0 F' H' p15 ws16 ∧ m_cover_l3 x_width e47.2 x_at63 i x_bits = some x_bits74, fun _ _ n => ⟨i, Nat.lt_succ_self i, n⟩, ?_⟩
          refine p_id ?_
          refine ⟨(V.int x_bits79), rfl, _, _, rfl, rfl, ?_⟩
          exact ⟨F99, (x_bits79 + (1 : Int)), rfl, g103, (Same.trans sm81 g101.ff), ow104, ow105, hm84⟩
        have hm84 := ifF hc hm84
        obtain rfl := sjoin hm84
        refine p_nx ?_
        refine p_seq ?_
        refine p_drop ?_
        obtain ⟨r106, hb107, hm73⟩ := bnd hm73
        refine ⟨(V.ref p1), rfl, (.inl ⟨rfl, _, ow104.sq⟩), (V.int x_at63), rfl, (V.int x_bits79), rfl, (V.int x_width), rfl, x_at63, x_bits79, x_width, r106, rfl, hb107, fun F108 H109 g110 gs111 => ?_⟩
        have g112 := Gr.apart g103 g110
        have ow113 := ow104.apart g110
        have ow114 := ow105.apart g110
        obtain ⟨t115, hb116, hm73⟩ := bnd hm73
        obtain ⟨hk117, rfl⟩ := appL_ok hb116
        refine ⟨p1, ws_x_found66, (V.str r106), rfl, rfl, ow113.h, (by rw [RL.len (hA_x_found71.up (Same.trans sm81 g101.ff))]; exact hk117), ?_⟩
        have hA118 : RL K F99 (ws_x_found66 ++ [(V.str r106)]) (x_found65 ++ [(r106 : Str)]) := RL.snoc (hA_x_found71.up (Same.trans sm81 g101.ff)) (Rp.str r106 gs111)
        have hl119 : (ws_x_found66 ++ [(V.str r106)]).length ≤ sizeLine := by rw [List.length_append, RL.len (hA_x_found71.up (Same.trans sm81 g101.ff))]; exact hk117
        have g120 := g112.put (o := (.lst (ws_x_found66 ++ [(V.str r106)]))) ow113
        have ow121 := ow114.other (o := (.lst (ws_x_found66 ++ [(V.str r106)]))) (Ne.symm ne22)
        have ow122 := ow113.put (us := (ws_x_found66 ++ [(V.str r106)]))
        refine p_nx ?_
        obtain ⟨t123, hb124, hm73⟩ := bnd hm73
        obtain ⟨hk125, rfl⟩ := shlI_ok hb124
        refine ⟨(V.int x_at63), rfl, (V.int x_width), rfl, (V.int x_bits79), rfl, _, _, rfl, rfl, _, _, rfl, rfl, hk125, _, _, rfl, rfl, ?_⟩
        exact ⟨F99, (x_at63 + ((1 : Int) * 2 ^ ((x_width - x_bits79)).toNat)), (some (V.int x_bits79)), (x_found65 ++ [r106]), (ws_x_found66 ++ [(V.str r106)]), rfl, g120, (Same.trans sm68 (Same.trans sm81 g101.ff)), ow122, hl119, hA118, ow121, hm73⟩
      have hm73 := ifF hc hm73
      obtain ⟨rfl, rfl⟩ := pjoin hm73
      exact ⟨F62, (some (V.int e47.2)), (some (V.int e47.1)), (some (V.int x_at63)), o_x_bits64, x_found65, ws_x_found66, rfl, g67, (Same.trans sm41 sm68), ow_x_found69, hl_x_found70, hA_x_found71, owk072, hm46⟩
    intro σ126 H127 hP
    obtain ⟨F128, o_x_behind129, o_x_first130, o_x_at131, o_x_bits132, x_found133, ws_x_found134, rfl, g135, sm136, ow_x_found137, hl_x_found138, hA_x_found139, owk0140, hm141⟩ := hP
    rw [drop_end (RL.len (hA21.up sm136)), m_cover_l1.eq_1] at hm141
    obtain rfl := sjoin hm141
    refine p_nx ?_
    refine p_ret ?_
    obtain rfl := sjoin hm
    refine ⟨(V.ref p1), rfl, (hQ _ _ _ _ g135 ow_x_found137.n0 ow_x_found137.h ow_x_found137.nF hl_x_found138 hA_x_found139)⟩
end K04
namespace K04
open PySem PySem.Spec PyProof.Rows L2 TL G
theorem ok_l_bag {P : Program} {w : World} {K : PySem.W.Frag} {mg : Str → Option Value} {base : Heap} (T : Txt K mg) : FnOk P w K mg base CX0 1 T.a_l_bag T.d_l_bag ["_law_script"] (sp_l_bag K) := by
  refine fd_ok T.F_l_bag sc_l_bag (fun vs H Q E h => ?_) (fun cdv A outer s H0 vs Q E hr h => ?_)
  · obtain ⟨_, _, rfl, _⟩ := h
    rfl
  · obtain ⟨a, ns, rfl, hS, hl, hQ⟩ := h
    refine ⟨_, (pss_cons (ps_set (i := 1) sc_l_bag.nd rfl (.inl rfl) pe_int)
      (pss_cons (ps_for PassesOwn.never rfl (pi_list (pe_slice sl_list (pv 0) po_none (po_some pe_int))) (pg_name (i := 2) sc_l_bag.nd rfl (Or.inl rfl))
          (pss_one (ps_set (i := 1) sc_l_bag.nd rfl (.inl rfl) (pe_op op_mod (pe_op op_add (pe_op op_add (pe_op op_mul (pv 1) pe_int) (pe_op op_mod (pv 2) pe_int)) pe_int) pe_int))))
      (pss_one (ps_ret (pe_lst (pa_cons (pe_lc (own := [("_law_cell", 2)]) rfl sc_l_bag.nd (pi_list (pe_slice sl_list (pv 0) po_none (po_some pe_int)))
          (blkOk_by (own := [("_law_cell", 2)]) (N := N_l_bag) (sc := defScope s_l_bag) (by decide +kernel)) (fun _ _ _ _ _ => pg_name (i := 2) sc_l_bag.nd rfl (Or.inl rfl)) (fun _ _ _ _ _ => pts_nil)
          (fun _ _ _ _ _ => pe_op op_mod (pe_callB call_abs (by rfl) T.n_abs (by decide +kernel) (pa_cons (pv 2) pa_nil)) (pe_op op_powW (pe_op op_pow pe_int pe_int) pe_int)))
        (pa_cons pe_int (pa_cons (pv 1) (pa_cons pe_int pa_nil))))))))), ?_⟩
    have g0 : Gr M0 (fun _ => none) H0 (fun _ => none) H0 := Gr.refl (fun _ _ h => nomatch h)
    have hcut : ∀ (lo hi : Option Int), cutV (ns.map V.int) lo hi = (cutL ns lo hi).map V.int := fun lo hi => by
      unfold cutV cutL
      rw [List.length_map, List.map_take, List.map_drop]
    have hcl : ∀ (lo hi : Option Int), (cutL ns lo hi).length ≤ 63 := fun lo hi => by
      unfold cutL
      rw [List.length_take, List.length_drop]
      omega
    refine p_seq ?_
    refine p_asg ?_
    refine p_name ?_
    refine p_nx ?_
    refine p_seq ?_
    refine p_for ?_
    refine ⟨.ref a, rfl, 60, rfl, a, ns.map V.int, rfl, hS, fun p np => ?_⟩
    rw [hcut]
    generalize hcs : cutL ns none (some 60) = cs
    have hc1 : cs.length ≤ 63 := by rw [← hcs]; exact hcl _ _
    have hc2 : (cs.map V.int).length = cs.length := List.length_map ..
    have g1 := g0.own (o := .lst (cs.map V.int)) np
    have ow1 : Ow H0 (fun _ => none) _ p (cs.map V.int) := Ow.new g0 np
    generalize hH1 : upd H0 p (.lst (cs.map V.int)) = H1 at g1 ow1 ⊢
    refine ⟨p, rfl, ⟨_, ow1.sq⟩, ?_⟩
    refine for_list (xs := cs.map V.int) (fun i σ' H' => ∃ (z : Int) (c : Option V), σ' = [some (.ref a), some (.int z), c] ∧ 0 ≤ z ∧ z < 2147483648 ∧ H' = H1) ⟨29, none, rfl, by decide, by decide, rfl⟩ (fun i σ' H' _ hP => ?_) (fun i x σ' H' hx hP => ?_) (fun σ' H' hP => ?_)
    · obtain ⟨z, c, _, _, _, rfl⟩ := hP
      exact ow1.sq
    · obtain ⟨z, c, rfl, h1, h2, rfl⟩ := hP
      obtain ⟨x, rfl⟩ : ∃ x', x = V.int x' := by
        rw [List.getElem?_map] at hx
        obtain ⟨y, _, e⟩ := Option.map_eq_some_iff.mp hx
        exact ⟨y, e.symm⟩
      refine p_asg ?_
      refine ⟨.int z, rfl, _, _, rfl, rfl, (.inr ⟨by decide, by decide⟩), .int x, rfl, _, _, rfl, rfl, (show (0 : Int) < 2147483629 by decide), _, _, rfl, rfl, _, _, rfl, rfl, _, _, rfl, rfl, (show (0 : Int) < 2147483647 by decide), ?_⟩
      refine ⟨_, _, rfl, Int.emod_nonneg _ (by decide), ?_, rfl⟩
      have := Int.emod_lt_of_pos (z * 69621 + x % 2147483629 + 1) (show (0 : Int) < 2147483647 by decide)
      omega
    · obtain ⟨z, c, rfl, h1, h2, rfl⟩ := hP
      refine p_nx ?_
      refine p_ret ?_
      have hS1 : SqL K H' a (ns.map V.int) := g1.seq id hS
      refine ⟨.ref a, rfl, 60, rfl, a, ns.map V.int, rfl, hS1, fun p2 np2 => ?_⟩
      rw [hcut, hcs]
      have g2 := g1.own (o := .lst (cs.map V.int)) np2
      have ow2 : Ow H0 (fun _ => none) _ p2 (cs.map V.int) := Ow.new g1 np2
      generalize hH2 : upd H' p2 (.lst (cs.map V.int)) = H2 at g2 ow2 ⊢
      refine ⟨p2, rfl, ⟨_, ow2.sq⟩, fun D nD => ?_⟩
      refine lc_list (xs := cs.map V.int) (fun i H' => ∃ ds : List Int, ds.length = i ∧ H' = upd H2 D (.lst (ds.map V.int))) ⟨[], rfl, rfl⟩ (fun i H' _ hP => ?_) (fun i x H' hx hP => ?_) (fun H' hP => ?_)
      · obtain ⟨ds, _, rfl⟩ := hP
        exact (ow2.own nD).sq
      · obtain ⟨ds, hds, rfl⟩ := hP
        have hi : i < cs.length := by rw [← hc2]; exact (List.getElem?_eq_some_iff.mp hx).1
        obtain ⟨x, rfl⟩ : ∃ x', x = V.int x' := by
          rw [List.getElem?_map] at hx
          obtain ⟨y, _, e⟩ := Option.map_eq_some_iff.mp hx
          exact ⟨y, e.symm⟩
        refine ⟨rfl, p_yes ?_⟩
        refine ⟨.int x, rfl, x, rfl, _, _, rfl, rfl, ⟨by decide, by decide, by decide⟩, _, _, rfl, rfl, ⟨by decide, by decide +kernel⟩, _, _, rfl, rfl, (show (0 : Int) < ((10 : Int) ^ (60 : Int).toNat) ^ (10 : Int).toNat by decide +kernel), ?_⟩
        refine ⟨_, upd_same, ?_, ds ++ [(if x < 0 then -x else x) % ((10 : Int) ^ (60 : Int).toNat) ^ (10 : Int).toNat], ?_, ?_⟩
        · rw [List.length_map, sizeLine_eq]; omega
        · rw [List.length_append, hds]; rfl
        · rw [upd_upd, List.map_append]; rfl
      · obtain ⟨ds, hds, rfl⟩ := hP
        rw [hc2] at hds
        refine ⟨.int z, rfl, (by show 4 ≤ sizeLine; decide), fun B nB => ?_⟩
        have hne : D ≠ B := fun e => by rw [← e, upd_same] at nB; cases nB
        exact hQ B D ⟨ds, 0, z, 0⟩ (fun _ => none) _ (fun _ _ h => nomatch h) ⟨upd_same, by rw [upd_ne hne, upd_same], hne.symm, rfl, rfl⟩ ⟨h1, h2, by show ds.length ≤ 63; omega⟩

end K04
namespace K04
open PySem PySem.Spec PyProof.Rows L2 TL G
theorem ok_l_draw {P : Program} {w : World} {K : PySem.W.Frag} {mg : Str → Option Value} {base : Heap} (T : Txt K mg) : FnOk P w K mg base CX0 1 T.a_l_draw T.d_l_draw ["_law_bag_here", "_law_many"] (sp_l_draw K) := by
  refine fd_ok T.F_l_draw sc_l_draw (fun vs H Q E h => ?_) (fun cdv A outer s H0 vs Q E hr h => ?_)
  · obtain ⟨_, _, _, _, _, _, _, rfl, _⟩ := h
    rfl
  · obtain ⟨F0, B, C, b, n, r, b', rfl, hS0, hB, hm, hQ⟩ := h
    refine ⟨_, (pss_cons (ps_while PassesOwn.never (PW.pt (pw_and (pt_cmpR op_lt (pe_ix ix_list (pv 0) pe_int (fun _ _ => rfl)) (pe_callB call_lenL (by rfl) T.n_len (by decide +kernel) (pa_cons (pe_ix ix_list (pv 0) pe_int (fun _ _ => rfl)) pa_nil)) (nomark _))
        (pw_and1 (pt_cmpR op_eq (pe_ix ix_list (pe_ix ix_list (pv 0) pe_int (fun _ _ => rfl)) (pe_ix ix_list (pv 0) pe_int (fun _ _ => rfl)) (fun _ _ => rfl)) pe_int (nomark _)))))
        (pss_one (ps_asg (pe_op op_add (pe_ix ix_list (pv 0) pe_int (fun _ _ => rfl)) pe_int) (pg_sub (pv 0) pe_int set_list))))
      (pss_cons (ps_if (pt_cmpR op_lt (pe_ix ix_list (pv 0) pe_int (fun _ _ => rfl)) (pe_callB call_lenL (by rfl) T.n_len (by decide +kernel) (pa_cons (pe_ix ix_list (pv 0) pe_int (fun _ _ => rfl)) pa_nil)) (nomark _))
          (pss_cons (ps_set (i := 2) sc_l_draw.nd rfl (.inl rfl) (pe_ix ix_list (pe_ix ix_list (pv 0) pe_int (fun _ _ => rfl)) (pe_ix ix_list (pv 0) pe_int (fun _ _ => rfl)) (fun _ _ => rfl)))
            (pss_cons (ps_asg (pe_op op_fdivW (pv 2) (pv 1)) (pg_sub (pe_ix ix_list (pv 0) pe_int (fun _ _ => rfl)) (pe_ix ix_list (pv 0) pe_int (fun _ _ => rfl)) set_list))
              (pss_one (ps_ret (pe_op op_mod (pv 2) (pv 1)))))) pss_nil)
      (pss_cons (ps_asg (pe_op op_add (pe_ix ix_list (pv 0) pe_int (fun _ _ => rfl)) pe_int) (pg_sub (pv 0) pe_int set_list))
      (pss_cons (ps_asg (pe_op op_mod (pe_op op_add (pe_op op_add (pe_op op_add (pe_op op_pow (pe_ix ix_list (pv 0) pe_int (fun _ _ => rfl)) pe_int) (pe_op op_mul pe_int (pe_ix ix_list (pv 0) pe_int (fun _ _ => rfl)))) (pe_op op_mul pe_int (pe_ix ix_list (pv 0) pe_int (fun _ _ => rfl)))) pe_int) pe_int) (pg_sub (pv 0) pe_int set_list))
      (pss_one (ps_ret (pe_op op_mod (pe_op op_fdiv (pe_ix ix_list (pv 0) pe_int (fun _ _ => rfl)) pe_int) (pv 1)))))))), ?_⟩
    have g0 : Gr (Bc B C) F0 H0 F0 H0 := Gr.refl hS0
    unfold m_l_draw at hm
    have hc : (0 < n ∧ n.natAbs.log2 < 9000) ∧ (0 ≤ b.seed ∧ b.seed < 2147483648 ∧ b.cells.length ≤ sizeLine) := by
      by_cases hc : (0 < n ∧ n.natAbs.log2 < 9000) ∧ (0 ≤ b.seed ∧ b.seed < 2147483648 ∧ b.cells.length ≤ sizeLine)
      · exact hc
      · rw [if_neg hc] at hm; cases hm
    rw [if_pos hc] at hm
    obtain ⟨⟨hn, hn2⟩, hs0, hs1, hsz⟩ := hc
    obtain ⟨cs, a0, sd, ct⟩ := b
    simp only at hm hs0 hs1 hsz
    generalize hK : skip0 (cs.drop a0) a0 = k at hm
    have hpow : CPow sd 3 := ⟨by decide, by decide, by omega⟩
    have lB : ∀ {H : Hp} {a : Nat} {z c : Int}, BagAt F0 H B C ⟨cs, a, z, c⟩ → SqL K H B [V.ref C, .int (a : Nat), .int z, .int c] := fun h => .inl (.inl h.hB)
    have lC : ∀ {H : Hp} {b1 : Bag}, BagAt F0 H B C b1 → SqL K H C (b1.cells.map V.int) := fun h => .inl (.inl h.hC)
    have hz : (cs.map V.int).length = cs.length := List.length_map ..
    refine p_seq ?_
    refine ⟨fun i σ' H' => ∃ a : Nat, σ' = [some (.ref B), some (.int n), none] ∧ Gr (Bc B C) F0 H0 F0 H' ∧ BagAt F0 H' B C ⟨cs, a, sd, ct⟩ ∧ skip0 (cs.drop a) a = k ∧ cs.length - a ≤ i, ⟨cs.length, a0, rfl, g0, hB, hK, Nat.sub_le _ _⟩, ?_⟩
    intro i σ1 H1 hP
    obtain ⟨a, rfl, g, hB, hK, hi⟩ := hP
    refine ⟨_, rfl, _, _, 1, .int (a : Nat), rfl, rfl, lB hB, rfl, _, rfl, _, _, 0, .ref C, rfl, rfl, lB hB, rfl, C, _, _, rfl, .inl (lC hB), hz, _, _, rfl, rfl, _, rfl, ?_⟩
    by_cases hl : a < cs.length
    · obtain ⟨x, hx⟩ : ∃ x, cs[a]? = some x := ⟨_, List.getElem?_eq_getElem hl⟩
      rw [drop_at hx] at hK
      refine ifTr (decide_eq_true (Int.ofNat_lt.mpr hl)) ?_
      refine ⟨_, rfl, _, _, 0, .ref C, rfl, rfl, lB hB, rfl, _, rfl, _, _, 1, .int (a : Nat), rfl, rfl, lB hB, rfl, _, _, (a : Nat), .int x, rfl, rfl, lC hB, atI_map hx, rfl, _, rfl, ?_⟩
      by_cases h0 : x = 0
      · subst h0
        refine ifTr (decide_eq_true rfl) ?_
        refine ⟨fun σ' H' => ∃ a : Nat, σ' = [some (.ref B), some (.int n), none] ∧ Gr (Bc B C) F0 H0 F0 H' ∧ BagAt F0 H' B C ⟨cs, a, sd, ct⟩ ∧ skip0 (cs.drop a) a = k ∧ cs.length - a ≤ i - 1, fun _ _ ⟨z1, z2, z3, z4, z5, z6⟩ => ⟨i - 1, by omega, z1, z2, z3, z4, z5, z6⟩, ?_⟩
        refine p_asg ?_
        refine ⟨_, rfl, _, _, 1, .int (a : Nat), rfl, rfl, lB hB, rfl, _, _, rfl, rfl, _, rfl, B, _, 1, 1, rfl, rfl, hB.hB, rfl, ?_⟩
        exact ⟨a + 1, rfl, g.mut hB.fB (.inr (.inl rfl)), BagAt.put (b' := ⟨cs, a + 1, sd, ct⟩) hB rfl, by rw [skip0, if_pos rfl] at hK; exact hK, by omega⟩
      · refine ifFr (decide_eq_false fun e => h0 (V.int.inj e)) ?_
        rw [skip0, if_neg h0] at hK
        subst hK
        rw [hx] at hm
        obtain ⟨rfl, rfl⟩ := pjoin hm
        refine p_nx ?_
        refine p_seq ?_
        refine p_if ?_
        refine ⟨_, rfl, _, _, 1, .int (a : Nat), rfl, rfl, lB hB, rfl, _, rfl, _, _, 0, .ref C, rfl, rfl, lB hB, rfl, C, _, _, rfl, .inl (lC hB), hz, _, _, rfl, rfl, _, rfl, ?_⟩
        refine ifTr (decide_eq_true (Int.ofNat_lt.mpr hl)) ?_
        refine p_seq ?_
        refine p_asg ?_
        refine ⟨_, rfl, _, _, 0, .ref C, rfl, rfl, lB hB, rfl, _, rfl, _, _, 1, .int (a : Nat), rfl, rfl, lB hB, rfl, _, _, (a : Nat), .int x, rfl, rfl, lC hB, atI_map hx, ?_⟩
        refine p_name ?_
        refine p_nx ?_
        refine p_seq ?_
        refine p_asg ?_
        refine ⟨.int x, rfl, .int n, rfl, x, n, rfl, rfl, ⟨hn, hn2⟩, _, rfl, _, _, 0, .ref C, rfl, rfl, lB hB, rfl, _, rfl, _, _, 1, .int (a : Nat), rfl, rfl, lB hB, rfl, C, _, (a : Nat), a, rfl, rfl, hB.hC, ixN_nat (by rw [hz]; exact hl), ?_⟩
        refine p_nx ?_
        refine p_ret ?_
        refine ⟨.int x, rfl, .int n, rfl, x, n, rfl, rfl, hn, ?_⟩
        have e : (cs.map V.int).set a (V.int (x / n)) = (cs.set a (x / n)).map V.int := List.map_set.symm
        rw [e]
        exact hQ _ _ (g.mut hB.fC (.inr (.inr rfl))) (BagAt.cell hB _)
    · refine ifFr (decide_eq_false fun e => hl (Int.ofNat_lt.mp e)) ?_
      have hd : cs.drop a = [] := List.drop_eq_nil_of_le (by omega)
      rw [hd, skip0] at hK
      subst hK
      rw [List.getElem?_eq_none (by omega)] at hm
      obtain ⟨rfl, rfl⟩ := pjoin hm
      refine p_nx ?_
      refine p_seq ?_
      refine p_if ?_
      refine ⟨_, rfl, _, _, 1, .int (a : Nat), rfl, rfl, lB hB, rfl, _, rfl, _, _, 0, .ref C, rfl, rfl, lB hB, rfl, C, _, _, rfl, .inl (lC hB), hz, _, _, rfl, rfl, _, rfl, ?_⟩
      refine ifFr (decide_eq_false fun e => hl (Int.ofNat_lt.mp e)) ?_
      refine p_next ?_
      refine p_nx ?_
      refine p_seq ?_
      refine p_asg ?_
      refine ⟨_, rfl, _, _, 3, .int ct, rfl, rfl, lB hB, rfl, _, _, rfl, rfl, _, rfl, B, _, 3, 3, rfl, rfl, hB.hB, rfl, ?_⟩
      have hB2 := BagAt.put (b' := ⟨cs, a, sd, ct + 1⟩) hB rfl
      have g2 := g.mut (o := .lst [.ref C, .int (a : Nat), .int sd, .int (ct + 1)]) hB.fB (.inr (.inl rfl))
      refine p_nx ?_
      refine p_seq ?_
      refine p_asg ?_
      refine ⟨_, rfl, _, _, 2, .int sd, rfl, rfl, lB hB2, rfl, _, _, rfl, rfl, hpow, _, rfl, _, _, 2, .int sd, rfl, rfl, lB hB2, rfl, _, _, rfl, rfl, (.inl ⟨by decide, by decide⟩), _, _, rfl, rfl, _, rfl, _, _, 3, .int (ct + 1), rfl, rfl, lB hB2, rfl, _, _, rfl, rfl, (.inl ⟨by decide, by decide⟩), _, _, rfl, rfl, _, _, rfl, rfl, _, _, rfl, rfl, (show (0 : Int) < 2147483647 by decide), _, rfl, B, _, 2, 2, rfl, rfl, hB2.hB, rfl, ?_⟩
      have hB3 := BagAt.put (b' := ⟨cs, a, stir sd (ct + 1), ct + 1⟩) hB2 rfl
      have g3 := g2.mut (o := .lst [.ref C, .int (a : Nat), .int (stir sd (ct + 1)), .int (ct + 1)]) hB2.fB (.inr (.inl rfl))
      refine p_nx ?_
      refine p_ret ?_
      refine ⟨_, rfl, _, _, 2, .int (stir sd (ct + 1)), rfl, rfl, lB hB3, rfl, _, _, rfl, rfl, ⟨by decide, by decide⟩, .int n, rfl, _, _, rfl, rfl, hn, ?_⟩
      exact hQ _ _ g3 hB3

end K04
namespace K04
open PySem PySem.Spec PyProof.Rows L2 TL G
theorem ok_l_bits {P : Program} {w : World} {K : PySem.W.Frag} {mg : Str → Option Value} {base : Heap} (T : Txt K mg) : FnOk P w K mg base CX0 2 T.a_l_bits T.d_l_bits ["_law_bag_here", "_law_size_here"] (sp_l_bits K) := by
  have G_l_draw : FnOk P w K mg base CX0 1 T.a_l_draw T.d_l_draw ["_law_bag_here", "_law_many"] (sp_l_draw K) := ok_l_draw T
  have b_l_draw := T.F_l_draw.bindsN (ps := ["_law_bag_here", "_law_many"]) fun _ _ _ _ _ _ us hl => match us, hl with | [_, _], _ => rfl
  refine fd_ok T.F_l_bits sc_l_bits (fun vs H Q E h => ?_) (fun cdv A outer s H0 vs Q E hr h => ?_)
  · obtain ⟨_, _, _, _, _, _, _, rfl, _⟩ := h
    rfl
  · obtain ⟨F0, B, C, b, y_size_here, r, b', rfl, hS0, hB, hm, hQ⟩ := h
    refine ⟨_, (pss_cons (ps_if (pt_cmpR op_eq (pe_call G_l_draw (hr.mono (by decide)) (by rfl) T.g_l_draw T.F_l_draw.kp b_l_draw .nil pass0 (pa_cons (pv 0) (pa_cons pe_int pa_nil))) pe_int (nomark _)) (pss_cons (ps_set (i := 2) sc_l_bits.nd rfl (.inl rfl) (pe_ix ix_str pe_str (pe_call G_l_draw (hr.mono (by decide)) (by rfl) T.g_l_draw T.F_l_draw.kp b_l_draw .nil pass0 (pa_cons (pv 0) (pa_cons pe_int pa_nil))) (fun _ _ => rfl))) (pss_one (ps_ret (pe_ifExp (pt_cmpR op_gt (pv 1) pe_int (nomark _)) (pe_slice sl_str (pe_op op_add_str (pe_op op_mulS (pv 2) (pv 1)) (pe_ix ix_str pe_str (pe_call G_l_draw (hr.mono (by decide)) (by rfl) T.g_l_draw T.F_l_draw.kp b_l_draw .nil pass0 (pa_cons (pv 0) (pa_cons pe_int pa_nil))) (fun _ _ => rfl))) (po_some pe_int) (po_some (pe_op op_add (pv 1) pe_int))) pe_str)))) pss_nil) (pss_one (ps_ret (pe_joinK (K := K) pe_str (pe_lc (own := [("_law_k", 3)]) rfl sc_l_bits.nd (pi_range1 (by rfl) T.n_range (pa_cons (pv 1) pa_nil)) (blkOk_by (own := [("_law_k", 3)]) (N := N_l_bits) (sc := defScope s_l_bits) (by decide +kernel)) (fun _ _ _ _ _ => (pg_name (i := 3) sc_l_bits.nd rfl (Or.inl rfl) (.inr rfl))) (fun _ _ _ _ _ => pts_nil) (fun _ _ _ _ _ => (pe_ix ix_str pe_str (pe_call G_l_draw (hr.mono (by decide)) (by rfl) T.g_l_draw T.F_l_draw.kp b_l_draw .nil pass0 (pa_cons (pv 0) (pa_cons pe_int pa_nil))) (fun _ _ => rfl)))))))), ?_⟩
    have g0 : Gr (Bc B C) F0 H0 F0 H0 := Gr.refl hS0
    unfold m_l_bits at hm
    refine p_seq ?_
    refine p_if ?_
    obtain ⟨r1, b2, hb3, hm⟩ := bnd2 hm
    refine ⟨(V.ref B), rfl, F0, B, C, b, (4 : Int), r1, b2, rfl, g0.fh, hB, hb3, fun F4 H5 g6 hB7 => ?_⟩
    have g9 := Gr.trans g0 g6
    refine ⟨rfl, _, rfl, (iteB (fun hc => ?_) (fun hc => ?_))⟩
    · have hm := ifT hc hm
      refine p_seq ?_
      refine p_asg ?_
      obtain ⟨r10, b11, hb12, hm⟩ := bnd2 hm
      refine ⟨(V.ref B), rfl, F4, B, C, b2, (2 : Int), r10, b11, rfl, g9.fh, hB7, hb12, fun F13 H14 g15 hB16 => ?_⟩
      have g18 := Gr.trans g9 g15
      obtain ⟨c19, hb20, hm⟩ := bnd hm
      refine ⟨_, _, c19, rfl, rfl, (⟨by decide +kernel, by decide +kernel⟩ : GS ("01" : Str)).len, hb20, ?_⟩
      refine p_name ?_
      refine p_nx ?_
      refine p_ret ?_
      refine ⟨(V.int y_size_here), rfl, _, _, rfl, rfl, _, rfl, ?_⟩
      obtain ⟨c21, b22, hc23, hm⟩ := bnd2 hm
      refine ifJ (M := (Bc B C)) (F := F13) (P := fun v' F' H' => v' = V.str (c21 : Str) ∧ GS (c21 : Str) ∧ BagAt F' H' B C b22) (fun ha => ?_) (fun ha => ?_) ?_
      · intro Q24 q25
        have hc23 := ifT ha hc23
        obtain ⟨t26, hb27, hc23⟩ := bnd hc23
        obtain ⟨hk28, rfl⟩ := mulS_ok hb27
        obtain ⟨r29, b30, hb31, hc23⟩ := bnd2 hc23
        refine ⟨(V.str (sgn c19)), rfl, (V.int y_size_here), rfl, _, _, rfl, rfl, hk28, (V.ref B), rfl, F13, B, C, b11, (2 : Int), r29, b30, rfl, g18.fh, hB16, hb31, fun F32 H33 g34 hB35 => ?_⟩
        have g37 := Gr.trans g18 g34
        have g38 := Gr.trans (Gr.refl (M := (Bc B C)) g18.fh) g34
        obtain ⟨c39, hb40, hc23⟩ := bnd hc23
        obtain ⟨t41, hb42, hc23⟩ := bnd hc23
        obtain ⟨hk43, rfl⟩ := catS_ok hb42
        obtain ⟨rfl, rfl⟩ := pjoin hc23
        refine ⟨_, _, c39, rfl, rfl, (⟨by decide +kernel, by decide +kernel⟩ : GS ("01" : Str)).len, hb40, _, _, rfl, rfl, hk43, _, rfl, (V.int y_size_here), rfl, _, _, rfl, rfl, _, rfl, _, rfl, ((GS.cat (GS.mul (GS.sg ⟨by decide +kernel, by decide +kernel⟩ (codeAt_mem hb20)) hb27) (GS.sg ⟨by decide +kernel, by decide +kernel⟩ (codeAt_mem hb40)) hb42) : GS ((Txt.mul (sgn c19) y_size_here) ++ (sgn c39))).len, (q25 _ _ _ g38 ⟨rfl, (GS.cut (GS.cat (GS.mul (GS.sg ⟨by decide +kernel, by decide +kernel⟩ (codeAt_mem hb20)) hb27) (GS.sg ⟨by decide +kernel, by decide +kernel⟩ (codeAt_mem hb40)) hb42) (some (1 : Int)) (some (y_size_here + (1 : Int)))), hB35⟩)⟩
      · intro Q44 q45
        have hc23 := ifF ha hc23
        obtain ⟨rfl, rfl⟩ := pjoin hc23
        exact (q45 _ _ _ (Gr.refl (M := (Bc B C)) g18.fh) ⟨rfl, ⟨by decide +kernel, by decide +kernel⟩, hB16⟩)
      intro v49 F46 H47 g48 hp50
      obtain ⟨hp50, hp50g, hB51⟩ := hp50
      have g52 := Gr.trans g18 g48
      obtain rfl := hp50
      obtain ⟨rfl, rfl⟩ := pjoin hm
      exact (hQ _ _ g52 hB51 hp50g)
    · have hm := ifF hc hm
      refine p_next ?_
      refine p_nx ?_
      refine p_ret ?_
      obtain ⟨l53, hb55, hm⟩ := bnd hm
      obtain ⟨hk54, rfl⟩ := rangeO1_ok hb55
      refine ⟨⟨_, rfl⟩, (V.int y_size_here), rfl, _, rfl, hk54.1.1, hk54.1.2, fun D56 nD57 => ?_⟩
      have nb58 := hB7.nb nD57
      have g59 := g9.own (o := (.lst [])) nD57
      have hB60 := hB7.own (o := (.lst [])) nD57
      have ow61 : Ow H0 F4 (upd H5 D56 (.lst [])) D56 [] := Ow.new g9 nD57
      obtain ⟨l62, b63, hb64, hm⟩ := bnd2 hm
      refine lc_range (lo := (0 : Int)) (n := (y_size_here).toNat) (fun i H' => ∃ (F' : Hp) (acc : List V) (ds : List Str) (rest : List Str) (b : Bag), Gr (Bc B C) F0 H0 F' H' ∧ Same F4 F' ∧ Ow H0 F' H' D56 acc ∧ RL K F' acc ds ∧ acc.length ≤ i ∧ BagAt F' H' B C b ∧ m_l_bits_c1  ((rangeL (0 : Int) (y_size_here).toNat).drop i) b = some (rest, b63) ∧ ds ++ rest = l62) ?_ ?_ ?_
      · exact ⟨F4, [], [], l62, b2, g59, Same.refl _, ow61, RpA.nil, Nat.le_refl _, hB60, hb64, rfl⟩
      · intro i66 H68 hx67 hP
        obtain ⟨F69, acc70, ds71, rest72, b73, g074, sm75, owD76, hA77, hi78, hB79, hm80, hr81⟩ := hP
        have he83 := rangeL_at (lo := (0 : Int)) hx67
        rw [drop_at he83, m_l_bits_c1.eq_2] at hm80
        refine ⟨rfl, (p_yes ?_)⟩
        obtain ⟨r84, b85, hb86, hm80⟩ := bnd2 hm80
        refine ⟨(V.ref B), rfl, F69, B, C, b73, (2 : Int), r84, b85, rfl, g074.fh, hB79, hb86, fun F87 H88 g89 hB90 => ?_⟩
        have g92 := Gr.trans g074 g89
        have ow93 := owD76.gr g89 nb58
        obtain ⟨c94, hb95, hm80⟩ := bnd hm80
        have hA96 : RL K F87 (acc70 ++ [(V.str (sgn c94))]) (ds71 ++ [((sgn c94) : Str)]) := RL.snoc (hA77.up g89.ff) (Rp.str (sgn c94) (GS.sg ⟨by decide +kernel, by decide +kernel⟩ (codeAt_mem hb95)))
        obtain ⟨rest97, b98, h99, h100⟩ := bnd2 hm80
        obtain ⟨rfl, rfl⟩ := pjoin h100
        refine ⟨_, _, c94, rfl, rfl, (⟨by decide +kernel, by decide +kernel⟩ : GS ("01" : Str)).len, hb95, acc70, ow93.h, (lt_line hi78 hx67 hk54.2), ?_⟩
        have g101 := g92.put (o := (.lst (acc70 ++ [(V.str (sgn c94))]))) ow93
        have hB102 := hB90.other (o := (.lst (acc70 ++ [(V.str (sgn c94))]))) nb58
        have ow103 := ow93.put (us := (acc70 ++ [(V.str (sgn c94))]))
        exact ⟨F87, (acc70 ++ [(V.str (sgn c94))]), (ds71 ++ [(sgn c94)]), rest97, b85, g101, (Same.trans sm75 g89.ff), ow103, hA96, (by rw [List.length_append]; exact Nat.succ_le_succ hi78), hB102, h99, (snoc_rest hr81)⟩
      intro H104 hP
      obtain ⟨F105, acc106, ds107, _rest, b108, g0109, sm110, owD111, hA112, hi113, hB114, hm115, hr116⟩ := hP
      rw [drop_end (rangeL_len _ _).symm] at hm115
      rw [m_l_bits_c1.eq_1] at hm115
      obtain ⟨rfl, rfl⟩ := pjoin hm115
      rw [List.append_nil] at hr116
      obtain rfl := hr116
      have hl117 : acc106.length ≤ sizeLine := Nat.le_trans hi113 hk54.2
      obtain ⟨t118, hb119, hm⟩ := bnd hm
      obtain ⟨hk120, rfl⟩ := joinS_ok hb119
      obtain ⟨rfl, rfl⟩ := pjoin hm
      refine ⟨_, D56, ds107, rfl, rfl, (.inl (by rw [← (RL.strs hA112).1]; exact owD111.sq)), hk120, (hQ _ _ g0109 hB114 (GS.join ⟨by decide +kernel, by decide +kernel⟩ (RL.strs hA112).2 hb119))⟩
end K04
namespace K04
open PySem PySem.Spec PyProof.Rows L2 TL G
theorem ok_l_worth {P : Program} {w : World} {K : PySem.W.Frag} {mg : Str → Option Value} {base : Heap} (T : Txt K mg) : FnOk P w K mg base CX0 1 T.a_l_worth T.d_l_worth ["_law_bits_here"] (sp_l_worth K) := by
  refine fd_ok T.F_l_worth sc_l_worth (fun vs H Q E h => ?_) (fun cdv A outer s H0 vs Q E hr h => ?_)
  · obtain ⟨_, _, rfl, _⟩ := h
    rfl
  · obtain ⟨y_bits_here, r, rfl, gs_y_bits_here, hm, hQ⟩ := h
    refine ⟨_, (pss_cons (ps_set (i := 1) sc_l_worth.nd rfl (.inl rfl) pe_int) (pss_cons (ps_for PassesOwn.never rfl (pi_str (pv 0)) (pg_name (i := 2) sc_l_worth.nd rfl (Or.inl rfl)) (pss_one (ps_set (i := 1) sc_l_worth.nd rfl (.inl rfl) (pe_op op_add (pe_op op_mul (pv 1) pe_int) (pe_callTy call_toI (by rfl) T.n_int (by decide +kernel) (pa_cons (pe_cmpR op_eq (pv 2) pe_str (nomark _)) pa_nil)))))) (pss_one (ps_ret (pv 1))))), ?_⟩
    have g0 : Gr M0 H0 H0 H0 H0 := Gr.refl (Same.refl _)
    unfold m_l_worth at hm
    refine p_seq ?_
    refine p_asg ?_
    refine p_name ?_
    refine p_nx ?_
    refine p_seq ?_
    refine p_for ?_
    refine ⟨(V.str y_bits_here), rfl, y_bits_here, rfl, ?_⟩
    obtain ⟨y_found1, ht2, hm⟩ := bnd hm
    refine for_str (z := y_bits_here) (fun i σ' H' => ∃ (F' : Hp) (y_found : Int) (o_y_sign : Option V), σ' = [(some (V.str y_bits_here)), (some (V.int y_found)), o_y_sign] ∧ Gr M0 H0 H0 F' H' ∧ Same H0 F' ∧ m_l_worth_l1  ((y_bits_here).cps.toList.drop i) y_found = some y_found1) ?_ ?_ ?_
    · exact ⟨H0, (0 : Int), none, rfl, g0, (Same.refl _), ht2⟩
    · intro i3 xv6 σ' H5 hx4 hP
      obtain ⟨F7, y_found8, o_y_sign9, rfl, g10, sm11, hm12⟩ := hP
      have he14 := str_at hx4
      rw [drop_at he14, m_l_worth_l1.eq_2] at hm12
      refine p_name ?_
      refine p_asg ?_
      refine ⟨(V.int y_found8), rfl, _, _, rfl, rfl, (.inr ⟨by decide, by decide⟩), (V.str (sgn xv6)), rfl, rfl, _, rfl, _, _, rfl, rfl, ?_⟩
      obtain ⟨y_found15, hb16, hm12⟩ := bnd hm12
      have hx17 : ((y_found8 * (2 : Int)) + (toI (eqS (sgn xv6) ("1" : Str)))) = y_found15 := sjoin hb16
      refine p_nm (v' := (V.int y_found15)) (congrArg V.int hx17) ?_
      exact ⟨F7, y_found15, (some (V.str (sgn xv6))), rfl, g10, sm11, hm12⟩
    intro σ18 H19 hP
    obtain ⟨F20, y_found21, o_y_sign22, rfl, g23, sm24, hm25⟩ := hP
    rw [drop_end str_size, m_l_worth_l1.eq_1] at hm25
    obtain rfl := sjoin hm25
    refine p_nx ?_
    refine p_ret ?_
    obtain rfl := sjoin hm
    refine ⟨(V.int y_found21), rfl, (hQ _ _ g23)⟩
end K04
namespace K04
open PySem PySem.Spec PyProof.Rows L2 TL G
theorem ok_l_size {P : Program} {w : World} {K : PySem.W.Frag} {mg : Str → Option Value} {base : Heap} (T : Txt K mg) : FnOk P w K mg base CX0 2 T.a_l_size T.d_l_size ["_law_bag_here"] (sp_l_size K) := by
  have G_l_draw : FnOk P w K mg base CX0 1 T.a_l_draw T.d_l_draw ["_law_bag_here", "_law_many"] (sp_l_draw K) := ok_l_draw T
  have b_l_draw := T.F_l_draw.bindsN (ps := ["_law_bag_here", "_law_many"]) fun _ _ _ _ _ _ us hl => match us, hl with | [_, _], _ => rfl
  refine fd_ok T.F_l_size sc_l_size (fun vs H Q E h => ?_) (fun cdv A outer s H0 vs Q E hr h => ?_)
  · obtain ⟨_, _, _, _, _, _, rfl, _⟩ := h
    rfl
  · obtain ⟨F0, B, C, b, r, b', rfl, hS0, hB, hm, hQ⟩ := h
    refine ⟨_, (pss_one (ps_ret (pe_ix (ix_listK (K := K)) (pe_lst (pa_cons (pe_op op_add pe_int (pe_call G_l_draw (hr.mono (by decide)) (by rfl) T.g_l_draw T.F_l_draw.kp b_l_draw .nil pass0 (pa_cons (pv 0) (pa_cons pe_int pa_nil)))) (pa_cons (pe_op op_add pe_int (pe_call G_l_draw (hr.mono (by decide)) (by rfl) T.g_l_draw T.F_l_draw.kp b_l_draw .nil pass0 (pa_cons (pv 0) (pa_cons pe_int pa_nil)))) (pa_cons pe_int (pa_cons (pe_op op_add pe_int (pe_call G_l_draw (hr.mono (by decide)) (by rfl) T.g_l_draw T.F_l_draw.kp b_l_draw .nil pass0 (pa_cons (pv 0) (pa_cons pe_int pa_nil)))) pa_nil))))) (pe_call G_l_draw (hr.mono (by decide)) (by rfl) T.g_l_draw T.F_l_draw.kp b_l_draw .nil pass0 (pa_cons (pv 0) (pa_cons pe_int pa_nil))) (fun _ _ => rfl)))), ?_⟩
    have g0 : Gr (Bc B C) F0 H0 F0 H0 := Gr.refl hS0
    unfold m_l_size at hm
    refine p_ret ?_
    obtain ⟨r1, b2, hb3, hm⟩ := bnd2 hm
    refine ⟨(V.ref B), rfl, F0, B, C, b, (6 : Int), r1, b2, rfl, g0.fh, hB, hb3, fun F4 H5 g6 hB7 => ?_⟩
    have g9 := Gr.trans g0 g6
    obtain ⟨r10, b11, hb12, hm⟩ := bnd2 hm
    refine ⟨_, _, rfl, rfl, (V.ref B), rfl, F4, B, C, b2, (30 : Int), r10, b11, rfl, g9.fh, hB7, hb12, fun F13 H14 g15 hB16 => ?_⟩
    have g18 := Gr.trans g9 g15
    obtain ⟨r19, b20, hb21, hm⟩ := bnd2 hm
    refine ⟨_, _, rfl, rfl, (V.ref B), rfl, F13, B, C, b11, (3 : Int), r19, b20, rfl, g18.fh, hB16, hb21, fun F22 H23 g24 hB25 => ?_⟩
    have g27 := Gr.trans g18 g24
    refine ⟨_, _, rfl, rfl, (by show 4 ≤ sizeLine; decide), fun p28 np29 => ?_⟩
    have nb30 := hB25.nb np29
    have g31 := g27.own (o := (.lst [(V.int ((1 : Int) + r1)), (V.int ((1 : Int) + r10)), (V.int (30 : Int)), (V.int ((1 : Int) + r19))])) np29
    have hB32 := hB25.own (o := (.lst [(V.int ((1 : Int) + r1)), (V.int ((1 : Int) + r10)), (V.int (30 : Int)), (V.int ((1 : Int) + r19))])) np29
    have ow33 : Ow H0 F22 (upd H23 p28 (.lst [(V.int ((1 : Int) + r1)), (V.int ((1 : Int) + r10)), (V.int (30 : Int)), (V.int ((1 : Int) + r19))])) p28 [(V.int ((1 : Int) + r1)), (V.int ((1 : Int) + r10)), (V.int (30 : Int)), (V.int ((1 : Int) + r19))] := Ow.new g27 np29
    have hA34 : RL K F22 [(V.int ((1 : Int) + r1)), (V.int ((1 : Int) + r10)), (V.int (30 : Int)), (V.int ((1 : Int) + r19))] ([((1 : Int) + r1), ((1 : Int) + r10), (30 : Int), ((1 : Int) + r19)] : List Int) := (RpA.cons (Rp.int ((1 : Int) + r1)) (RpA.cons (Rp.int ((1 : Int) + r10)) (RpA.cons (Rp.int (30 : Int)) (RpA.cons (Rp.int ((1 : Int) + r19)) RpA.nil))))
    obtain ⟨r35, b36, hb37, hm⟩ := bnd2 hm
    refine ⟨(V.ref B), rfl, F22, B, C, b20, (4 : Int), r35, b36, rfl, g31.fh, hB32, hb37, fun F38 H39 g40 hB41 => ?_⟩
    have g43 := Gr.trans g31 g40
    have ow44 := ow33.gr g40 nb30
    obtain ⟨t45, hb46, hm⟩ := bnd hm
    obtain ⟨v47, ha48, r49⟩ := RL.at (hA34.up g40.ff) hb46
    obtain rfl := R.int_v r49
    obtain ⟨rfl, rfl⟩ := pjoin hm
    refine ⟨p28, [(V.int ((1 : Int) + r1)), (V.int ((1 : Int) + r10)), (V.int (30 : Int)), (V.int ((1 : Int) + r19))], _, (V.int t45), rfl, rfl, ow44.sq, ha48, (hQ _ _ g43 hB41)⟩
end K04
namespace K04
open PySem PySem.Spec PyProof.Rows L2 TL G
theorem ok_l_stretches {P : Program} {w : World} {K : PySem.W.Frag} {mg : Str → Option Value} {base : Heap} (T : Txt K mg) : FnOk P w K mg base CX0 3 T.a_l_stretches T.d_l_stretches ["_law_bag_here", "_law_size_here"] (sp_l_stretches K) := by
  have G_l_draw : FnOk P w K mg base CX0 1 T.a_l_draw T.d_l_draw ["_law_bag_here", "_law_many"] (sp_l_draw K) := ok_l_draw T
  have b_l_draw := T.F_l_draw.bindsN (ps := ["_law_bag_here", "_law_many"]) fun _ _ _ _ _ _ us hl => match us, hl with | [_, _], _ => rfl
  have G_l_bits : FnOk P w K mg base CX0 2 T.a_l_bits T.d_l_bits ["_law_bag_here", "_law_size_here"] (sp_l_bits K) := ok_l_bits T
  have b_l_bits := T.F_l_bits.bindsN (ps := ["_law_bag_here", "_law_size_here"]) fun _ _ _ _ _ _ us hl => match us, hl with | [_, _], _ => rfl
  have G_l_worth : FnOk P w K mg base CX0 1 T.a_l_worth T.d_l_worth ["_law_bits_here"] (sp_l_worth K) := ok_l_worth T
  have b_l_worth := T.F_l_worth.bindsN (ps := ["_law_bits_here"]) fun _ _ _ _ _ _ us hl => match us, hl with | [_], _ => rfl
  refine fd_ok T.F_l_stretches sc_l_stretches (fun vs H Q E h => ?_) (fun cdv A outer s H0 vs Q E hr h => ?_)
  · obtain ⟨_, _, _, _, _, _, _, rfl, _⟩ := h
    rfl
  · obtain ⟨F0, B, C, b, y_size_here, r, b', rfl, hS0, hB, hm, hQ⟩ := h
    refine ⟨_, (pss_cons (ps_set (i := 2) sc_l_stretches.nd rfl (.inl rfl) (pe_lst (pa_cons pe_int pa_nil))) (pss_cons (ps_for PassesOwn.never rfl (pi_range1 (by rfl) T.n_range (pa_cons (pe_ix (ix_listK (K := K)) (pe_lst (pa_cons (pe_call G_l_draw (hr.mono (by decide)) (by rfl) T.g_l_draw T.F_l_draw.kp b_l_draw .nil pass0 (pa_cons (pv 0) (pa_cons pe_int pa_nil))) (pa_cons (pe_call G_l_draw (hr.mono (by decide)) (by rfl) T.g_l_draw T.F_l_draw.kp b_l_draw .nil pass0 (pa_cons (pv 0) (pa_cons pe_int pa_nil))) pa_nil))) (pe_call G_l_draw (hr.mono (by decide)) (by rfl) T.g_l_draw T.F_l_draw.kp b_l_draw .nil pass0 (pa_cons (pv 0) (pa_cons pe_int pa_nil))) (fun _ _ => rfl)) pa_nil)) (pg_name (i := 3) sc_l_stretches.nd rfl (Or.inl rfl)) (pss_cons (ps_set (i := 4) sc_l_stretches.nd rfl (.inl rfl) (pe_call G_l_bits (hr.mono (by decide)) (by rfl) T.g_l_bits T.F_l_bits.kp b_l_bits .nil pass0 (pa_cons (pv 0) (pa_cons (pe_call G_l_draw (hr.mono (by decide)) (by rfl) T.g_l_draw T.F_l_draw.kp b_l_draw .nil pass0 (pa_cons (pv 0) (pa_cons (pe_op op_add (pv 1) pe_int) pa_nil))) pa_nil)))) (pss_cons (ps_set (i := 5) sc_l_stretches.nd rfl (.inl rfl) (pe_call G_l_worth (hr.mono (by decide)) (by rfl) T.g_l_worth T.F_l_worth.kp b_l_worth .nil pass0 (pa_cons (pe_op op_add_str (pv 4) (pe_op op_mulS pe_str (pe_op op_sub (pv 1) (pe_callB call_len_str (by rfl) T.n_len (by decide +kernel) (pa_cons (pv 4) pa_nil))))) pa_nil))) (pss_cons (ps_set (i := 6) sc_l_stretches.nd rfl (.inl rfl) (pe_ix (ix_listK (K := K)) (pv 2) (pe_call G_l_draw (hr.mono (by decide)) (by rfl) T.g_l_draw T.F_l_draw.kp b_l_draw .nil pass0 (pa_cons (pv 0) (pa_cons (pe_callB (call_lenLK (K := K)) (by rfl) T.n_len (by decide +kernel) (pa_cons (pv 2) pa_nil)) pa_nil))) (fun _ _ => rfl))) (pss_one (ps_expr (pe_bmK (K := K) PySem.F.plainAttrs_list PySem.F.slot_list_append PySem.F.type_list_append mt_append (pv 2) (pa_cons (pe_ix (ix_listK (K := K)) (pe_lst (pa_cons (pv 5) (pa_cons (pe_op op_add (pe_op op_add (pv 6) pe_int) (pe_call G_l_draw (hr.mono (by decide)) (by rfl) T.g_l_draw T.F_l_draw.kp b_l_draw .nil pass0 (pa_cons (pv 0) (pa_cons pe_int pa_nil)))) (pa_cons (pe_callB (call_max2 rfl) (by rfl) T.n_max (by decide +kernel) (pa_cons pe_int (pa_cons (pe_op op_sub (pv 6) pe_int) pa_nil))) (pa_cons (pe_op op_shl pe_int (pv 1)) (pa_cons (pe_op op_add (pv 5) pe_int) pa_nil)))))) (pe_call G_l_draw (hr.mono (by decide)) (by rfl) T.g_l_draw T.F_l_draw.kp b_l_draw .nil pass0 (pa_cons (pv 0) (pa_cons pe_int pa_nil))) (fun _ _ => rfl)) pa_nil)))))))) (pss_cons (ps_set (i := 2) sc_l_stretches.nd rfl (.inl rfl) (pe_ssetK (K := K) rfl (by rfl) T.n_sorted (by rfl) T.n_set (pe_lc (own := [("_law_edge", 8)]) rfl sc_l_stretches.nd (pi_listK (K := K) (pv 2)) (blkOk_by (own := [("_law_edge", 8)]) (N := N_l_stretches) (sc := defScope s_l_stretches) (by decide +kernel)) (fun _ _ _ _ _ => (pg_name (i := 8) sc_l_stretches.nd rfl (Or.inl rfl) (.inr rfl))) (fun _ _ _ _ _ => (pts_one (pt_cmpR op_le (pv 8) (pe_op op_shl pe_int (pv 1)) (nomark _)))) (fun _ _ _ _ _ => (pv 8))))) (pss_cons (ps_set (i := 7) sc_l_stretches.nd rfl (.inl rfl) (pe_lst pa_nil)) (pss_cons (ps_for PassesOwn.never rfl (pi_range2 (by rfl) T.n_range (pa_cons pe_int (pa_cons (pe_callB (call_lenLK (K := K)) (by rfl) T.n_len (by decide +kernel) (pa_cons (pv 2) pa_nil)) pa_nil))) (pg_name (i := 3) sc_l_stretches.nd rfl (Or.inl rfl)) (pss_one (ps_if (pt_cmpR op_gt (pe_call G_l_draw (hr.mono (by decide)) (by rfl) T.g_l_draw T.F_l_draw.kp b_l_draw .nil pass0 (pa_cons (pv 0) (pa_cons pe_int pa_nil))) pe_int (nomark _)) (pss_one (ps_expr (pe_bmK (K := K) PySem.F.plainAttrs_list PySem.F.slot_list_append PySem.F.type_list_append mt_append (pv 7) (pa_cons (pe_tup (pa_cons (pe_ix (ix_listK (K := K)) (pv 2) (pe_op op_sub (pv 3) pe_int) (fun _ _ => rfl)) (pa_cons (pe_ix (ix_listK (K := K)) (pv 2) (pv 3) (fun _ _ => rfl)) pa_nil))) pa_nil)))) pss_nil))) (pss_one (ps_ret (pv 7)))))))), ?_⟩
    have g0 : Gr (Bc B C) F0 H0 F0 H0 := Gr.refl hS0
    unfold m_l_stretches at hm
    refine p_seq ?_
    refine p_asg ?_
    refine ⟨(by show 1 ≤ sizeLine; decide), fun p1 np2 => ?_⟩
    have nb3 := hB.nb np2
    have g4 := g0.own (o := (.lst [(V.int (0 : Int))])) np2
    have hB5 := hB.own (o := (.lst [(V.int (0 : Int))])) np2
    have ow6 : Ow H0 F0 (upd H0 p1 (.lst [(V.int (0 : Int))])) p1 [(V.int (0 : Int))] := Ow.new g0 np2
    have hA7 : RL K F0 [(V.int (0 : Int))] ([(0 : Int)] : List Int) := (RpA.cons (Rp.int (0 : Int)) RpA.nil)
    obtain ⟨y_edges8, hb9, hm⟩ := bnd hm
    have hx10 : ([(0 : Int)] : List Int) = y_edges8 := sjoin hb9
    have hA11 : RL K F0 [(V.int (0 : Int))] y_edges8 := RL.re hx10 hA7
    refine p_name ?_
    refine p_nx ?_
    refine p_seq ?_
    refine p_for ?_
    obtain ⟨r12, b13, hb14, hm⟩ := bnd2 hm
    refine ⟨(V.ref B), rfl, F0, B, C, b, (6 : Int), r12, b13, rfl, g4.fh, hB5, hb14, fun F15 H16 g17 hB18 => ?_⟩
    have g20 := Gr.trans g4 g17
    have ow21 := ow6.gr g17 nb3
    obtain ⟨r22, b23, hb24, hm⟩ := bnd2 hm
    refine ⟨(V.ref B), rfl, F15, B, C, b13, (31 : Int), r22, b23, rfl, g20.fh, hB18, hb24, fun F25 H26 g27 hB28 => ?_⟩
    have g30 := Gr.trans g20 g27
    have ow31 := ow21.gr g27 nb3
    refine ⟨(by show 2 ≤ sizeLine; decide), fun p32 np33 => ?_⟩
    have ne34 := ow31.ne np33
    have nb35 := hB28.nb np33
    have g36 := g30.own (o := (.lst [(V.int r12), (V.int r22)])) np33
    have ow37 := ow31.own (o := (.lst [(V.int r12), (V.int r22)])) np33
    have hB38 := hB28.own (o := (.lst [(V.int r12), (V.int r22)])) np33
    have ow39 : Ow H0 F25 (upd H26 p32 (.lst [(V.int r12), (V.int r22)])) p32 [(V.int r12), (V.int r22)] := Ow.new g30 np33
    have hA40 : RL K F25 [(V.int r12), (V.int r22)] ([r12, r22] : List Int) := (RpA.cons (Rp.int r12) (RpA.cons (Rp.int r22) RpA.nil))
    obtain ⟨r41, b42, hb43, hm⟩ := bnd2 hm
    refine ⟨(V.ref B), rfl, F25, B, C, b23, (2 : Int), r41, b42, rfl, g36.fh, hB38, hb43, fun F44 H45 g46 hB47 => ?_⟩
    have g49 := Gr.trans g36 g46
    have ow50 := ow37.gr g46 nb3
    have ow51 := ow39.gr g46 nb35
    obtain ⟨t52, hb53, hm⟩ := bnd hm
    obtain ⟨v54, ha55, r56⟩ := RL.at (hA40.up g46.ff) hb53
    obtain rfl := R.int_v r56
    obtain ⟨l57, hb59, hm⟩ := bnd hm
    obtain ⟨hk58, rfl⟩ := rangeO1_ok hb59
    refine ⟨p32, [(V.int r12), (V.int r22)], _, (V.int t52), rfl, rfl, ow51.sq, ha55, _, rfl, hk58.1.1, hk58.1.2, ?_⟩
    obtain ⟨y_edges60, b61, ht62, hm⟩ := bnd2 hm
    refine for_range (lo := (0 : Int)) (n := (t52).toNat) (fun i σ' H' => ∃ (F' : Hp) (o_y_k : Option V) (o_y_bits_here : Option V) (o_y_first : Option V) (o_y_near : Option V) (y_edges : (List Int)) (ws_y_edges : List V) (b : Bag), σ' = [(some (V.ref B)), (some (V.int y_size_here)), (some (V.ref p1)), o_y_k, o_y_bits_here, o_y_first, o_y_near, none, none] ∧ Gr (Bc B C) F0 H0 F' H' ∧ Same F44 F' ∧ Ow H0 F' H' p1 ws_y_edges ∧ ws_y_edges.length ≤ sizeLine ∧ RL K F' ws_y_edges y_edges ∧ BagAt F' H' B C b ∧ m_l_stretches_l1 y_size_here ((rangeL (0 : Int) (t52).toNat).drop i) y_edges b = some (y_edges60, b61)) ?_ ?_ ?_
    · exact ⟨F44, none, none, none, none, y_edges8, [(V.int (0 : Int))], b42, rfl, g49, (Same.refl _), ow50, (by show 1 ≤ sizeLine; decide), (hA11.up (Same.trans g17.ff (Same.trans g27.ff g46.ff))), hB47, ht62⟩
    · intro i63 σ' H65 hx64 hP
      obtain ⟨F67, o_y_k68, o_y_bits_here69, o_y_first70, o_y_near71, y_edges72, ws_y_edges73, b74, rfl, g75, sm76, ow_y_edges77, hl_y_edges78, hA_y_edges79, hB80, hm81⟩ := hP
      have he83 := rangeL_at (lo := (0 : Int)) hx64
      rw [drop_at he83, m_l_stretches_l1.eq_2] at hm81
      refine p_name ?_
      refine p_seq ?_
      refine p_asg ?_
      obtain ⟨r84, b85, hb86, hm81⟩ := bnd2 hm81
      refine ⟨(V.ref B), rfl, (V.ref B), rfl, (V.int y_size_here), rfl, _, _, rfl, rfl, F67, B, C, b74, (y_size_here + (1 : Int)), r84, b85, rfl, g75.fh, hB80, hb86, fun F87 H88 g89 hB90 => ?_⟩
      have g92 := Gr.trans g75 g89
      have ow93 := ow_y_edges77.gr g89 nb3
      obtain ⟨r94, b95, hb96, hm81⟩ := bnd2 hm81
      refine ⟨F87, B, C, b85, r84, r94, b95, rfl, g92.fh, hB90, hb96, fun F97 H98 g99 hB100 gs101 => ?_⟩
      have g102 := Gr.trans g92 g99
      have ow103 := ow93.gr g99 nb3
      refine p_name ?_
      refine p_nx ?_
      refine p_seq ?_
      refine p_asg ?_
      obtain ⟨t104, hb105, hm81⟩ := bnd hm81
      obtain ⟨hk106, rfl⟩ := mulS_ok hb105
      obtain ⟨t107, hb108, hm81⟩ := bnd hm81
      obtain ⟨hk109, rfl⟩ := catS_ok hb108
      obtain ⟨r110, hb111, hm81⟩ := bnd hm81
      refine ⟨(V.str r94), rfl, (V.int y_size_here), rfl, (V.str r94), rfl, _, rfl, (gs101 : GS r94).len, _, _, rfl, rfl, _, _, rfl, rfl, hk106, _, _, rfl, rfl, hk109, (r94 ++ (Txt.mul ("0" : Str) (y_size_here - ((r94.length : Nat) : Int)))), r110, rfl, (GS.cat gs101 (GS.mul ⟨by decide +kernel, by decide +kernel⟩ hb105) hb108), hb111, fun F112 H113 g114 => ?_⟩
      have g116 := Gr.apart g102 g114
      have ow117 := ow103.apart g114
      have hB118 := hB100.apart g114
      refine p_name ?_
      refine p_nx ?_
      refine p_seq ?_
      refine p_asg ?_
      obtain ⟨r119, b120, hb121, hm81⟩ := bnd2 hm81
      refine ⟨(V.ref p1), rfl, (V.ref B), rfl, (V.ref p1), rfl, p1, ws_y_edges73, _, rfl, (.inl ow117.sq), (RL.len (hA_y_edges79.up (Same.trans g89.ff g99.ff))), F97, B, C, b95, (((y_edges72).length : Nat) : Int), r119, b120, rfl, g116.fh, hB118, hb121, fun F122 H123 g124 hB125 => ?_⟩
      have g127 := Gr.trans g116 g124
      have ow128 := ow117.gr g124 nb3
      obtain ⟨t129, hb130, hm81⟩ := bnd hm81
      obtain ⟨v131, ha132, r133⟩ := RL.at (hA_y_edges79.up (Same.trans g89.ff (Same.trans g99.ff g124.ff))) hb130
      obtain rfl := R.int_v r133
      refine ⟨p1, ws_y_edges73, _, (V.int t129), rfl, rfl, ow128.sq, ha132, ?_⟩
      refine p_name ?_
      refine p_nx ?_
      refine p_drop ?_
      obtain ⟨r134, b135, hb136, hm81⟩ := bnd2 hm81
      refine ⟨(V.ref p1), rfl, (.inl ⟨rfl, _, ow128.sq⟩), (V.int r110), rfl, (V.int t129), rfl, _, _, rfl, rfl, (V.ref B), rfl, F122, B, C, b120, (4 : Int), r134, b135, rfl, g127.fh, hB125, hb136, fun F137 H138 g139 hB140 => ?_⟩
      have g142 := Gr.trans g127 g139
      have ow143 := ow128.gr g139 nb3
      obtain ⟨t144, hb145, hm81⟩ := bnd hm81
      obtain ⟨hk146, rfl⟩ := shlI_ok hb145
      refine ⟨_, _, rfl, rfl, (V.int t129), rfl, _, _, rfl, rfl, _, _, rfl, (V.int y_size_here), rfl, _, _, rfl, rfl, hk146, (V.int r110), rfl, _, _, rfl, rfl, (by show 5 ≤ sizeLine; decide), fun p147 np148 => ?_⟩
      have ne149 := ow143.ne np148
      have nb150 := hB140.nb np148
      have g151 := g142.own (o := (.lst [(V.int r110), (V.int ((t129 + (1 : Int)) + r134)), (V.int (if (t129 - (1 : Int)) > (0 : Int) then (t129 - (1 : Int)) else (0 : Int))), (V.int ((1 : Int) * 2 ^ (y_size_here).toNat)), (V.int (r110 + (1 : Int)))])) np148
      have ow152 := ow143.own (o := (.lst [(V.int r110), (V.int ((t129 + (1 : Int)) + r134)), (V.int (if (t129 - (1 : Int)) > (0 : Int) then (t129 - (1 : Int)) else (0 : Int))), (V.int ((1 : Int) * 2 ^ (y_size_here).toNat)), (V.int (r110 + (1 : Int)))])) np148
      have hB153 := hB140.own (o := (.lst [(V.int r110), (V.int ((t129 + (1 : Int)) + r134)), (V.int (if (t129 - (1 : Int)) > (0 : Int) then (t129 - (1 : Int)) else (0 : Int))), (V.int ((1 : Int) * 2 ^ (y_size_here).toNat)), (V.int (r110 + (1 : Int)))])) np148
      have ow154 : Ow H0 F137 (upd H138 p147 (.lst [(V.int r110), (V.int ((t129 + (1 : Int)) + r134)), (V.int (if (t129 - (1 : Int)) > (0 : Int) then (t129 - (1 : Int)) else (0 : Int))), (V.int ((1 : Int) * 2 ^ (y_size_here).toNat)), (V.int (r110 + (1 : Int)))])) p147 [(V.int r110), (V.int ((t129 + (1 : Int)) + r134)), (V.int (if (t129 - (1 : Int)) > (0 : Int) then (t129 - (1 : Int)) else (0 : Int))), (V.int ((1 : Int) * 2 ^ (y_size_here).toNat)), (V.int (r110 + (1 : Int)))] := Ow.new g142 np148
      have hA155 : RL K F137 [(V.int r110), (V.int ((t129 + (1 : Int)) + r134)), (V.int (if (t129 - (1 : Int)) > (0 : Int) then (t129 - (1 : Int)) else (0 : Int))), (V.int ((1 : Int) * 2 ^ (y_size_here).toNat)), (V.int (r110 + (1 : Int)))] ([r110, ((t129 + (1 : Int)) + r134), (if (t129 - (1 : Int)) > (0 : Int) then (t129 - (1 : Int)) else (0 : Int)), ((1 : Int) * 2 ^ (y_size_here).toNat), (r110 + (1 : Int))] : List Int) := (RpA.cons (Rp.int r110) (RpA.cons (Rp.int ((t129 + (1 : Int)) + r134)) (RpA.cons (Rp.int (if (t129 - (1 : Int)) > (0 : Int) then (t129 - (1 : Int)) else (0 : Int))) (RpA.cons (Rp.int ((1 : Int) * 2 ^ (y_size_here).toNat)) (RpA.cons (Rp.int (r110 + (1 : Int))) RpA.nil)))))
      obtain ⟨r156, b157, hb158, hm81⟩ := bnd2 hm81
      refine ⟨(V.ref B), rfl, F137, B, C, b135, (5 : Int), r156, b157, rfl, g151.fh, hB153, hb158, fun F159 H160 g161 hB162 => ?_⟩
      have g164 := Gr.trans g151 g161
      have ow165 := ow152.gr g161 nb3
      have ow166 := ow154.gr g161 nb150
      obtain ⟨t167, hb168, hm81⟩ := bnd hm81
      obtain ⟨v169, ha170, r171⟩ := RL.at (hA155.up g161.ff) hb168
      obtain rfl := R.int_v r171
      obtain ⟨t172, hb173, hm81⟩ := bnd hm81
      obtain ⟨hk174, rfl⟩ := appL_ok hb173
      refine ⟨p147, [(V.int r110), (V.int ((t129 + (1 : Int)) + r134)), (V.int (if (t129 - (1 : Int)) > (0 : Int) then (t129 - (1 : Int)) else (0 : Int))), (V.int ((1 : Int) * 2 ^ (y_size_here).toNat)), (V.int (r110 + (1 : Int)))], _, (V.int t167), rfl, rfl, ow166.sq, ha170, p1, ws_y_edges73, (V.int t167), rfl, rfl, ow165.h, (by rw [RL.len (hA_y_edges79.up (Same.trans g89.ff (Same.trans g99.ff (Same.trans g124.ff (Same.trans g139.ff g161.ff)))))]; exact hk174), ?_⟩
      have hA175 : RL K F159 (ws_y_edges73 ++ [(V.int t167)]) (y_edges72 ++ [(t167 : Int)]) := RL.snoc (hA_y_edges79.up (Same.trans g89.ff (Same.trans g99.ff (Same.trans g124.ff (Same.trans g139.ff g161.ff))))) (Rp.int t167)
      have hl176 : (ws_y_edges73 ++ [(V.int t167)]).length ≤ sizeLine := by rw [List.length_append, RL.len (hA_y_edges79.up (Same.trans g89.ff (Same.trans g99.ff (Same.trans g124.ff (Same.trans g139.ff g161.ff)))))]; exact hk174
      have g177 := g164.put (o := (.lst (ws_y_edges73 ++ [(V.int t167)]))) ow165
      have ow178 := ow166.other (o := (.lst (ws_y_edges73 ++ [(V.int t167)]))) (Ne.symm ne149)
      have hB179 := hB162.other (o := (.lst (ws_y_edges73 ++ [(V.int t167)]))) nb3
      have ow180 := ow165.put (us := (ws_y_edges73 ++ [(V.int t167)]))
      exact ⟨F159, (some (V.int ((0 : Int) + ((i63 : Nat) : Int)))), (some (V.str r94)), (some (V.int r110)), (some (V.int t129)), (y_edges72 ++ [t167]), (ws_y_edges73 ++ [(V.int t167)]), b157, rfl, g177, (Same.trans sm76 (Same.trans g89.ff (Same.trans g99.ff (Same.trans g124.ff (Same.trans g139.ff g161.ff))))), ow180, hl176, hA175, hB179, hm81⟩
    intro σ181 H182 hP
    obtain ⟨F183, o_y_k184, o_y_bits_here185, o_y_first186, o_y_near187, y_edges188, ws_y_edges189, b190, rfl, g191, sm192, ow_y_edges193, hl_y_edges194, hA_y_edges195, hB196, hm197⟩ := hP
    rw [drop_end (rangeL_len _ _).symm, m_l_stretches_l1.eq_1] at hm197
    obtain ⟨rfl, rfl⟩ := pjoin hm197
    refine p_nx ?_
    refine p_seq ?_
    refine p_asg ?_
    refine ⟨(V.ref p1), rfl, p1, rfl, ⟨_, ow_y_edges193.sq⟩, fun D198 nD199 => ?_⟩
    have ne200 := ow_y_edges193.ne nD199
    have nb201 := hB196.nb nD199
    have g202 := g191.own (o := (.lst [])) nD199
    have ow203 := ow_y_edges193.own (o := (.lst [])) nD199
    have hB204 := hB196.own (o := (.lst [])) nD199
    have ow205 : Ow H0 F183 (upd H182 D198 (.lst [])) D198 [] := Ow.new g191 nD199
    obtain ⟨l206, hb207, hm⟩ := bnd hm
    refine lc_list (K := K) (a := p1) (xs := ws_y_edges189) (fun i H' => ∃ (F' : Hp) (acc : List V) (ds : List Int) (rest : List Int), Gr (Bc B C) F0 H0 F' H' ∧ Same F183 F' ∧ Ow H0 F' H' D198 acc ∧ RL K F' acc ds ∧ acc.length ≤ i ∧ Ow H0 F' H' p1 ws_y_edges189 ∧ BagAt F' H' B C b190 ∧ m_l_stretches_c2 y_size_here (y_edges188.drop i) = some rest ∧ ds ++ rest = l206) ?_ ?_ ?_ ?_
    · exact ⟨F183, [], [], l206, g202, Same.refl _, ow205, RpA.nil, Nat.le_refl _, ow203, hB204, hb207, rfl⟩
    · intro i H' _ hP
      obtain ⟨F208, acc209, ds210, rest211, g0212, sm213, owD214, hA215, hi216, ow0217, hB218, hm219, hr220⟩ := hP
      exact ow0217.sq
    · intro i222 xv221 H224 hx223 hP
      obtain ⟨F225, acc226, ds227, rest228, g0229, sm230, owD231, hA232, hi233, ow0234, hB235, hm236, hr237⟩ := hP
      obtain ⟨e238, he239, r240⟩ := RL.get (hA_y_edges195.up sm230) hx223
      obtain rfl := R.int_v r240
      rw [drop_at he239, m_l_stretches_c2.eq_2] at hm236
      obtain ⟨t241, hb242, hm236⟩ := bnd hm236
      obtain ⟨hk243, rfl⟩ := shlI_ok hb242
      refine ⟨rfl, (V.int e238), rfl, (V.int y_size_here), rfl, _, _, rfl, rfl, hk243, _, _, rfl, rfl, _, rfl, (iteB (fun hc => ?_) (fun hc => ?_))⟩
      · have hm236 := ifT hc hm236
        have hA244 : RL K F225 (acc226 ++ [(V.int e238)]) (ds227 ++ [(e238 : Int)]) := RL.snoc hA232 (Rp.int e238)
        obtain ⟨rest245, h246, h247⟩ := bnd hm236
        obtain rfl := sjoin h247
        refine ⟨(V.int e238), rfl, acc226, owD231.h, (lt_line hi233 (List.getElem?_eq_some_iff.mp hx223).1 hl_y_edges194), ?_⟩
        have g248 := g0229.put (o := (.lst (acc226 ++ [(V.int e238)]))) owD231
        have ow249 := ow0234.other (o := (.lst (acc226 ++ [(V.int e238)]))) ne200
        have hB250 := hB235.other (o := (.lst (acc226 ++ [(V.int e238)]))) nb201
        have ow251 := owD231.put (us := (acc226 ++ [(V.int e238)]))
        exact ⟨F225, (acc226 ++ [(V.int e238)]), (ds227 ++ [e238]), rest245, g248, sm230, ow251, hA244, (by rw [List.length_append]; exact Nat.succ_le_succ hi233), ow249, hB250, h246, (snoc_rest hr237)⟩
      · have hm236 := ifF hc hm236
        exact ⟨F225, acc226, ds227, rest228, g0229, sm230, owD231, hA232, (Nat.le_succ_of_le hi233), ow0234, hB235, hm236, hr237⟩
    intro H252 hP
    obtain ⟨F253, acc254, ds255, _rest, g0257, sm258, owD259, hA260, hi261, ow0262, hB263, hm264, hr265⟩ := hP
    rw [drop_end (RL.len hA_y_edges195)] at hm264
    rw [m_l_stretches_c2.eq_1] at hm264
    obtain rfl := sjoin hm264
    rw [List.append_nil] at hr265
    obtain rfl := hr265
    have hl266 : acc254.length ≤ sizeLine := Nat.le_trans hi261 hl_y_edges194
    obtain ⟨t267, hb268, hm⟩ := bnd hm
    obtain ⟨hk269, hss_⟩ := ssetO_ok hb268
    subst hss_
    refine ⟨D198, ds255, rfl, (by rw [← RL.ints hA260]; exact owD259.sq), hk269, fun ns270 p274 so271 mm272 ln273 np275 => ?_⟩
    obtain rfl := ssort_uniq so271 mm272
    have hl276 : ((ssort ds255).map V.int).length ≤ sizeLine := by rw [List.length_map, sizeLine_eq]; omega
    have hA277 : RL K F253 ((ssort ds255).map V.int) (ssort ds255) := RL.ofInts _
    have ne278 := ow0262.ne np275
    have ne279 := owD259.ne np275
    have nb280 := hB263.nb np275
    have g281 := g0257.own (o := (.lst ((ssort ds255).map V.int))) np275
    have ow282 := ow0262.own (o := (.lst ((ssort ds255).map V.int))) np275
    have ow283 := owD259.own (o := (.lst ((ssort ds255).map V.int))) np275
    have hB284 := hB263.own (o := (.lst ((ssort ds255).map V.int))) np275
    have ow285 : Ow H0 F253 (upd H252 p274 (.lst ((ssort ds255).map V.int))) p274 ((ssort ds255).map V.int) := Ow.new g0257 np275
    refine p_name ?_
    refine p_nx ?_
    refine p_seq ?_
    refine p_asg ?_
    refine ⟨(by show 0 ≤ sizeLine; decide), fun p286 np287 => ?_⟩
    have ne288 := ow282.ne np287
    have ne289 := ow283.ne np287
    have ne290 := ow285.ne np287
    have nb291 := hB284.nb np287
    have g292 := g281.own (o := (.lst [])) np287
    have ow293 := ow282.own (o := (.lst [])) np287
    have ow294 := ow283.own (o := (.lst [])) np287
    have ow295 := ow285.own (o := (.lst [])) np287
    have hB296 := hB284.own (o := (.lst [])) np287
    have ow297 : Ow H0 F253 (upd (upd H252 p274 (.lst ((ssort ds255).map V.int))) p286 (.lst [])) p286 [] := Ow.new g281 np287
    obtain ⟨y_found299, hb300, hm⟩ := bnd hm
    have hx301 : ([] : (List (Int × Int))) = y_found299 := sjoin hb300
    have hA302 : RL K F253 [] y_found299 := RL.re hx301 RpA.nil
    refine p_name ?_
    refine p_nx ?_
    refine p_seq ?_
    refine p_for ?_
    obtain ⟨l303, hb305, hm⟩ := bnd hm
    obtain ⟨hk304, rfl⟩ := rangeO_ok hb305
    refine ⟨(V.ref p274), rfl, p274, ((ssort ds255).map V.int), _, rfl, (.inl ow295.sq), (RL.len hA277), _, _, rfl, hk304.1, ?_⟩
    obtain ⟨y_found306, b307, ht308, hm⟩ := bnd2 hm
    refine for_range (lo := (1 : Int)) (n := (((((ssort ds255)).length : Nat) : Int) - (1 : Int)).toNat) (fun i σ' H' => ∃ (F' : Hp) (o_y_k : Option V) (y_found : (List (Int × Int))) (ws_y_found : List V) (b : Bag), σ' = [(some (V.ref B)), (some (V.int y_size_here)), (some (V.ref p274)), o_y_k, o_y_bits_here185, o_y_first186, o_y_near187, (some (V.ref p286)), none] ∧ Gr (Bc B C) F0 H0 F' H' ∧ Same F253 F' ∧ Ow H0 F' H' p286 ws_y_found ∧ ws_y_found.length ≤ sizeLine ∧ RL K F' ws_y_found y_found ∧ Ow H0 F' H' p274 ((ssort ds255).map V.int) ∧ BagAt F' H' B C b ∧ m_l_stretches_l3 (ssort ds255) ((rangeL (1 : Int) (((((ssort ds255)).length : Nat) : Int) - (1 : Int)).toNat).drop i) y_found b = some (y_found306, b307)) ?_ ?_ ?_
    · exact ⟨F253, o_y_k184, y_found299, [], b190, rfl, g292, (Same.refl _), ow297, (by show 0 ≤ sizeLine; decide), hA302, ow295, hB296, ht308⟩
    · intro i309 σ' H311 hx310 hP
      obtain ⟨F313, o_y_k314, y_found315, ws_y_found316, b317, rfl, g318, sm319, ow_y_found320, hl_y_found321, hA_y_found322, owk0323, hB324, hm325⟩ := hP
      have he327 := rangeL_at (lo := (1 : Int)) hx310
      rw [drop_at he327, m_l_stretches_l3.eq_2] at hm325
      refine p_name ?_
      refine p_if ?_
      obtain ⟨r328, b329, hb330, hm325⟩ := bnd2 hm325
      refine ⟨(V.ref B), rfl, F313, B, C, b317, (3 : Int), r328, b329, rfl, g318.fh, hB324, hb330, fun F331 H332 g333 hB334 => ?_⟩
      have g336 := Gr.trans g318 g333
      have ow337 := owk0323.gr g333 nb280
      have ow338 := ow_y_found320.gr g333 nb291
      refine ⟨_, _, rfl, rfl, _, rfl, (iteB (fun hc => ?_) (fun hc => ?_))⟩
      · have hm325 := ifT hc hm325
        refine p_drop ?_
        obtain ⟨t339, hb340, hm325⟩ := bnd hm325
        obtain ⟨v341, ha342, r343⟩ := RL.at (hA277.up (Same.trans sm319 g333.ff)) hb340
        obtain rfl := R.int_v r343
        obtain ⟨t344, hb345, hm325⟩ := bnd hm325
        obtain ⟨v346, ha347, r348⟩ := RL.at (hA277.up (Same.trans sm319 g333.ff)) hb345
        obtain rfl := R.int_v r348
        refine ⟨(V.ref p286), rfl, (.inl ⟨rfl, _, ow338.sq⟩), (V.ref p274), rfl, (V.int ((1 : Int) + ((i309 : Nat) : Int))), rfl, _, _, rfl, rfl, p274, ((ssort ds255).map V.int), _, (V.int t339), rfl, rfl, ow337.sq, ha342, (V.ref p274), rfl, (V.int ((1 : Int) + ((i309 : Nat) : Int))), rfl, p274, ((ssort ds255).map V.int), _, (V.int t344), rfl, rfl, ow337.sq, ha347, (by show 2 ≤ sizeLine; decide), fun p349 np350 => ?_⟩
        have ne351 := ow337.ne np350
        have ne352 := ow338.ne np350
        have nb353 := hB334.nb np350
        have sm354 := same_new (o := (.tup [(V.int t339), (V.int t344)])) (g336.noneF np350)
        have g355 := g336.frz (o := (.tup [(V.int t339), (V.int t344)])) np350
        have ow356 := ow337.frz (o := (.tup [(V.int t339), (V.int t344)])) np350
        have ow357 := ow338.frz (o := (.tup [(V.int t339), (V.int t344)])) np350
        have hB358 := hB334.frz (o := (.tup [(V.int t339), (V.int t344)])) np350
        have r359 : R K (upd F331 p349 (.tup [(V.int t339), (V.int t344)])) (.ref p349) ((t339, t344) : (Int × Int)) := R.mk2 fzT (Rp.int t339) (Rp.int t344)
        obtain ⟨t360, hb361, hm325⟩ := bnd hm325
        obtain ⟨hk362, rfl⟩ := appL_ok hb361
        refine ⟨p286, ws_y_found316, (V.ref p349), rfl, rfl, ow357.h, (by rw [RL.len (hA_y_found322.up (Same.trans g333.ff sm354))]; exact hk362), ?_⟩
        have hA363 : RL K (upd F331 p349 (.tup [(V.int t339), (V.int t344)])) (ws_y_found316 ++ [(V.ref p349)]) (y_found315 ++ [((t339, t344) : (Int × Int))]) := RL.snoc (hA_y_found322.up (Same.trans g333.ff sm354)) r359
        have hl364 : (ws_y_found316 ++ [(V.ref p349)]).length ≤ sizeLine := by rw [List.length_append, RL.len (hA_y_found322.up (Same.trans g333.ff sm354))]; exact hk362
        have g365 := g355.put (o := (.lst (ws_y_found316 ++ [(V.ref p349)]))) ow357
        have ow366 := ow356.other (o := (.lst (ws_y_found316 ++ [(V.ref p349)]))) ne290
        have hB367 := hB358.other (o := (.lst (ws_y_found316 ++ [(V.ref p349)]))) nb291
        have ow368 := ow357.put (us := (ws_y_found316 ++ [(V.ref p349)]))
        exact ⟨(upd F331 p349 (.tup [(V.int t339), (V.int t344)])), (some (V.int ((1 : Int) + ((i309 : Nat) : Int)))), (y_found315 ++ [(t339, t344)]), (ws_y_found316 ++ [(V.ref p349)]), b329, rfl, g365, (Same.trans sm319 (Same.trans g333.ff sm354)), ow368, hl364, hA363, ow366, hB367, hm325⟩
      · have hm325 := ifF hc hm325
        refine p_next ?_
        exact ⟨F331, (some (V.int ((1 : Int) + ((i309 : Nat) : Int)))), y_found315, ws_y_found316, b329, rfl, g336, (Same.trans sm319 g333.ff), ow338, hl_y_found321, (hA_y_found322.up g333.ff), ow337, hB334, hm325⟩
    intro σ369 H370 hP
    obtain ⟨F371, o_y_k372, y_found373, ws_y_found374, b375, rfl, g376, sm377, ow_y_found378, hl_y_found379, hA_y_found380, owk0381, hB382, hm383⟩ := hP
    rw [drop_end (rangeL_len _ _).symm, m_l_stretches_l3.eq_1] at hm383
    obtain ⟨rfl, rfl⟩ := pjoin hm383
    refine p_nx ?_
    refine p_ret ?_
    obtain ⟨rfl, rfl⟩ := pjoin hm
    refine ⟨(V.ref p286), rfl, (hQ _ _ _ _ g376 hB382 ow_y_found378.n0 ow_y_found378.h ow_y_found378.nF hl_y_found379 hA_y_found380)⟩
end K04
namespace K04
open PySem PySem.Spec PyProof.Rows L2 TL G
theorem ok_al1 {P : Program} {w : World} {K : PySem.W.Frag} {mg : Str → Option Value} {base : Heap} (T : Txt K mg) (n : Nat) (ih : FnOk P w K mg base CX0 n T.a_l_alike T.d_l_alike ["_law_found", "_law_due"] (spA n K)) : FnOk P w K mg base CX0 (n + 1) T.a_l_alike T.d_l_alike ["_law_found", "_law_due"] (sp_alike n K) := by
  have b_l_alike := T.F_l_alike.bindsN (ps := ["_law_found", "_law_due"]) fun _ _ _ _ _ _ us hl => match us, hl with | [_, _], _ => rfl
  refine fd_ok T.F_l_alike sc_l_alike (fun vs H Q E h => ?_) (fun cdv A outer s H0 vs Q E hr h => ?_)
  · obtain ⟨_, _, _, rfl, _⟩ := h
    rfl
  · obtain ⟨v1, v2, d, rfl, r1, r2, hd, hQ⟩ := h
    refine ⟨_, (pss_cons (ps_if (pt_val (pe_callB call_isiT (by rfl) T.n_isinstance (by decide +kernel) (pa_cons (pv 1) (pa_cons (pe_tup (pa_cons (pe_bltn (v := .ty "list") (by rfl) T.n_list (by decide +kernel) rfl) (pa_cons (pe_bltn (v := .ty "tuple") (by rfl) T.n_tuple (by decide +kernel) rfl) pa_nil))) pa_nil))))
        (pss_cons (ps_if (PW.pt (pw_or (pt_not (pt_val (pe_callB call_isiT (by rfl) T.n_isinstance (by decide +kernel) (pa_cons (pv 0) (pa_cons (pe_tup (pa_cons (pe_bltn (v := .ty "list") (by rfl) T.n_list (by decide +kernel) rfl) (pa_cons (pe_bltn (v := .ty "tuple") (by rfl) T.n_tuple (by decide +kernel) rfl) pa_nil))) pa_nil)))))
            (pw_or1 (pt_cmpR op_ne (pe_callB call_isi (by rfl) T.n_isinstance (by decide +kernel) (pa_cons (pv 0) (pa_cons (pe_bltn (v := .ty "list") (by rfl) T.n_list (by decide +kernel) rfl) pa_nil))) (pe_callB call_isi (by rfl) T.n_isinstance (by decide +kernel) (pa_cons (pv 1) (pa_cons (pe_bltn (v := .ty "list") (by rfl) T.n_list (by decide +kernel) rfl) pa_nil))) (nomark _))))) (pss_one (ps_ret pe_bl)) pss_nil)
          (pss_one (ps_ret (pe_and (pe_cmpR op_eq (pe_callB call_lenL (by rfl) T.n_len (by decide +kernel) (pa_cons (pv 0) pa_nil)) (pe_callB call_lenL (by rfl) T.n_len (by decide +kernel) (pa_cons (pv 1) pa_nil)) (nomark _))
            (pe_one (pe_callB (cr_all rfl) (by rfl) T.n_all (by decide +kernel) (pa_cons (pe_lc (own := [("_law_k", 2)]) rfl sc_l_alike.nd (pi_range1 (by rfl) T.n_range (pa_cons (pe_callB call_lenL (by rfl) T.n_len (by decide +kernel) (pa_cons (pv 1) pa_nil)) pa_nil))
              (blkOk_by (own := [("_law_k", 2)]) (N := N_l_alike) (sc := defScope s_l_alike) (by decide +kernel)) (fun _ _ _ _ _ => pg_name (i := 2) sc_l_alike.nd rfl (Or.inl rfl)) (fun _ _ _ _ _ => pts_nil)
              (fun _ _ _ _ _ => pe_call ih hr (by rfl) T.g_l_alike T.F_l_alike.kp b_l_alike .nil pass0 (pa_cons (pe_ix (r := rIx K) ix_seq (pv 0) (pv 2) (fun _ _ => rfl)) (pa_cons (pe_ix (r := rIx K) ix_seq (pv 1) (pv 2) (fun _ _ => rfl)) pa_nil)))) pa_nil))))))) pss_nil)
      (pss_cons (ps_if (PW.pt (pw_or (pt_val (pe_callB call_isi (by rfl) T.n_isinstance (by decide +kernel) (pa_cons (pv 1) (pa_cons (pe_bltn (v := .ty "bool") (by rfl) T.n_bool (by decide +kernel) rfl) pa_nil)))) (pw_or1 (pt_val (pe_callB call_isi (by rfl) T.n_isinstance (by decide +kernel) (pa_cons (pv 0) (pa_cons (pe_bltn (v := .ty "bool") (by rfl) T.n_bool (by decide +kernel) rfl) pa_nil)))))))
          (pss_one (ps_ret (pe_and (pe_callB call_isi (by rfl) T.n_isinstance (by decide +kernel) (pa_cons (pv 1) (pa_cons (pe_bltn (v := .ty "bool") (by rfl) T.n_bool (by decide +kernel) rfl) pa_nil))) (pe_and (pe_callB call_isi (by rfl) T.n_isinstance (by decide +kernel) (pa_cons (pv 0) (pa_cons (pe_bltn (v := .ty "bool") (by rfl) T.n_bool (by decide +kernel) rfl) pa_nil))) (pe_one (pe_cmpR op_eq (pv 0) (pv 1) (nomark _))))))) pss_nil)
        (pss_one (ps_ret (pe_and (pe_cmpR op_eq (pe_callB call_isi (by rfl) T.n_isinstance (by decide +kernel) (pa_cons (pv 0) (pa_cons (pe_bltn (v := .ty "str") (by rfl) T.n_str (by decide +kernel) rfl) pa_nil))) (pe_callB call_isi (by rfl) T.n_isinstance (by decide +kernel) (pa_cons (pv 1) (pa_cons (pe_bltn (v := .ty "str") (by rfl) T.n_str (by decide +kernel) rfl) pa_nil))) (nomark _)) (pe_one (pe_cmpR op_eq (pv 0) (pv 1) (nomark _)))))))), ?_⟩
    have g0 : Gr M0 H0 H0 H0 H0 := Gr.refl (Same.refl _)
    refine p_seq ?_
    refine p_if ?_
    refine ⟨v2, rfl, (by show 2 ≤ sizeLine; decide), fun p1 np1 => ?_⟩
    refine ⟨v2, p1, [.ty "list", .ty "tuple"], _, [.type "list", .type "tuple"], _, rfl, upd_same, .cons (.ty _) (.cons (.ty _) .nil), (r2.up (same_new np1)).ty, kit_lt r2.knd, _, rfl, ?_⟩
    have g1 := g0.frz (o := .tup [.ty "list", .ty "tuple"]) np1
    have q1 := r1.up (same_new (o := .tup [.ty "list", .ty "tuple"]) np1)
    have q2 := r2.up (same_new (o := .tup [.ty "list", .ty "tuple"]) np1)
    generalize upd H0 p1 (.tup [.ty "list", .ty "tuple"]) = H1 at g1 q1 q2 ⊢
    refine iteB (fun hc => ?_) (fun hc => ?_)
    · refine p_seq ?_
      refine p_if ?_
      refine ⟨v1, rfl, (by show 2 ≤ sizeLine; decide), fun p2 np2 => ?_⟩
      refine ⟨v1, p2, [.ty "list", .ty "tuple"], _, [.type "list", .type "tuple"], _, rfl, upd_same, .cons (.ty _) (.cons (.ty _) .nil), (q1.up (same_new np2)).ty, kit_lt q1.knd, _, rfl, ?_⟩
      have g2 := g1.frz (o := .tup [.ty "list", .ty "tuple"]) np2
      have t1 := q1.up (same_new (o := .tup [.ty "list", .ty "tuple"]) np2)
      have t2 := q2.up (same_new (o := .tup [.ty "list", .ty "tuple"]) np2)
      generalize upd H1 p2 (.tup [.ty "list", .ty "tuple"]) = H2 at g2 t1 t2 ⊢
      refine ifFr (by rw [hc]; rfl) ?_
      refine ⟨v1, rfl, v1, .ty "list", _, .type "list", _, rfl, .ty _, t1.ty, kit_one t1.knd "list" (.inl rfl), v2, rfl, v2, .ty "list", _, .type "list", _, rfl, .ty _, t2.ty, kit_one t2.knd "list" (.inl rfl), rfl, _, rfl, ?_⟩
      refine ifFr (by simp) ?_
      refine p_next ?_
      refine p_nx ?_
      refine p_ret ?_
      obtain ⟨a1, ws1, a2, ws2, ds, m, rfl, rfl, s1, s2, l1, l2, e1, e2, hn, hdp⟩ := al_sq t1 t2 hc hd
      subst hn
      refine ⟨_, rfl, a1, ws1, _, rfl, s1, rfl, _, rfl, a2, ws2, _, rfl, s2, rfl, rfl, _, rfl, ?_⟩
      refine ifTr (decide_eq_true (by rw [e1.length, e2.length])) ?_
      have hl2 : (ws2.length : Int) < 2 ^ 62 := by
        have := l2
        rw [sizeLine_eq] at this
        omega
      refine ⟨_, rfl, a2, ws2, _, rfl, s2, rfl, _, rfl, (by omega), hl2, fun D nD => ?_⟩
      refine lc_range (lo := 0) (n := ((ws2.length : Nat) : Int).toNat) (fun i H' => Gr M0 H0 H0 H2 H' ∧ Ow H0 H2 H' D (List.replicate i (.bl true))) ⟨g2.own nD, Ow.new g2 nD⟩ (fun i H' hi hP => ?_) (fun H' hP => ?_)
      · obtain ⟨g, ow⟩ := hP
        refine ⟨rfl, p_yes ?_⟩
        have hi2 : i < ws2.length := by simpa using hi
        obtain ⟨u2, hu2⟩ : ∃ u, ws2[i]? = some u := ⟨_, List.getElem?_eq_getElem hi2⟩
        obtain ⟨di, hdi, ru2⟩ := e2.get hu2
        obtain ⟨u1, hu1, ru1⟩ := e1.back hdi
        refine ⟨_, rfl, _, rfl, ix_go (sq_up s1 g.fh) hu1 ⟨_, rfl, _, rfl, ix_go (sq_up s2 g.fh) hu2 ?_⟩⟩
        refine ⟨u1, u2, di, rfl, ru1.up g.fh, ru2.up g.fh, hdp di (List.mem_of_getElem? hdi), fun F1 H3 g3 => ?_⟩
        have g4 := Gr.apart g g3
        have ow4 := ow.apart g3
        refine ⟨_, ow4.h, ?_, ?_⟩
        · rw [List.length_replicate]; omega
        · have e : List.replicate i (V.bl true) ++ [V.bl true] = List.replicate (i + 1) (V.bl true) := List.replicate_succ'.symm
          rw [e]
          exact ⟨g4.put ow4, ow4.put⟩
      · obtain ⟨g, ow⟩ := hP
        refine ⟨D, List.replicate (((ws2.length : Nat) : Int).toNat) true, rfl, ?_, ?_⟩
        · rw [List.map_replicate]; exact ow.sq
        · rw [show (List.replicate (((ws2.length : Nat) : Int).toNat) true).all id = true by simp]
          exact hQ _ _ g
    · refine p_next ?_
      refine p_nx ?_
      have hv : v1 = v2 ∧ scal v1 v2 = true := al_sc q1 q2 hc
      refine p_seq ?_
      refine p_if ?_
      refine ⟨v2, rfl, v2, .ty _, _, .type _, _, rfl, .ty _, q2.ty, kit_one q2.knd _ (.inr (.inl rfl)), _, rfl, ?_⟩
      by_cases hb : (tyD d == "bool") = true
      · refine ifTr hb ?_
        refine ifTr rfl ?_
        refine p_ret ?_
        refine ⟨v2, rfl, v2, .ty _, _, .type _, _, rfl, .ty _, q2.ty, kit_one q2.knd _ (.inr (.inl rfl)), _, rfl, ifTr hb ?_⟩
        refine ⟨v1, rfl, v1, .ty _, _, .type _, _, rfl, .ty _, q1.ty, kit_one q1.knd _ (.inr (.inl rfl)), _, rfl, ifTr hb ?_⟩
        refine ⟨v1, rfl, v2, rfl, hv.2, ?_⟩
        rw [decide_eq_true hv.1]
        exact hQ _ _ g1
      · have hb : (tyD d == "bool") = false := Bool.eq_false_iff.mpr hb
        refine ifFr hb ?_
        refine ⟨v1, rfl, v1, .ty _, _, .type _, _, rfl, .ty _, q1.ty, kit_one q1.knd _ (.inr (.inl rfl)), _, rfl, ifFr hb ?_⟩
        refine p_next ?_
        refine p_nx ?_
        refine p_ret ?_
        refine ⟨v1, rfl, v1, .ty _, _, .type _, _, rfl, .ty _, q1.ty, kit_one q1.knd _ (.inr (.inr rfl)), v2, rfl, v2, .ty _, _, .type _, _, rfl, .ty _, q2.ty, kit_one q2.knd _ (.inr (.inr rfl)), rfl, ?_⟩
        refine ⟨_, rfl, ifTr (decide_eq_true rfl) ?_⟩
        refine ⟨v1, rfl, v2, rfl, hv.2, ?_⟩
        rw [decide_eq_true hv.1]
        exact hQ _ _ g1
theorem ok_l_alike {P : Program} {w : World} {K : PySem.W.Frag} {mg : Str → Option Value} {base : Heap} (T : Txt K mg) : ∀ n : Nat, FnOk P w K mg base CX0 n T.a_l_alike T.d_l_alike ["_law_found", "_law_due"] (spA n K)
  | 0 => ⟨fun _ _ _ _ h => h.elim, fun _ _ _ _ _ _ _ _ _ _ _ _ _ h => h.elim⟩
  | n + 1 => ok_al1 T n (ok_l_alike T n)

end K04
namespace K04
open PySem PySem.Spec PyProof.Rows L2 TL G
theorem okS_l_leaves {P : Program} {w : World} {K : PySem.W.Frag} {mg : Str → Option Value} {base : Heap} (T : Txt K mg) (k_ : Nat) (hk_ : 1 ≤ k_) (rec_ : ((List (Int × Int)) → Str → Int → Option (List Str))) (ih_ : FnOk P w K mg base CX0 k_ T.a_l_leaves T.d_l_leaves ["_law_some", "_law_bits_here", "_law_left"] (spR_l_leaves rec_ K)) : FnOk P w K mg base CX0 (k_ + 1) T.a_l_leaves T.d_l_leaves ["_law_some", "_law_bits_here", "_law_left"] (spR_l_leaves (mS_l_leaves rec_) K) := by
  have G_l_worth : FnOk P w K mg base CX0 1 T.a_l_worth T.d_l_worth ["_law_bits_here"] (sp_l_worth K) := ok_l_worth T
  have b_l_worth := T.F_l_worth.bindsN (ps := ["_law_bits_here"]) fun _ _ _ _ _ _ us hl => match us, hl with | [_], _ => rfl
  have b_l_leaves := T.F_l_leaves.bindsN (ps := ["_law_some", "_law_bits_here", "_law_left"]) fun _ _ _ _ _ _ us hl => match us, hl with | [_, _, _], _ => rfl
  refine fd_ok T.F_l_leaves sc_l_leaves (fun vs H Q E h => ?_) (fun cdv A outer s H0 vs Q E hr h => ?_)
  · obtain ⟨_, _, _, _, _, _, _, rfl, _⟩ := h
    rfl
  · obtain ⟨F0, p_y_some, ws_y_some, y_some, y_bits_here, y_left, r, rfl, hS0, hS_y_some, hl_y_some, hA_y_some, nm_y_some, gs_y_bits_here, hm, hQ⟩ := h
    refine ⟨_, (pss_cons (ps_set (i := 3) sc_l_leaves.nd rfl (.inr rfl) (pe_op op_shl (pe_call G_l_worth (hr.mono (Nat.le_trans (by decide) hk_)) (by rfl) T.g_l_worth T.F_l_worth.kp b_l_worth .nil pass0 (pa_cons (pv 1) pa_nil)) (pv 2))) (pss_cons (ps_set (i := 4) sc_l_leaves.nd rfl (.inr rfl) (pe_op op_add (pv 3) (pe_op op_shl pe_int (pv 2)))) (pss_cons (ps_setLc (i := 5) (own := [("_law_one", 7), ("_law_other", 8)]) rfl sc_l_leaves.nd rfl rfl (sw_true rfl rfl rfl (by decide +kernel)) (pi_listK (K := K) (pv 0)) (blkOk_by (own := [("_law_one", 7), ("_law_other", 8)]) (N := N_l_leaves) (sc := defScope s_l_leaves) (by decide +kernel)) (fun _ _ _ _ _ => (pg_tupK (K := K) 2 rfl (pgs_cons (pg_name (i := 7) sc_l_leaves.nd rfl (Or.inl rfl) (.inr rfl)) (pgs_cons (pg_name (i := 8) sc_l_leaves.nd rfl (Or.inl rfl) (.inr rfl)) pgs_nil)))) (fun _ _ _ _ _ => (pts_one (PW.pt (pw_and (pt_cmpR op_lt (pv 7) (pv 4) (nomark _)) (pw_and1 (pt_cmpR op_lt (pv 3) (pv 8) (nomark _))))))) (fun _ _ _ _ _ => (pe_tup (pa_cons (pe_callB (call_max2 rfl) (by rfl) T.n_max (by decide +kernel) (pa_cons (pv 3) (pa_cons (pv 7) pa_nil))) (pa_cons (pe_callB (call_min2 rfl) (by rfl) T.n_min (by decide +kernel) (pa_cons (pv 4) (pa_cons (pv 8) pa_nil))) pa_nil))))) (pss_cons (ps_set (i := 6) sc_l_leaves.nd rfl (.inl rfl) (pe_callB (cr_sum rfl) (by rfl) T.n_sum (by decide +kernel) (pa_cons (pe_lc (own := [("_law_one", 7), ("_law_other", 8)]) rfl sc_l_leaves.nd (pi_listK (K := K) (pv 5)) (blkOk_by (own := [("_law_one", 7), ("_law_other", 8)]) (N := N_l_leaves) (sc := defScope s_l_leaves) (by decide +kernel)) (fun _ _ _ _ _ => (pg_tupK (K := K) 2 rfl (pgs_cons (pg_name (i := 7) sc_l_leaves.nd rfl (Or.inl rfl) (.inr rfl)) (pgs_cons (pg_name (i := 8) sc_l_leaves.nd rfl (Or.inl rfl) (.inr rfl)) pgs_nil)))) (fun _ _ _ _ _ => pts_nil) (fun _ _ _ _ _ => (pe_op op_sub (pv 8) (pv 7)))) pa_nil))) (pss_cons (ps_if (PW.pt (pw_or (pt_cmpR op_eq (pv 6) pe_int (nomark _)) (pw_or1 (pt_cmpR op_lt (pv 2) pe_int (nomark _))))) (pss_one (ps_ret (pe_lst pa_nil))) pss_nil) (pss_cons (ps_if (pt_cmpR op_eq (pv 6) (pe_op op_sub (pv 4) (pv 3)) (nomark _)) (pss_one (ps_ret (pe_lst (pa_cons (pe_op op_add_str (pv 1) (pe_op op_mulS pe_str (pe_callTy call_toI (by rfl) T.n_int (by decide +kernel) (pa_cons (pe_cmpR op_gt (pv 2) pe_int (nomark _)) pa_nil)))) pa_nil)))) pss_nil) (pss_one (ps_ret (pe_op (op_catLK (K := K)) (pe_call ih_ hr (by rfl) T.g_l_leaves T.F_l_leaves.kp b_l_leaves .nil pass0 (pa_cons (pv 5) (pa_cons (pe_op op_add_str (pv 1) pe_str) (pa_cons (pe_op op_sub (pv 2) pe_int) pa_nil)))) (pe_call ih_ hr (by rfl) T.g_l_leaves T.F_l_leaves.kp b_l_leaves .nil pass0 (pa_cons (pv 5) (pa_cons (pe_op op_add_str (pv 1) pe_str) (pa_cons (pe_op op_sub (pv 2) pe_int) pa_nil))))))))))))), ?_⟩
    have g0 : Gr M0 F0 H0 F0 H0 := Gr.refl hS0
    unfold mS_l_leaves at hm
    refine p_seq ?_
    refine p_asg ?_
    obtain ⟨r1, hb2, hm⟩ := bnd hm
    refine ⟨(V.str y_bits_here), rfl, y_bits_here, r1, rfl, gs_y_bits_here, hb2, fun F3 H4 g5 => ?_⟩
    have g7 := Gr.apart g0 g5
    obtain ⟨t8, hb9, hm⟩ := bnd hm
    obtain ⟨hk10, rfl⟩ := shlI_ok hb9
    refine ⟨(V.int y_left), rfl, _, _, rfl, rfl, hk10, ?_⟩
    obtain ⟨y_first11, hx12⟩ : ∃ z_, (r1 * 2 ^ (y_left).toNat) = z_ := ⟨_, rfl⟩
    try rw [hx12] at hm
    refine p_nm (v' := (V.int y_first11)) (congrArg V.int hx12) ?_
    refine p_nx ?_
    refine p_seq ?_
    refine p_asg ?_
    obtain ⟨t13, hb14, hm⟩ := bnd hm
    obtain ⟨hk15, rfl⟩ := shlI_ok hb14
    refine ⟨(V.int y_first11), rfl, (V.int y_left), rfl, _, _, rfl, rfl, hk15, _, _, rfl, rfl, ?_⟩
    obtain ⟨y_behind16, hx17⟩ : ∃ z_, (y_first11 + ((1 : Int) * 2 ^ (y_left).toNat)) = z_ := ⟨_, rfl⟩
    try rw [hx17] at hm
    refine p_nm (v' := (V.int y_behind16)) (congrArg V.int hx17) ?_
    refine p_nx ?_
    refine p_seq ?_
    refine p_asg ?_
    refine ⟨(V.ref p_y_some), rfl, p_y_some, rfl, ⟨_, (g7.seq nm_y_some hS_y_some)⟩, fun D18 nD19 => ?_⟩
    have g20 := g7.own (o := (.lst [])) nD19
    have ow21 : Ow H0 F0 (upd H4 D18 (.lst [])) D18 [] := Ow.new g7 nD19
    refine lc_list (K := K) (a := p_y_some) (xs := ws_y_some) (fun i H' => ∃ (F' : Hp) (acc : List V) (ds : List (Int × Int)), Gr M0 F0 H0 F' H' ∧ Same F0 F' ∧ Ow H0 F' H' D18 acc ∧ RL K F' acc ds ∧ acc.length ≤ i ∧ ds ++ m_l_leaves_c1 rec_ y_first11 y_behind16 (y_some.drop i) = (m_l_leaves_c1 rec_ y_first11 y_behind16 y_some)) ?_ ?_ ?_ ?_
    · exact ⟨F0, [], [], g20, Same.refl _, ow21, RpA.nil, Nat.le_refl _, rfl⟩
    · intro i H' _ hP
      obtain ⟨F23, acc24, ds25, g026, sm27, owD28, hA29, hi30, hr31⟩ := hP
      exact (g026.seq nm_y_some hS_y_some)
    · intro i33 xv32 H35 hx34 hP
      obtain ⟨F36, acc37, ds38, g039, sm40, owD41, hA42, hi43, hr44⟩ := hP
      obtain ⟨e45, he46, r47⟩ := RL.get (hA_y_some.up sm40) hx34
      rw [drop_at he46, m_l_leaves_c1.eq_2] at hr44
      obtain ⟨p48, v51, v52, ev49, hS50, r53, r54⟩ := R.p2_v r47
      obtain rfl := R.int_v r53
      obtain rfl := R.int_v r54
      refine ⟨p48, [(V.int e45.1), (V.int e45.2)], ev49, (SqT_mono g039.fh hS50), rfl, (V.int e45.1), [(V.int e45.2)], rfl, (V.int e45.2), [], rfl, rfl, rfl, ?_⟩
      refine ⟨(V.int e45.1), rfl, (V.int y_behind16), rfl, _, _, rfl, rfl, _, rfl, ?_⟩
      refine andJT (M := M0) (F := F36) (c := ((decide (e45.1 < y_behind16)) && (decide (y_first11 < e45.2)))) (P := fun _ _ => True) (fun ha => ?_) (fun ha => ⟨(anF ha), trivial⟩) g039.fh ?_
      · intro Q58 q59
        refine ⟨(V.int y_first11), rfl, (V.int e45.2), rfl, _, _, rfl, rfl, _, rfl, (qTb ha (q59 _ _ (Gr.refl (M := M0) g039.fh) trivial))⟩
      intro F60 H61 g62 hB63
      have g64 := Gr.trans g039 g62
      have ow65 := owD41.gr0 g62
      refine (iteB (fun hc => ?_) (fun hc => ?_))
      · rw [if_pos hc] at hr44
        refine ⟨(V.int y_first11), rfl, (V.int e45.1), rfl, _, _, rfl, (V.int y_behind16), rfl, (V.int e45.2), rfl, _, _, rfl, (by show 2 ≤ sizeLine; decide), fun p66 np67 => ?_⟩
        have ne68 := ow65.ne np67
        have sm69 := same_new (o := (.tup [(V.int (if e45.1 > y_first11 then e45.1 else y_first11)), (V.int (if e45.2 < y_behind16 then e45.2 else y_behind16))])) (g64.noneF np67)
        have g70 := g64.frz (o := (.tup [(V.int (if e45.1 > y_first11 then e45.1 else y_first11)), (V.int (if e45.2 < y_behind16 then e45.2 else y_behind16))])) np67
        have ow71 := ow65.frz (o := (.tup [(V.int (if e45.1 > y_first11 then e45.1 else y_first11)), (V.int (if e45.2 < y_behind16 then e45.2 else y_behind16))])) np67
        have r72 : R K (upd F60 p66 (.tup [(V.int (if e45.1 > y_first11 then e45.1 else y_first11)), (V.int (if e45.2 < y_behind16 then e45.2 else y_behind16))])) (.ref p66) (((if e45.1 > y_first11 then e45.1 else y_first11), (if e45.2 < y_behind16 then e45.2 else y_behind16)) : (Int × Int)) := R.mk2 fzT (Rp.int (if e45.1 > y_first11 then e45.1 else y_first11)) (Rp.int (if e45.2 < y_behind16 then e45.2 else y_behind16))
        have hA73 : RL K (upd F60 p66 (.tup [(V.int (if e45.1 > y_first11 then e45.1 else y_first11)), (V.int (if e45.2 < y_behind16 then e45.2 else y_behind16))])) (acc37 ++ [(V.ref p66)]) (ds38 ++ [(((if e45.1 > y_first11 then e45.1 else y_first11), (if e45.2 < y_behind16 then e45.2 else y_behind16)) : (Int × Int))]) := RL.snoc (hA42.up (Same.trans g62.ff sm69)) r72
        refine ⟨acc37, ow71.h, (lt_line hi43 (List.getElem?_eq_some_iff.mp hx34).1 hl_y_some), ?_⟩
        have g74 := g70.put (o := (.lst (acc37 ++ [(V.ref p66)]))) ow71
        have ow75 := ow71.put (us := (acc37 ++ [(V.ref p66)]))
        exact ⟨(upd F60 p66 (.tup [(V.int (if e45.1 > y_first11 then e45.1 else y_first11)), (V.int (if e45.2 < y_behind16 then e45.2 else y_behind16))])), (acc37 ++ [(V.ref p66)]), (ds38 ++ [((if e45.1 > y_first11 then e45.1 else y_first11), (if e45.2 < y_behind16 then e45.2 else y_behind16))]), g74, (Same.trans sm40 (Same.trans g62.ff sm69)), ow75, hA73, (by rw [List.length_append]; exact Nat.succ_le_succ hi43), (snoc_rest hr44)⟩
      · rw [if_neg (ne_true_of_eq_false hc)] at hr44
        exact ⟨F60, acc37, ds38, g64, (Same.trans sm40 g62.ff), ow65, (hA42.up g62.ff), (Nat.le_succ_of_le hi43), hr44⟩
    intro H76 hP
    obtain ⟨F77, acc78, ds79, g081, sm82, owD83, hA84, hi85, hr86⟩ := hP
    rw [drop_end (RL.len hA_y_some)] at hr86
    rw [m_l_leaves_c1.eq_1, List.append_nil] at hr86
    obtain rfl := hr86
    have hl87 : acc78.length ≤ sizeLine := Nat.le_trans hi85 hl_y_some
    obtain ⟨y_here88, hb89, hm⟩ := bnd hm
    have hx90 : (m_l_leaves_c1 rec_ y_first11 y_behind16 y_some) = y_here88 := sjoin hb89
    have hA91 : RL K F77 acc78 y_here88 := RL.re hx90 hA84
    refine p_name ?_
    refine p_nx ?_
    refine p_seq ?_
    refine p_asg ?_
    refine ⟨(V.ref D18), rfl, D18, rfl, ⟨_, owD83.sq⟩, fun D92 nD93 => ?_⟩
    have ne94 := owD83.ne nD93
    have g95 := g081.own (o := (.lst [])) nD93
    have ow96 := owD83.own (o := (.lst [])) nD93
    have ow97 : Ow H0 F77 (upd H76 D92 (.lst [])) D92 [] := Ow.new g081 nD93
    refine lc_list (K := K) (a := D18) (xs := acc78) (fun i H' => ∃ (F' : Hp) (acc : List V) (ds : List Int), Gr M0 F0 H0 F' H' ∧ Same F77 F' ∧ Ow H0 F' H' D92 acc ∧ RL K F' acc ds ∧ acc.length ≤ i ∧ Ow H0 F' H' D18 acc78 ∧ ds ++ m_l_leaves_c2 rec_  (y_here88.drop i) = (m_l_leaves_c2 rec_  y_here88)) ?_ ?_ ?_ ?_
    · exact ⟨F77, [], [], g95, Same.refl _, ow97, RpA.nil, Nat.le_refl _, ow96, rfl⟩
    · intro i H' _ hP
      obtain ⟨F99, acc100, ds101, g0102, sm103, owD104, hA105, hi106, ow0107, hr108⟩ := hP
      exact ow0107.sq
    · intro i110 xv109 H112 hx111 hP
      obtain ⟨F113, acc114, ds115, g0116, sm117, owD118, hA119, hi120, ow0121, hr122⟩ := hP
      obtain ⟨e123, he124, r125⟩ := RL.get (hA91.up sm117) hx111
      rw [drop_at he124, m_l_leaves_c2.eq_2] at hr122
      obtain ⟨p126, v129, v130, ev127, hS128, r131, r132⟩ := R.p2_v r125
      obtain rfl := R.int_v r131
      obtain rfl := R.int_v r132
      refine ⟨p126, [(V.int e123.1), (V.int e123.2)], ev127, (SqT_mono g0116.fh hS128), rfl, (V.int e123.1), [(V.int e123.2)], rfl, (V.int e123.2), [], rfl, rfl, rfl, (p_yes ?_)⟩
      have hA133 : RL K F113 (acc114 ++ [(V.int (e123.2 - e123.1))]) (ds115 ++ [((e123.2 - e123.1) : Int)]) := RL.snoc hA119 (Rp.int (e123.2 - e123.1))
      refine ⟨(V.int e123.2), rfl, (V.int e123.1), rfl, _, _, rfl, rfl, acc114, owD118.h, (lt_line hi120 (List.getElem?_eq_some_iff.mp hx111).1 hl87), ?_⟩
      have g134 := g0116.put (o := (.lst (acc114 ++ [(V.int (e123.2 - e123.1))]))) owD118
      have ow135 := ow0121.other (o := (.lst (acc114 ++ [(V.int (e123.2 - e123.1))]))) ne94
      have ow136 := owD118.put (us := (acc114 ++ [(V.int (e123.2 - e123.1))]))
      exact ⟨F113, (acc114 ++ [(V.int (e123.2 - e123.1))]), (ds115 ++ [(e123.2 - e123.1)]), g134, sm117, ow136, hA133, (by rw [List.length_append]; exact Nat.succ_le_succ hi120), ow135, (snoc_rest hr122)⟩
    intro H137 hP
    obtain ⟨F138, acc139, ds140, g0142, sm143, owD144, hA145, hi146, ow0147, hr148⟩ := hP
    rw [drop_end (RL.len hA91)] at hr148
    rw [m_l_leaves_c2.eq_1, List.append_nil] at hr148
    obtain rfl := hr148
    have hl149 : acc139.length ≤ sizeLine := Nat.le_trans hi146 hl87
    refine ⟨D92, (m_l_leaves_c2 rec_  y_here88), rfl, (by rw [← RL.ints hA145]; exact owD144.sq), ?_⟩
    obtain ⟨y_held150, hb151, hm⟩ := bnd hm
    have hx152 : ((m_l_leaves_c2 rec_  y_here88)).sum = y_held150 := sjoin hb151
    refine p_nm (v' := (V.int y_held150)) (congrArg V.int hx152) ?_
    refine p_nx ?_
    refine p_seq ?_
    refine p_if ?_
    refine ⟨(V.int y_held150), rfl, rfl, _, rfl, ?_⟩
    refine orJT (M := M0) (F := F138) (c := ((eqI y_held150 (0 : Int)) || (decide (y_left < (0 : Int))))) (P := fun _ _ => True) (fun ha => ?_) (fun ha => ⟨(orTt ha), trivial⟩) g0142.fh ?_
    · intro Q156 q157
      refine ⟨(V.int y_left), rfl, _, _, rfl, rfl, _, rfl, (qOb ha (q157 _ _ (Gr.refl (M := M0) g0142.fh) trivial))⟩
    intro F158 H159 g160 hB161
    have g162 := Gr.trans g0142 g160
    have ow163 := ow0147.gr0 g160
    have ow164 := owD144.gr0 g160
    refine (iteB (fun hc => ?_) (fun hc => ?_))
    · have hm := ifT hc hm
      refine p_ret ?_
      refine ⟨(by show 0 ≤ sizeLine; decide), fun p165 np166 => ?_⟩
      have ne167 := ow163.ne np166
      have ne168 := ow164.ne np166
      have g169 := g162.own (o := (.lst [])) np166
      have ow170 := ow163.own (o := (.lst [])) np166
      have ow171 := ow164.own (o := (.lst [])) np166
      have ow172 : Ow H0 F158 (upd H159 p165 (.lst [])) p165 [] := Ow.new g162 np166
      obtain rfl := sjoin hm
      exact (hQ _ _ _ _ g169 ow172.n0 ow172.h ow172.nF (by show 0 ≤ sizeLine; decide) RpA.nil)
    · have hm := ifF hc hm
      refine p_next ?_
      refine p_nx ?_
      refine p_seq ?_
      refine p_if ?_
      refine ⟨(V.int y_held150), rfl, (V.int y_behind16), rfl, (V.int y_first11), rfl, _, _, rfl, rfl, rfl, _, rfl, (iteB (fun hc => ?_) (fun hc => ?_))⟩
      · have hm := ifT hc hm
        refine p_ret ?_
        obtain ⟨t174, hb175, hm⟩ := bnd hm
        obtain ⟨hk176, rfl⟩ := mulS_ok hb175
        obtain ⟨t177, hb178, hm⟩ := bnd hm
        obtain ⟨hk179, rfl⟩ := catS_ok hb178
        refine ⟨(V.str y_bits_here), rfl, (V.int y_left), rfl, _, _, rfl, rfl, _, rfl, _, _, rfl, rfl, hk176, _, _, rfl, rfl, hk179, (by show 1 ≤ sizeLine; decide), fun p180 np181 => ?_⟩
        have ne182 := ow163.ne np181
        have ne183 := ow164.ne np181
        have g184 := g162.own (o := (.lst [(V.str (y_bits_here ++ (Txt.mul ("*" : Str) (toI (decide ((0 : Int) < y_left))))))])) np181
        have ow185 := ow163.own (o := (.lst [(V.str (y_bits_here ++ (Txt.mul ("*" : Str) (toI (decide ((0 : Int) < y_left))))))])) np181
        have ow186 := ow164.own (o := (.lst [(V.str (y_bits_here ++ (Txt.mul ("*" : Str) (toI (decide ((0 : Int) < y_left))))))])) np181
        have ow187 : Ow H0 F158 (upd H159 p180 (.lst [(V.str (y_bits_here ++ (Txt.mul ("*" : Str) (toI (decide ((0 : Int) < y_left))))))])) p180 [(V.str (y_bits_here ++ (Txt.mul ("*" : Str) (toI (decide ((0 : Int) < y_left))))))] := Ow.new g162 np181
        have hA188 : RL K F158 [(V.str (y_bits_here ++ (Txt.mul ("*" : Str) (toI (decide ((0 : Int) < y_left))))))] ([(y_bits_here ++ (Txt.mul ("*" : Str) (toI (decide ((0 : Int) < y_left)))))] : List Str) := (RpA.cons (Rp.str (y_bits_here ++ (Txt.mul ("*" : Str) (toI (decide ((0 : Int) < y_left))))) (GS.cat gs_y_bits_here (GS.mul ⟨by decide +kernel, by decide +kernel⟩ hb175) hb178)) RpA.nil)
        obtain rfl := sjoin hm
        exact (hQ _ _ _ _ g184 ow187.n0 ow187.h ow187.nF (by show 1 ≤ sizeLine; decide) hA188)
      · have hm := ifF hc hm
        refine p_next ?_
        refine p_nx ?_
        refine p_ret ?_
        obtain ⟨t189, hb190, hm⟩ := bnd hm
        obtain ⟨hk191, rfl⟩ := catS_ok hb190
        obtain ⟨r192, hb193, hm⟩ := bnd hm
        refine ⟨(V.ref D18), rfl, (V.str y_bits_here), rfl, _, _, rfl, rfl, hk191, (V.int y_left), rfl, _, _, rfl, rfl, F158, D18, acc78, y_here88, (y_bits_here ++ ("0" : Str)), (y_left - (1 : Int)), r192, rfl, g162.fh, ow163.sq, hl87, (hA91.up (Same.trans sm143 g160.ff)), id, (GS.cat gs_y_bits_here ⟨by decide +kernel, by decide +kernel⟩ hb190), hb193, fun p197 ws198 F194 H195 g196 np199 h200 nF201 hl202 hA203 => ?_⟩
        have ne204 := ow163.ne np199
        have ne205 := ow164.ne np199
        have n0206 := g162.none0 np199
        have g207 := Gr.trans g162 g196
        have ow208 := ow163.gr0 g196
        have ow209 := ow164.gr0 g196
        have ow210 : Ow H0 F194 H195 p197 ws198 := ⟨h200, nF201, n0206⟩
        obtain ⟨t211, hb212, hm⟩ := bnd hm
        obtain ⟨hk213, rfl⟩ := catS_ok hb212
        obtain ⟨r214, hb215, hm⟩ := bnd hm
        refine ⟨(V.ref D18), rfl, (V.str y_bits_here), rfl, _, _, rfl, rfl, hk213, (V.int y_left), rfl, _, _, rfl, rfl, F194, D18, acc78, y_here88, (y_bits_here ++ ("1" : Str)), (y_left - (1 : Int)), r214, rfl, g207.fh, ow208.sq, hl87, (hA91.up (Same.trans sm143 (Same.trans g160.ff g196.ff))), id, (GS.cat gs_y_bits_here ⟨by decide +kernel, by decide +kernel⟩ hb212), hb215, fun p219 ws220 F216 H217 g218 np221 h222 nF223 hl224 hA225 => ?_⟩
        have ne226 := ow208.ne np221
        have ne227 := ow209.ne np221
        have ne228 := ow210.ne np221
        have n0229 := g207.none0 np221
        have g230 := Gr.trans g207 g218
        have ow231 := ow208.gr0 g218
        have ow232 := ow209.gr0 g218
        have ow233 := ow210.gr0 g218
        have ow234 : Ow H0 F216 H217 p219 ws220 := ⟨h222, nF223, n0229⟩
        obtain ⟨t235, hb236, hm⟩ := bnd hm
        obtain ⟨hk237, rfl⟩ := conL_ok hb236
        have hz240 : (ws198 ++ ws220).length ≤ sizeLine := by rw [List.length_append, RL.len (hA203.up g218.ff), RL.len hA225]; exact hk237
        refine ⟨p197, p219, ws198, ws220, rfl, rfl, ow233.sq, ow234.sq, (by rw [RL.len (hA203.up g218.ff), RL.len hA225]; exact hk237), fun p238 np239 => ?_⟩
        have hA241 := RL.app (hA203.up g218.ff) hA225
        have ne243 := ow231.ne np239
        have ne244 := ow232.ne np239
        have ne245 := ow233.ne np239
        have ne246 := ow234.ne np239
        have g247 := g230.own (o := (.lst (ws198 ++ ws220))) np239
        have ow248 := ow231.own (o := (.lst (ws198 ++ ws220))) np239
        have ow249 := ow232.own (o := (.lst (ws198 ++ ws220))) np239
        have ow250 := ow233.own (o := (.lst (ws198 ++ ws220))) np239
        have ow251 := ow234.own (o := (.lst (ws198 ++ ws220))) np239
        have ow252 : Ow H0 F216 (upd H217 p238 (.lst (ws198 ++ ws220))) p238 (ws198 ++ ws220) := Ow.new g230 np239
        obtain rfl := sjoin hm
        exact (hQ _ _ _ _ g247 ow252.n0 ow252.h ow252.nF hz240 hA241)
theorem okA_l_leaves {P : Program} {w : World} {K : PySem.W.Frag} {mg : Str → Option Value} {base : Heap} (T : Txt K mg) : ∀ n_ : Nat, FnOk P w K mg base CX0 (1 + n_) T.a_l_leaves T.d_l_leaves ["_law_some", "_law_bits_here", "_law_left"] (spR_l_leaves (m_l_leaves n_) K)
  | 0 => ⟨fun vs H Q E h => by
      obtain ⟨_, _, _, _, _, _, _, rfl, _⟩ := h
      rfl, fun A outer s H args us vs Q E hr he hb hv h => by
      obtain ⟨_, _, _, _, _, _, _, _, _, _, _, _, _, _, hm, _⟩ := h
      cases hm⟩
  | n_ + 1 => okS_l_leaves T (1 + n_) (Nat.le_add_right _ _) (m_l_leaves n_) (okA_l_leaves T n_)
theorem ok_l_leaves {P : Program} {w : World} {K : PySem.W.Frag} {mg : Str → Option Value} {base : Heap} (T : Txt K mg) : FnOk P w K mg base CX0 41 T.a_l_leaves T.d_l_leaves ["_law_some", "_law_bits_here", "_law_left"] (sp_l_leaves K) := okA_l_leaves T 40
end K04
namespace K04
open PySem PySem.Spec PyProof.Rows L2 TL G
theorem ok_law {P : Program} {w : World} {K : PySem.W.Frag} {mg : Str → Option Value} {base : Heap} (T : Txt K mg) (hlaw : ∀ b : Bag, BOk b → ∃ b', m_law b = some (true, b')) : FnOk P w K mg base CX0 42 T.a_law T.d_law ["_law_script"] (sp_law K) := by
  have G_l_bag : FnOk P w K mg base CX0 1 T.a_l_bag T.d_l_bag ["_law_script"] (sp_l_bag K) := ok_l_bag T
  have b_l_bag := T.F_l_bag.bindsN (ps := ["_law_script"]) fun _ _ _ _ _ _ us hl => match us, hl with | [_], _ => rfl
  have G_l_size : FnOk P w K mg base CX0 2 T.a_l_size T.d_l_size ["_law_bag_here"] (sp_l_size K) := ok_l_size T
  have b_l_size := T.F_l_size.bindsN (ps := ["_law_bag_here"]) fun _ _ _ _ _ _ us hl => match us, hl with | [_], _ => rfl
  have G_l_stretches : FnOk P w K mg base CX0 3 T.a_l_stretches T.d_l_stretches ["_law_bag_here", "_law_size_here"] (sp_l_stretches K) := ok_l_stretches T
  have b_l_stretches := T.F_l_stretches.bindsN (ps := ["_law_bag_here", "_law_size_here"]) fun _ _ _ _ _ _ us hl => match us, hl with | [_, _], _ => rfl
  have G_l_leaves : FnOk P w K mg base CX0 41 T.a_l_leaves T.d_l_leaves ["_law_some", "_law_bits_here", "_law_left"] (sp_l_leaves K) := ok_l_leaves T
  have b_l_leaves := T.F_l_leaves.bindsN (ps := ["_law_some", "_law_bits_here", "_law_left"]) fun _ _ _ _ _ _ us hl => match us, hl with | [_, _, _], _ => rfl
  have G_cover : FnOk P w K mg base CX0 2 T.a_cover T.d_cover ["spans", "width"] (sp_cover K) := ok_cover T
  have b_cover := T.F_cover.bindsN (ps := ["spans", "width"]) fun _ _ _ _ _ _ us hl => match us, hl with | [_, _], _ => rfl
  have G_l_alike : FnOk P w K mg base CX0 9 T.a_l_alike T.d_l_alike ["_law_found", "_law_due"] (sp_alike 8 K) := ok_l_alike T 9
  have b_l_alike := T.F_l_alike.bindsN (ps := ["_law_found", "_law_due"]) fun _ _ _ _ _ _ us hl => match us, hl with | [_, _], _ => rfl
  refine fd_ok T.F_law sc_law (fun vs H Q E h => ?_) (fun cdv A outer s H0 vs Q E hr h => ?_)
  · obtain ⟨_, _, rfl, _⟩ := h
    rfl
  · obtain ⟨a_, ns_, rfl, hS_, hl_, hQ_⟩ := h
    refine ⟨_, (pss_cons (ps_set (i := 1) sc_law.nd rfl (.inl rfl) (pe_call G_l_bag (hr.mono (by decide)) (by rfl) T.g_l_bag T.F_l_bag.kp b_l_bag .nil pass0 (pa_cons (pv 0) pa_nil))) (pss_cons (ps_set (i := 2) sc_law.nd rfl (.inl rfl) (pe_call G_l_size (hr.mono (by decide)) (by rfl) T.g_l_size T.F_l_size.kp b_l_size .nil pass0 (pa_cons (pv 1) pa_nil))) (pss_cons (ps_for PassesOwn.never rfl (pi_range1 (by rfl) T.n_range (pa_cons pe_int pa_nil)) (pg_name (i := 3) sc_law.nd rfl (Or.inl rfl)) (pss_cons (ps_set (i := 4) sc_law.nd rfl (.inl rfl) (pe_call G_l_stretches (hr.mono (by decide)) (by rfl) T.g_l_stretches T.F_l_stretches.kp b_l_stretches .nil pass0 (pa_cons (pv 1) (pa_cons (pv 2) pa_nil)))) (pss_cons (ps_set (i := 5) sc_law.nd rfl (.inl rfl) (pe_callTy (call_list_of_ (K := K)) (by rfl) T.n_list (by decide +kernel) (pa_cons (pv 4) pa_nil))) (pss_cons (ps_set (i := 6) sc_law.nd rfl (.inl rfl) (pe_call G_l_leaves (hr.mono (by decide)) (by rfl) T.g_l_leaves T.F_l_leaves.kp b_l_leaves .nil pass0 (pa_cons (pv 4) (pa_cons pe_str (pa_cons (pv 2) pa_nil))))) (pss_cons (ps_set (i := 7) sc_law.nd rfl (.inl rfl) (pe_call G_cover (hr.mono (by decide)) (by rfl) T.g_cover T.F_cover.kp b_cover .nil pass0 (pa_cons (pv 5) (pa_cons (pv 2) pa_nil)))) (pss_cons (ps_if (PW.pt (pw_or (pt_not (pt_val (pe_call G_l_alike (hr.mono (by decide)) (by rfl) T.g_l_alike T.F_l_alike.kp b_l_alike .nil pass0 (pa_cons (pv 7) (pa_cons (pv 6) pa_nil))))) (pw_or1 (pt_cmpR (op_neDK (K := K) hr.units) (pv 5) (pv 4) (nomark _))))) (pss_one (ps_ret pe_bl)) pss_nil) (pss_cons (ps_expr (pe_bmK (K := K) PySem.F.plainAttrs_list PySem.F.slot_list_append PySem.F.type_list_append mt_append (pv 7) (pa_cons pe_str pa_nil))) (pss_one (ps_if (pt_not (pt_val (pe_call G_l_alike (hr.mono (by decide)) (by rfl) T.g_l_alike T.F_l_alike.kp b_l_alike .nil pass0 (pa_cons (pe_callK0 G_cover (hr.mono (by decide)) (by rfl) T.g_cover T.F_cover.kp (kb_cover_0 T.F_cover) pass0 (pk_cons (pv 2) (pk_cons (pv 5) pk_nil))) (pa_cons (pv 6) pa_nil))))) (pss_one (ps_ret pe_bl)) pss_nil))))))))) (pss_cons (ps_if (PW.pt (pw_or (pt_cmpR (op_neDK (K := K) hr.units) (pe_call G_cover (hr.mono (by decide)) (by rfl) T.g_cover T.F_cover.kp b_cover .nil pass0 (pa_cons (pe_lst pa_nil) (pa_cons pe_int pa_nil))) (pe_lst pa_nil) (nomark _)) (pw_or (pt_cmpR (op_neDK (K := K) hr.units) (pe_call G_cover (hr.mono (by decide)) (by rfl) T.g_cover T.F_cover.kp b_cover .nil pass0 (pa_cons (pe_lst (pa_cons (pe_tup (pa_cons pe_int (pa_cons pe_int pa_nil))) (pa_cons (pe_tup (pa_cons pe_int (pa_cons pe_int pa_nil))) pa_nil))) (pa_cons pe_int pa_nil))) (pe_lst (pa_cons pe_str pa_nil)) (nomark _)) (pw_or1 (pt_cmpR (op_neDK (K := K) hr.units) (pe_call G_cover (hr.mono (by decide)) (by rfl) T.g_cover T.F_cover.kp b_cover .nil pass0 (pa_cons (pe_lst (pa_cons (pe_tup (pa_cons pe_int (pa_cons (pe_op op_shl pe_int pe_int) pa_nil))) pa_nil)) (pa_cons pe_int pa_nil))) (pe_lst (pa_cons pe_str pa_nil)) (nomark _)))))) (pss_one (ps_ret pe_bl)) pss_nil) (pss_one (ps_ret (pe_cmpR (op_eqDK (K := K) hr.units) (pe_call G_cover (hr.mono (by decide)) (by rfl) T.g_cover T.F_cover.kp b_cover .nil pass0 (pa_cons (pe_lst (pa_cons (pe_tup (pa_cons pe_int (pa_cons pe_int pa_nil))) pa_nil)) (pa_cons pe_int pa_nil))) (pe_lst (pa_cons pe_str (pa_cons pe_str (pa_cons pe_str (pa_cons pe_str pa_nil))))) (nomark _)))))))), ?_⟩
    refine p_seq ?_
    refine p_asg ?_
    refine ⟨_, rfl, a_, ns_, rfl, hS_, hl_, fun B C b F0 H0 hS0 hB hb_ => ?_⟩
    refine p_name ?_
    refine p_nx ?_
    obtain ⟨b_, hm⟩ := hlaw b hb_
    have hQ : ∀ F' H', Gr (Bc B C) F0 H0 F' H' → BagAt F' H' B C b_ → Q (.bl true) H' := fun _ H' _ _ => hQ_ H'
    have g0 : Gr (Bc B C) F0 H0 F0 H0 := Gr.refl hS0
    unfold m_law at hm
    refine p_seq ?_
    refine p_asg ?_
    obtain ⟨r1, b2, hb3, hm⟩ := bnd2 hm
    refine ⟨(V.ref B), rfl, F0, B, C, b, r1, b2, rfl, g0.fh, hB, hb3, fun F4 H5 g6 hB7 => ?_⟩
    have g9 := Gr.trans g0 g6
    refine p_name ?_
    refine p_nx ?_
    refine p_seq ?_
    refine p_for ?_
    refine ⟨_, rfl, (by decide), (by decide), ?_⟩
    obtain ⟨l11, ht12, hm⟩ := bndL1 hm
    refine for_range (lo := (0 : Int)) (n := (3 : Nat)) (fun i σ' H' => ∃ (F' : Hp) (o_y_k : Option V) (o_y_some : Option V) (o_y_handed : Option V) (o_y_due : Option V) (o_y_told : Option V) (b : Bag), σ' = [(some (V.ref a_)), (some (V.ref B)), (some (V.int r1)), o_y_k, o_y_some, o_y_handed, o_y_due, o_y_told] ∧ Gr (Bc B C) F0 H0 F' H' ∧ Same F4 F' ∧ BagAt F' H' B C b ∧ m_law_l1 r1 ((rangeL (0 : Int) 3).drop i) b = some l11) ?_ ?_ ?_
    · exact ⟨F4, none, none, none, none, none, b2, rfl, g9, (Same.refl _), hB7, ht12⟩
    · intro i13 σ' H15 hx14 hP
      obtain ⟨F17, o_y_k18, o_y_some19, o_y_handed20, o_y_due21, o_y_told22, b23, rfl, g24, sm25, hB26, hm27⟩ := hP
      have he29 := rangeL_at (lo := (0 : Int)) hx14
      rw [drop_at he29, m_law_l1.eq_2] at hm27
      refine p_name ?_
      refine p_seq ?_
      refine p_asg ?_
      obtain ⟨r30, b31, hb32, hm27⟩ := bnd2 hm27
      refine ⟨(V.ref B), rfl, (V.int r1), rfl, F17, B, C, b23, r1, r30, b31, rfl, g24.fh, hB26, hb32, fun p37 ws38 F33 H34 g35 hB36 np39 h40 nF41 hl42 hA43 => ?_⟩
      have nb44 := hB26.nb np39
      have n045 := g24.none0 np39
      have g46 := Gr.trans g24 g35
      have ow47 : Ow H0 F33 H34 p37 ws38 := ⟨h40, nF41, n045⟩
      refine p_name ?_
      refine p_nx ?_
      refine p_seq ?_
      refine p_asg ?_
      refine ⟨(V.ref p37), rfl, p37, ws38, rfl, (.inl ow47.sq), fun p48 np49 => ?_⟩
      have hA50 := hA43
      have ne51 := ow47.ne np49
      have nb52 := hB36.nb np49
      have g53 := g46.own (o := (.lst ws38)) np49
      have ow54 := ow47.own (o := (.lst ws38)) np49
      have hB55 := hB36.own (o := (.lst ws38)) np49
      have ow56 : Ow H0 F33 (upd H34 p48 (.lst ws38)) p48 ws38 := Ow.new g46 np49
      refine p_name ?_
      refine p_nx ?_
      refine p_seq ?_
      refine p_asg ?_
      obtain ⟨r57, hb58, hm27⟩ := bnd hm27
      refine ⟨(V.ref p37), rfl, (V.int r1), rfl, F33, p37, ws38, r30, ("" : Str), r1, r57, rfl, g53.fh, ow54.sq, hl42, hA43, id, ⟨by decide +kernel, by decide +kernel⟩, hb58, fun p62 ws63 F59 H60 g61 np64 h65 nF66 hl67 hA68 => ?_⟩
      have ne69 := ow54.ne np64
      have ne70 := ow56.ne np64
      have nb71 := hB55.nb np64
      have n072 := g53.none0 np64
      have g73 := Gr.trans g53 (Gr.of0 g61)
      have ow74 := ow54.gr0 g61
      have ow75 := ow56.gr0 g61
      have hB76 := hB55.gr0 g61
      have ow77 : Ow H0 F59 H60 p62 ws63 := ⟨h65, nF66, n072⟩
      refine p_name ?_
      refine p_nx ?_
      refine p_seq ?_
      refine p_asg ?_
      obtain ⟨r78, hb79, hm27⟩ := bnd hm27
      refine ⟨(V.ref p48), rfl, (V.int r1), rfl, F59, p48, ws38, r30, r1, r78, rfl, g73.fh, ow75.sq, hl42, (hA50.up g61.ff), id, hb79, fun p83 ws84 F80 H81 g82 np85 h86 nF87 hl88 hA89 => ?_⟩
      have ne90 := ow74.ne np85
      have ne91 := ow75.ne np85
      have ne92 := ow77.ne np85
      have nb93 := hB76.nb np85
      have n094 := g73.none0 np85
      have g95 := Gr.trans g73 (Gr.of0 g82)
      have ow96 := ow74.gr0 g82
      have ow97 := ow75.gr0 g82
      have ow98 := ow77.gr0 g82
      have hB99 := hB76.gr0 g82
      have ow100 : Ow H0 F80 H81 p83 ws84 := ⟨h86, nF87, n094⟩
      refine p_name ?_
      refine p_nx ?_
      refine p_seq ?_
      refine p_if ?_
      have rH101 : R K H81 (V.ref p83) r78 := (R.mkl ow100.sq hl88 (RpA.up hA89 g95.fh))
      have rH102 : R K H81 (V.ref p62) r57 := (R.mkl ow98.sq hl67 (RpA.up (hA68.up g82.ff) g95.fh))
      obtain ⟨r103, hb105, hm27⟩ := bnd hm27
      obtain ⟨hxy104, rfl⟩ := alike_ok hb105
      refine ⟨(V.ref p83), rfl, (V.ref p62), rfl, (V.ref p83), (V.ref p62), _, rfl, rH101, (R.of_eq hxy104 rH102), (Nat.le_trans (Dep.le (r78 : (List Str))) (by decide)), fun F106 H107 g108 => ?_⟩
      have g109 := Gr.apart g95 g108
      have ow110 := ow96.apart g108
      have ow111 := ow97.apart g108
      have ow112 := ow98.apart g108
      have ow113 := ow100.apart g108
      have hB114 := hB99.apart g108
      refine ⟨_, rfl, ?_⟩
      refine orJT (M := M0) (F := F80) (c := ((!true) || (!eqD r30 r30))) (P := fun _ _ => True) (fun ha => ?_) (fun ha => ⟨(orTt ha), trivial⟩) g109.fh ?_
      · intro Q118 q119
        have rH120 : R K H107 (V.ref p48) r30 := (R.mkl ow111.sq hl42 (RpA.up (hA50.up (Same.trans g61.ff g82.ff)) g109.fh))
        have rH121 : R K H107 (V.ref p37) r30 := (R.mkl ow110.sq hl42 (RpA.up (hA43.up (Same.trans g61.ff g82.ff)) g109.fh))
        refine ⟨(V.ref p48), rfl, (V.ref p37), rfl, _, _, (Rp.dp _ _ rH120), (Rp.dp _ _ rH121), (R.shaped rH120), (R.shaped rH121), _, rfl, (qOb ha (q119 _ _ (Gr.refl (M := M0) g109.fh) trivial))⟩
      intro F122 H123 g124 hB125
      have g126 := Gr.trans g109 (Gr.of0 g124)
      have ow127 := ow110.gr0 g124
      have ow128 := ow111.gr0 g124
      have ow129 := ow112.gr0 g124
      have ow130 := ow113.gr0 g124
      have hB131 := hB114.gr0 g124
      refine (iteB (fun hc => ?_) (fun hc => ?_))
      · have hm27 := ifT hc hm27
        refine p_ret ?_
        obtain rfl := sjoin hm27
        have hm := bret hm
        obtain ⟨he132, rfl⟩ := pjoin hm
        exact absurd he132 (by decide)
      · have hm27 := ifF hc hm27
        refine p_next ?_
        refine p_nx ?_
        refine p_seq ?_
        refine p_drop ?_
        obtain ⟨t133, hb134, hm27⟩ := bnd hm27
        obtain ⟨hk135, rfl⟩ := appL_ok hb134
        refine ⟨(V.ref p83), rfl, (.inl ⟨rfl, _, ow130.sq⟩), p83, ws84, (V.str ("*" : Str)), rfl, rfl, ow130.h, (by rw [RL.len (hA89.up g124.ff)]; exact hk135), ?_⟩
        have hA136 : RL K F122 (ws84 ++ [(V.str ("*" : Str))]) (r78 ++ [(("*" : Str) : Str)]) := RL.snoc (hA89.up g124.ff) (Rp.str ("*" : Str) ⟨by decide +kernel, by decide +kernel⟩)
        have hl137 : (ws84 ++ [(V.str ("*" : Str))]).length ≤ sizeLine := by rw [List.length_append, RL.len (hA89.up g124.ff)]; exact hk135
        have g138 := g126.put (o := (.lst (ws84 ++ [(V.str ("*" : Str))]))) ow130
        have ow139 := ow127.other (o := (.lst (ws84 ++ [(V.str ("*" : Str))]))) ne90
        have ow140 := ow128.other (o := (.lst (ws84 ++ [(V.str ("*" : Str))]))) ne91
        have ow141 := ow129.other (o := (.lst (ws84 ++ [(V.str ("*" : Str))]))) ne92
        have hB142 := hB131.other (o := (.lst (ws84 ++ [(V.str ("*" : Str))]))) nb93
        have ow143 := ow130.put (us := (ws84 ++ [(V.str ("*" : Str))]))
        refine p_nx ?_
        refine p_if ?_
        obtain ⟨r144, hb145, hm27⟩ := bnd hm27
        refine ⟨(V.int r1), rfl, (V.ref p48), rfl, F122, p48, ws38, r30, r1, r144, rfl, g138.fh, ow140.sq, hl42, (hA50.up (Same.trans g61.ff (Same.trans g82.ff g124.ff))), id, hb145, fun p149 ws150 F146 H147 g148 np151 h152 nF153 hl154 hA155 => ?_⟩
        have ne156 := ow139.ne np151
        have ne157 := ow140.ne np151
        have ne158 := ow141.ne np151
        have ne159 := ow143.ne np151
        have nb160 := hB142.nb np151
        have n0161 := g138.none0 np151
        have g162 := Gr.trans g138 (Gr.of0 g148)
        have ow163 := ow139.gr0 g148
        have ow164 := ow140.gr0 g148
        have ow165 := ow141.gr0 g148
        have ow166 := ow143.gr0 g148
        have hB167 := hB142.gr0 g148
        have ow168 : Ow H0 F146 H147 p149 ws150 := ⟨h152, nF153, n0161⟩
        have rH169 : R K H147 (V.ref p149) r144 := (R.mkl ow168.sq hl154 (RpA.up hA155 g162.fh))
        have rH170 : R K H147 (V.ref p62) r57 := (R.mkl ow165.sq hl67 (RpA.up (hA68.up (Same.trans g82.ff (Same.trans g124.ff g148.ff))) g162.fh))
        obtain ⟨r171, hb173, hm27⟩ := bnd hm27
        obtain ⟨hxy172, rfl⟩ := alike_ok hb173
        refine ⟨(V.ref p62), rfl, (V.ref p149), (V.ref p62), _, rfl, rH169, (R.of_eq hxy172 rH170), (Nat.le_trans (Dep.le (r144 : (List Str))) (by decide)), fun F174 H175 g176 => ?_⟩
        have g177 := Gr.apart g162 g176
        have ow178 := ow163.apart g176
        have ow179 := ow164.apart g176
        have ow180 := ow165.apart g176
        have ow181 := ow166.apart g176
        have ow182 := ow168.apart g176
        have hB183 := hB167.apart g176
        refine ⟨_, rfl, (iteB (fun hc => ?_) (fun hc => ?_))⟩
        · have hm27 := ifT hc hm27
          refine p_ret ?_
          obtain rfl := sjoin hm27
          have hm := bret hm
          obtain ⟨he184, rfl⟩ := pjoin hm
          exact absurd he184 (by decide)
        · have hm27 := ifF hc hm27
          refine p_next ?_
          exact ⟨F146, (some (V.int ((0 : Int) + ((i13 : Nat) : Int)))), (some (V.ref p37)), (some (V.ref p48)), (some (V.ref p62)), (some (V.ref p83)), b31, rfl, g177, (Same.trans sm25 (Same.trans g35.ff (Same.trans g61.ff (Same.trans g82.ff (Same.trans g124.ff g148.ff))))), hB183, hm27⟩
    intro σ185 H186 hP
    obtain ⟨F187, o_y_k188, o_y_some189, o_y_handed190, o_y_due191, o_y_told192, b193, rfl, g194, sm195, hB196, hm197⟩ := hP
    rw [drop_end (rangeL_len _ _).symm, m_law_l1.eq_1] at hm197
    obtain rfl := sjoin hm197
    have hm := bgo1 hm
    refine p_nx ?_
    refine p_seq ?_
    refine p_if ?_
    refine ⟨(by show 0 ≤ sizeLine; decide), fun p198 np199 => ?_⟩
    have nb200 := hB196.nb np199
    have g201 := g194.own (o := (.lst [])) np199
    have hB202 := hB196.own (o := (.lst [])) np199
    have ow203 : Ow H0 F187 (upd H186 p198 (.lst [])) p198 [] := Ow.new g194 np199
    obtain ⟨r205, hb206, hm⟩ := bnd hm
    refine ⟨F187, p198, [], ([] : (List (Int × Int))), (1 : Int), r205, rfl, g201.fh, ow203.sq, (by show 0 ≤ sizeLine; decide), RpA.nil, id, hb206, fun p210 ws211 F207 H208 g209 np212 h213 nF214 hl215 hA216 => ?_⟩
    have ne217 := ow203.ne np212
    have nb218 := hB202.nb np212
    have n0219 := g201.none0 np212
    have g220 := Gr.trans g201 (Gr.of0 g209)
    have ow221 := ow203.gr0 g209
    have hB222 := hB202.gr0 g209
    have ow223 : Ow H0 F207 H208 p210 ws211 := ⟨h213, nF214, n0219⟩
    refine ⟨(by show 0 ≤ sizeLine; decide), fun p224 np225 => ?_⟩
    have ne226 := ow221.ne np225
    have ne227 := ow223.ne np225
    have nb228 := hB222.nb np225
    have g229 := g220.own (o := (.lst [])) np225
    have ow230 := ow221.own (o := (.lst [])) np225
    have ow231 := ow223.own (o := (.lst [])) np225
    have hB232 := hB222.own (o := (.lst [])) np225
    have ow233 : Ow H0 F207 (upd H208 p224 (.lst [])) p224 [] := Ow.new g220 np225
    have rH235 : R K (upd H208 p224 (.lst [])) (V.ref p210) r205 := (R.mkl ow231.sq hl215 (RpA.up hA216 g229.fh))
    have rH236 : R K (upd H208 p224 (.lst [])) (V.ref p224) ([] : (List Str)) := (R.mkl ow233.sq (by show 0 ≤ sizeLine; decide) (RpA.up RpA.nil g229.fh))
    refine ⟨_, _, (Rp.dp _ _ rH235), (Rp.dp _ _ rH236), (R.shaped rH235), (R.shaped rH236), _, rfl, ?_⟩
    obtain ⟨c237, hc238, hm⟩ := bnd hm
    refine orJT (M := M0) (F := F207) (c := c237) (P := fun _ _ => True) (fun ha => ?_) (fun ha => ⟨(sjoin (ifT ha hc238)).symm, trivial⟩) g229.fh ?_
    · intro Q240 q241
      have hc238 := ifF ha hc238
      refine ⟨(by show 2 ≤ sizeLine; decide), fun p242 np243 => ?_⟩
      have ne244 := ow230.ne np243
      have ne245 := ow231.ne np243
      have ne246 := ow233.ne np243
      have nb247 := hB232.nb np243
      have sm248 := same_new (o := (.tup [(V.int (0 : Int)), (V.int (1 : Int))])) (g229.noneF np243)
      have g249 := g229.frz (o := (.tup [(V.int (0 : Int)), (V.int (1 : Int))])) np243
      have g250 := (Gr.refl (M := M0) g229.fh).frz (o := (.tup [(V.int (0 : Int)), (V.int (1 : Int))])) np243
      have ow251 := ow230.frz (o := (.tup [(V.int (0 : Int)), (V.int (1 : Int))])) np243
      have ow252 := ow231.frz (o := (.tup [(V.int (0 : Int)), (V.int (1 : Int))])) np243
      have ow253 := ow233.frz (o := (.tup [(V.int (0 : Int)), (V.int (1 : Int))])) np243
      have hB254 := hB232.frz (o := (.tup [(V.int (0 : Int)), (V.int (1 : Int))])) np243
      have r255 : R K (upd F207 p242 (.tup [(V.int (0 : Int)), (V.int (1 : Int))])) (.ref p242) (((0 : Int), (1 : Int)) : (Int × Int)) := R.mk2 fzT (Rp.int (0 : Int)) (Rp.int (1 : Int))
      refine ⟨(by show 2 ≤ sizeLine; decide), fun p256 np257 => ?_⟩
      have ne258 := ow251.ne np257
      have ne259 := ow252.ne np257
      have ne260 := ow253.ne np257
      have nb261 := hB254.nb np257
      have sm262 := same_new (o := (.tup [(V.int (1 : Int)), (V.int (2 : Int))])) (g249.noneF np257)
      have g263 := g249.frz (o := (.tup [(V.int (1 : Int)), (V.int (2 : Int))])) np257
      have g264 := g250.frz (o := (.tup [(V.int (1 : Int)), (V.int (2 : Int))])) np257
      have ow265 := ow251.frz (o := (.tup [(V.int (1 : Int)), (V.int (2 : Int))])) np257
      have ow266 := ow252.frz (o := (.tup [(V.int (1 : Int)), (V.int (2 : Int))])) np257
      have ow267 := ow253.frz (o := (.tup [(V.int (1 : Int)), (V.int (2 : Int))])) np257
      have hB268 := hB254.frz (o := (.tup [(V.int (1 : Int)), (V.int (2 : Int))])) np257
      have r269 : R K (upd (upd F207 p242 (.tup [(V.int (0 : Int)), (V.int (1 : Int))])) p256 (.tup [(V.int (1 : Int)), (V.int (2 : Int))])) (.ref p256) (((1 : Int), (2 : Int)) : (Int × Int)) := R.mk2 fzT (Rp.int (1 : Int)) (Rp.int (2 : Int))
      refine ⟨(by show 2 ≤ sizeLine; decide), fun p270 np271 => ?_⟩
      have ne272 := ow265.ne np271
      have ne273 := ow266.ne np271
      have ne274 := ow267.ne np271
      have nb275 := hB268.nb np271
      have g276 := g263.own (o := (.lst [(V.ref p242), (V.ref p256)])) np271
      have g277 := g264.own (o := (.lst [(V.ref p242), (V.ref p256)])) np271
      have ow278 := ow265.own (o := (.lst [(V.ref p242), (V.ref p256)])) np271
      have ow279 := ow266.own (o := (.lst [(V.ref p242), (V.ref p256)])) np271
      have ow280 := ow267.own (o := (.lst [(V.ref p242), (V.ref p256)])) np271
      have hB281 := hB268.own (o := (.lst [(V.ref p242), (V.ref p256)])) np271
      have ow282 : Ow H0 (upd (upd F207 p242 (.tup [(V.int (0 : Int)), (V.int (1 : Int))])) p256 (.tup [(V.int (1 : Int)), (V.int (2 : Int))])) (upd (upd (upd (upd H208 p224 (.lst [])) p242 (.tup [(V.int (0 : Int)), (V.int (1 : Int))])) p256 (.tup [(V.int (1 : Int)), (V.int (2 : Int))])) p270 (.lst [(V.ref p242), (V.ref p256)])) p270 [(V.ref p242), (V.ref p256)] := Ow.new g263 np271
      have hA283 : RL K (upd (upd F207 p242 (.tup [(V.int (0 : Int)), (V.int (1 : Int))])) p256 (.tup [(V.int (1 : Int)), (V.int (2 : Int))])) [(V.ref p242), (V.ref p256)] ([((0 : Int), (1 : Int)), ((1 : Int), (2 : Int))] : List (Int × Int)) := (RpA.cons (r255.up sm262) (RpA.cons r269 RpA.nil))
      obtain ⟨r284, hb285, hc238⟩ := bnd hc238
      refine ⟨(upd (upd F207 p242 (.tup [(V.int (0 : Int)), (V.int (1 : Int))])) p256 (.tup [(V.int (1 : Int)), (V.int (2 : Int))])), p270, [(V.ref p242), (V.ref p256)], ([((0 : Int), (1 : Int)), ((1 : Int), (2 : Int))] : List (Int × Int)), (1 : Int), r284, rfl, g276.fh, ow282.sq, (by show 2 ≤ sizeLine; decide), hA283, id, hb285, fun p289 ws290 F286 H287 g288 np291 h292 nF293 hl294 hA295 => ?_⟩
      have ne296 := ow278.ne np291
      have ne297 := ow279.ne np291
      have ne298 := ow280.ne np291
      have ne299 := ow282.ne np291
      have nb300 := hB281.nb np291
      have n0301 := g276.none0 np291
      have g302 := Gr.trans g276 (Gr.of0 g288)
      have g303 := Gr.trans g277 g288
      have ow304 := ow278.gr0 g288
      have ow305 := ow279.gr0 g288
      have ow306 := ow280.gr0 g288
      have ow307 := ow282.gr0 g288
      have hB308 := hB281.gr0 g288
      have ow309 : Ow H0 F286 H287 p289 ws290 := ⟨h292, nF293, n0301⟩
      refine ⟨(by show 1 ≤ sizeLine; decide), fun p310 np311 => ?_⟩
      have ne312 := ow304.ne np311
      have ne313 := ow305.ne np311
      have ne314 := ow306.ne np311
      have ne315 := ow307.ne np311
      have ne316 := ow309.ne np311
      have nb317 := hB308.nb np311
      have g318 := g302.own (o := (.lst [(V.str ("*" : Str))])) np311
      have g319 := g303.own (o := (.lst [(V.str ("*" : Str))])) np311
      have ow320 := ow304.own (o := (.lst [(V.str ("*" : Str))])) np311
      have ow321 := ow305.own (o := (.lst [(V.str ("*" : Str))])) np311
      have ow322 := ow306.own (o := (.lst [(V.str ("*" : Str))])) np311
      have ow323 := ow307.own (o := (.lst [(V.str ("*" : Str))])) np311
      have ow324 := ow309.own (o := (.lst [(V.str ("*" : Str))])) np311
      have hB325 := hB308.own (o := (.lst [(V.str ("*" : Str))])) np311
      have ow326 : Ow H0 F286 (upd H287 p310 (.lst [(V.str ("*" : Str))])) p310 [(V.str ("*" : Str))] := Ow.new g302 np311
      have hA327 : RL K F286 [(V.str ("*" : Str))] ([("*" : Str)] : List Str) := (RpA.cons (Rp.str ("*" : Str) ⟨by decide +kernel, by decide +kernel⟩) RpA.nil)
      have rH328 : R K (upd H287 p310 (.lst [(V.str ("*" : Str))])) (V.ref p289) r284 := (R.mkl ow324.sq hl294 (RpA.up hA295 g318.fh))
      have rH329 : R K (upd H287 p310 (.lst [(V.str ("*" : Str))])) (V.ref p310) ([("*" : Str)] : List Str) := (R.mkl ow326.sq (by show 1 ≤ sizeLine; decide) (RpA.up hA327 g318.fh))
      refine ⟨_, _, (Rp.dp _ _ rH328), (Rp.dp _ _ rH329), (R.shaped rH328), (R.shaped rH329), _, rfl, ?_⟩
      obtain ⟨c330, hc331, hc238⟩ := bnd hc238
      refine orJT (M := M0) (F := F286) (c := c330) (P := fun _ _ => True) (fun ha => ?_) (fun ha => ⟨(sjoin (ifT ha hc331)).symm, trivial⟩) g318.fh ?_
      · intro Q333 q334
        have hc331 := ifF ha hc331
        obtain ⟨t335, hb336, hc331⟩ := bnd hc331
        obtain ⟨hk337, rfl⟩ := shlI_ok hb336
        refine ⟨_, _, rfl, rfl, hk337, (by show 2 ≤ sizeLine; decide), fun p338 np339 => ?_⟩
        have ne340 := ow320.ne np339
        have ne341 := ow321.ne np339
        have ne342 := ow322.ne np339
        have ne343 := ow323.ne np339
        have ne344 := ow324.ne np339
        have ne345 := ow326.ne np339
        have nb346 := hB325.nb np339
        have sm347 := same_new (o := (.tup [(V.int (0 : Int)), (V.int ((1 : Int) * 2 ^ ((30 : Int)).toNat))])) (g318.noneF np339)
        have g348 := g318.frz (o := (.tup [(V.int (0 : Int)), (V.int ((1 : Int) * 2 ^ ((30 : Int)).toNat))])) np339
        have g349 := g319.frz (o := (.tup [(V.int (0 : Int)), (V.int ((1 : Int) * 2 ^ ((30 : Int)).toNat))])) np339
        have g350 := (Gr.refl (M := M0) g318.fh).frz (o := (.tup [(V.int (0 : Int)), (V.int ((1 : Int) * 2 ^ ((30 : Int)).toNat))])) np339
        have ow351 := ow320.frz (o := (.tup [(V.int (0 : Int)), (V.int ((1 : Int) * 2 ^ ((30 : Int)).toNat))])) np339
        have ow352 := ow321.frz (o := (.tup [(V.int (0 : Int)), (V.int ((1 : Int) * 2 ^ ((30 : Int)).toNat))])) np339
        have ow353 := ow322.frz (o := (.tup [(V.int (0 : Int)), (V.int ((1 : Int) * 2 ^ ((30 : Int)).toNat))])) np339
        have ow354 := ow323.frz (o := (.tup [(V.int (0 : Int)), (V.int ((1 : Int) * 2 ^ ((30 : Int)).toNat))])) np339
        have ow355 := ow324.frz (o := (.tup [(V.int (0 : Int)), (V.int ((1 : Int) * 2 ^ ((30 : Int)).toNat))])) np339
        have ow356 := ow326.frz (o := (.tup [(V.int (0 : Int)), (V.int ((1 : Int) * 2 ^ ((30 : Int)).toNat))])) np339
        have hB357 := hB325.frz (o := (.tup [(V.int (0 : Int)), (V.int ((1 : Int) * 2 ^ ((30 : Int)).toNat))])) np339
        have r358 : R K (upd F286 p338 (.tup [(V.int (0 : Int)), (V.int ((1 : Int) * 2 ^ ((30 : Int)).toNat))])) (.ref p338) (((0 : Int), ((1 : Int) * 2 ^ ((30 : Int)).toNat)) : (Int × Int)) := R.mk2 fzT (Rp.int (0 : Int)) (Rp.int ((1 : Int) * 2 ^ ((30 : Int)).toNat))
        refine ⟨(by show 1 ≤ sizeLine; decide), fun p359 np360 => ?_⟩
        have ne361 := ow351.ne np360
        have ne362 := ow352.ne np360
        have ne363 := ow353.ne np360
        have ne364 := ow354.ne np360
        have ne365 := ow355.ne np360
        have ne366 := ow356.ne np360
        have nb367 := hB357.nb np360
        have g368 := g348.own (o := (.lst [(V.ref p338)])) np360
        have g369 := g349.own (o := (.lst [(V.ref p338)])) np360
        have g370 := g350.own (o := (.lst [(V.ref p338)])) np360
        have ow371 := ow351.own (o := (.lst [(V.ref p338)])) np360
        have ow372 := ow352.own (o := (.lst [(V.ref p338)])) np360
        have ow373 := ow353.own (o := (.lst [(V.ref p338)])) np360
        have ow374 := ow354.own (o := (.lst [(V.ref p338)])) np360
        have ow375 := ow355.own (o := (.lst [(V.ref p338)])) np360
        have ow376 := ow356.own (o := (.lst [(V.ref p338)])) np360
        have hB377 := hB357.own (o := (.lst [(V.ref p338)])) np360
        have ow378 : Ow H0 (upd F286 p338 (.tup [(V.int (0 : Int)), (V.int ((1 : Int) * 2 ^ ((30 : Int)).toNat))])) (upd (upd (upd H287 p310 (.lst [(V.str ("*" : Str))])) p338 (.tup [(V.int (0 : Int)), (V.int ((1 : Int) * 2 ^ ((30 : Int)).toNat))])) p359 (.lst [(V.ref p338)])) p359 [(V.ref p338)] := Ow.new g348 np360
        have hA379 : RL K (upd F286 p338 (.tup [(V.int (0 : Int)), (V.int ((1 : Int) * 2 ^ ((30 : Int)).toNat))])) [(V.ref p338)] ([((0 : Int), ((1 : Int) * 2 ^ ((30 : Int)).toNat))] : List (Int × Int)) := (RpA.cons r358 RpA.nil)
        obtain ⟨r380, hb381, hc331⟩ := bnd hc331
        refine ⟨(upd F286 p338 (.tup [(V.int (0 : Int)), (V.int ((1 : Int) * 2 ^ ((30 : Int)).toNat))])), p359, [(V.ref p338)], ([((0 : Int), ((1 : Int) * 2 ^ ((30 : Int)).toNat))] : List (Int × Int)), (30 : Int), r380, rfl, g368.fh, ow378.sq, (by show 1 ≤ sizeLine; decide), hA379, id, hb381, fun p385 ws386 F382 H383 g384 np387 h388 nF389 hl390 hA391 => ?_⟩
        have ne392 := ow371.ne np387
        have ne393 := ow372.ne np387
        have ne394 := ow373.ne np387
        have ne395 := ow374.ne np387
        have ne396 := ow375.ne np387
        have ne397 := ow376.ne np387
        have ne398 := ow378.ne np387
        have nb399 := hB377.nb np387
        have n0400 := g368.none0 np387
        have g401 := Gr.trans g368 (Gr.of0 g384)
        have g402 := Gr.trans g369 g384
        have g403 := Gr.trans g370 g384
        have ow404 := ow371.gr0 g384
        have ow405 := ow372.gr0 g384
        have ow406 := ow373.gr0 g384
        have ow407 := ow374.gr0 g384
        have ow408 := ow375.gr0 g384
        have ow409 := ow376.gr0 g384
        have ow410 := ow378.gr0 g384
        have hB411 := hB377.gr0 g384
        have ow412 : Ow H0 F382 H383 p385 ws386 := ⟨h388, nF389, n0400⟩
        refine ⟨(by show 1 ≤ sizeLine; decide), fun p413 np414 => ?_⟩
        have ne415 := ow404.ne np414
        have ne416 := ow405.ne np414
        have ne417 := ow406.ne np414
        have ne418 := ow407.ne np414
        have ne419 := ow408.ne np414
        have ne420 := ow409.ne np414
        have ne421 := ow410.ne np414
        have ne422 := ow412.ne np414
        have nb423 := hB411.nb np414
        have g424 := g401.own (o := (.lst [(V.str ("*" : Str))])) np414
        have g425 := g402.own (o := (.lst [(V.str ("*" : Str))])) np414
        have g426 := g403.own (o := (.lst [(V.str ("*" : Str))])) np414
        have ow427 := ow404.own (o := (.lst [(V.str ("*" : Str))])) np414
        have ow428 := ow405.own (o := (.lst [(V.str ("*" : Str))])) np414
        have ow429 := ow406.own (o := (.lst [(V.str ("*" : Str))])) np414
        have ow430 := ow407.own (o := (.lst [(V.str ("*" : Str))])) np414
        have ow431 := ow408.own (o := (.lst [(V.str ("*" : Str))])) np414
        have ow432 := ow409.own (o := (.lst [(V.str ("*" : Str))])) np414
        have ow433 := ow410.own (o := (.lst [(V.str ("*" : Str))])) np414
        have ow434 := ow412.own (o := (.lst [(V.str ("*" : Str))])) np414
        have hB435 := hB411.own (o := (.lst [(V.str ("*" : Str))])) np414
        have ow436 : Ow H0 F382 (upd H383 p413 (.lst [(V.str ("*" : Str))])) p413 [(V.str ("*" : Str))] := Ow.new g401 np414
        have hA437 : RL K F382 [(V.str ("*" : Str))] ([("*" : Str)] : List Str) := (RpA.cons (Rp.str ("*" : Str) ⟨by decide +kernel, by decide +kernel⟩) RpA.nil)
        have rH438 : R K (upd H383 p413 (.lst [(V.str ("*" : Str))])) (V.ref p385) r380 := (R.mkl ow434.sq hl390 (RpA.up hA391 g424.fh))
        have rH439 : R K (upd H383 p413 (.lst [(V.str ("*" : Str))])) (V.ref p413) ([("*" : Str)] : List Str) := (R.mkl ow436.sq (by show 1 ≤ sizeLine; decide) (RpA.up hA437 g424.fh))
        obtain rfl := sjoin hc331
        refine ⟨_, _, (Rp.dp _ _ rH438), (Rp.dp _ _ rH439), (R.shaped rH438), (R.shaped rH439), _, rfl, (q334 _ _ g426 trivial)⟩
      intro F440 H441 g442 hB443
      have g444 := Gr.trans g318 (Gr.of0 g442)
      have g445 := Gr.trans g319 g442
      have ow446 := ow320.gr0 g442
      have ow447 := ow321.gr0 g442
      have ow448 := ow322.gr0 g442
      have ow449 := ow323.gr0 g442
      have ow450 := ow324.gr0 g442
      have ow451 := ow326.gr0 g442
      have hB452 := hB325.gr0 g442
      obtain rfl := sjoin hc238
      exact (q241 _ _ g445 trivial)
    intro F453 H454 g455 hB456
    have g457 := Gr.trans g229 (Gr.of0 g455)
    have ow458 := ow230.gr0 g455
    have ow459 := ow231.gr0 g455
    have ow460 := ow233.gr0 g455
    have hB461 := hB232.gr0 g455
    refine (iteB (fun hc => ?_) (fun hc => ?_))
    · have hm := ifT hc hm
      refine p_ret ?_
      obtain ⟨he462, rfl⟩ := pjoin hm
      exact absurd he462 (by decide)
    · have hm := ifF hc hm
      refine p_next ?_
      refine p_nx ?_
      refine p_ret ?_
      refine ⟨(by show 2 ≤ sizeLine; decide), fun p463 np464 => ?_⟩
      have ne465 := ow458.ne np464
      have ne466 := ow459.ne np464
      have ne467 := ow460.ne np464
      have nb468 := hB461.nb np464
      have sm469 := same_new (o := (.tup [(V.int (1 : Int)), (V.int (7 : Int))])) (g457.noneF np464)
      have g470 := g457.frz (o := (.tup [(V.int (1 : Int)), (V.int (7 : Int))])) np464
      have ow471 := ow458.frz (o := (.tup [(V.int (1 : Int)), (V.int (7 : Int))])) np464
      have ow472 := ow459.frz (o := (.tup [(V.int (1 : Int)), (V.int (7 : Int))])) np464
      have ow473 := ow460.frz (o := (.tup [(V.int (1 : Int)), (V.int (7 : Int))])) np464
      have hB474 := hB461.frz (o := (.tup [(V.int (1 : Int)), (V.int (7 : Int))])) np464
      have r475 : R K (upd F453 p463 (.tup [(V.int (1 : Int)), (V.int (7 : Int))])) (.ref p463) (((1 : Int), (7 : Int)) : (Int × Int)) := R.mk2 fzT (Rp.int (1 : Int)) (Rp.int (7 : Int))
      refine ⟨(by show 1 ≤ sizeLine; decide), fun p476 np477 => ?_⟩
      have ne478 := ow471.ne np477
      have ne479 := ow472.ne np477
      have ne480 := ow473.ne np477
      have nb481 := hB474.nb np477
      have g482 := g470.own (o := (.lst [(V.ref p463)])) np477
      have ow483 := ow471.own (o := (.lst [(V.ref p463)])) np477
      have ow484 := ow472.own (o := (.lst [(V.ref p463)])) np477
      have ow485 := ow473.own (o := (.lst [(V.ref p463)])) np477
      have hB486 := hB474.own (o := (.lst [(V.ref p463)])) np477
      have ow487 : Ow H0 (upd F453 p463 (.tup [(V.int (1 : Int)), (V.int (7 : Int))])) (upd (upd H454 p463 (.tup [(V.int (1 : Int)), (V.int (7 : Int))])) p476 (.lst [(V.ref p463)])) p476 [(V.ref p463)] := Ow.new g470 np477
      have hA488 : RL K (upd F453 p463 (.tup [(V.int (1 : Int)), (V.int (7 : Int))])) [(V.ref p463)] ([((1 : Int), (7 : Int))] : List (Int × Int)) := (RpA.cons r475 RpA.nil)
      obtain ⟨r489, hb490, hm⟩ := bnd hm
      refine ⟨(upd F453 p463 (.tup [(V.int (1 : Int)), (V.int (7 : Int))])), p476, [(V.ref p463)], ([((1 : Int), (7 : Int))] : List (Int × Int)), (3 : Int), r489, rfl, g482.fh, ow487.sq, (by show 1 ≤ sizeLine; decide), hA488, id, hb490, fun p494 ws495 F491 H492 g493 np496 h497 nF498 hl499 hA500 => ?_⟩
      have ne501 := ow483.ne np496
      have ne502 := ow484.ne np496
      have ne503 := ow485.ne np496
      have ne504 := ow487.ne np496
      have nb505 := hB486.nb np496
      have n0506 := g482.none0 np496
      have g507 := Gr.trans g482 (Gr.of0 g493)
      have ow508 := ow483.gr0 g493
      have ow509 := ow484.gr0 g493
      have ow510 := ow485.gr0 g493
      have ow511 := ow487.gr0 g493
      have hB512 := hB486.gr0 g493
      have ow513 : Ow H0 F491 H492 p494 ws495 := ⟨h497, nF498, n0506⟩
      refine ⟨(by show 4 ≤ sizeLine; decide), fun p514 np515 => ?_⟩
      have ne516 := ow508.ne np515
      have ne517 := ow509.ne np515
      have ne518 := ow510.ne np515
      have ne519 := ow511.ne np515
      have ne520 := ow513.ne np515
      have nb521 := hB512.nb np515
      have g522 := g507.own (o := (.lst [(V.str ("001" : Str)), (V.str ("01*" : Str)), (V.str ("10*" : Str)), (V.str ("110" : Str))])) np515
      have ow523 := ow508.own (o := (.lst [(V.str ("001" : Str)), (V.str ("01*" : Str)), (V.str ("10*" : Str)), (V.str ("110" : Str))])) np515
      have ow524 := ow509.own (o := (.lst [(V.str ("001" : Str)), (V.str ("01*" : Str)), (V.str ("10*" : Str)), (V.str ("110" : Str))])) np515
      have ow525 := ow510.own (o := (.lst [(V.str ("001" : Str)), (V.str ("01*" : Str)), (V.str ("10*" : Str)), (V.str ("110" : Str))])) np515
      have ow526 := ow511.own (o := (.lst [(V.str ("001" : Str)), (V.str ("01*" : Str)), (V.str ("10*" : Str)), (V.str ("110" : Str))])) np515
      have ow527 := ow513.own (o := (.lst [(V.str ("001" : Str)), (V.str ("01*" : Str)), (V.str ("10*" : Str)), (V.str ("110" : Str))])) np515
      have hB528 := hB512.own (o := (.lst [(V.str ("001" : Str)), (V.str ("01*" : Str)), (V.str ("10*" : Str)), (V.str ("110" : Str))])) np515
      have ow529 : Ow H0 F491 (upd H492 p514 (.lst [(V.str ("001" : Str)), (V.str ("01*" : Str)), (V.str ("10*" : Str)), (V.str ("110" : Str))])) p514 [(V.str ("001" : Str)), (V.str ("01*" : Str)), (V.str ("10*" : Str)), (V.str ("110" : Str))] := Ow.new g507 np515
      have hA530 : RL K F491 [(V.str ("001" : Str)), (V.str ("01*" : Str)), (V.str ("10*" : Str)), (V.str ("110" : Str))] ([("001" : Str), ("01*" : Str), ("10*" : Str), ("110" : Str)] : List Str) := (RpA.cons (Rp.str ("001" : Str) ⟨by decide +kernel, by decide +kernel⟩) (RpA.cons (Rp.str ("01*" : Str) ⟨by decide +kernel, by decide +kernel⟩) (RpA.cons (Rp.str ("10*" : Str) ⟨by decide +kernel, by decide +kernel⟩) (RpA.cons (Rp.str ("110" : Str) ⟨by decide +kernel, by decide +kernel⟩) RpA.nil))))
      have rH531 : R K (upd H492 p514 (.lst [(V.str ("001" : Str)), (V.str ("01*" : Str)), (V.str ("10*" : Str)), (V.str ("110" : Str))])) (V.ref p494) r489 := (R.mkl ow527.sq hl499 (RpA.up hA500 g522.fh))
      have rH532 : R K (upd H492 p514 (.lst [(V.str ("001" : Str)), (V.str ("01*" : Str)), (V.str ("10*" : Str)), (V.str ("110" : Str))])) (V.ref p514) ([("001" : Str), ("01*" : Str), ("10*" : Str), ("110" : Str)] : List Str) := (R.mkl ow529.sq (by show 4 ≤ sizeLine; decide) (RpA.up hA530 g522.fh))
      obtain ⟨he533, rfl⟩ := pjoin hm
      refine ⟨_, _, (Rp.dp _ _ rH531), (Rp.dp _ _ rH532), (R.shaped rH531), (R.shaped rH532), (retQ (e := (eqD r489 ([("001" : Str), ("01*" : Str), ("10*" : Str), ("110" : Str)] : List Str))) he533 (hQ _ _ g522 hB528))⟩
end K04
namespace K04
open PySem PySem.Spec PyProof.Rows L2 TL G
theorem skip0_le : ∀ (l : List Int) (k : Nat), skip0 l k ≤ k + l.length
  | [], k => Nat.le_refl _
  | x :: r, k => by
    rw [skip0]
    split
    · have := skip0_le r (k + 1)
      rw [List.length_cons]
      omega
    · omega
theorem draw_O {b : Bag} {n : Int} (hb : BOk b) (h0 : 0 < n) (h1 : n < 18446744073709551616) : O2 BOk (m_l_draw b n) (fun r => 0 ≤ r ∧ r < n) := by
  have hlog : n.natAbs.log2 < 9000 := by
    have hn : n.natAbs < 2 ^ 64 := by omega
    have hz : n.natAbs ≠ 0 := by omega
    have := (Nat.log2_lt hz).mpr hn
    omega
  have h63 := hb.len
  unfold m_l_draw
  rw [if_pos ⟨⟨h0, hlog⟩, hb.lo, hb.hi, by rw [sizeLine_eq]; omega⟩]
  cases e : b.cells[skip0 (b.cells.drop b.at_) b.at_]? with
  | some x => exact O2.ret ⟨hb.lo, hb.hi, by show (b.cells.set _ _).length ≤ 63; rw [List.length_set]; exact h63⟩ ⟨Int.emod_nonneg _ (by omega), Int.emod_lt_of_pos _ h0⟩
  | none =>
    have h2 : 0 ≤ stir b.seed (b.cnt + 1) := Int.emod_nonneg _ (by decide)
    have h3 : stir b.seed (b.cnt + 1) < 2147483647 := Int.emod_lt_of_pos _ (by decide)
    exact O2.ret ⟨h2, by show stir b.seed (b.cnt + 1) < 2147483648; omega, h63⟩ ⟨Int.emod_nonneg _ (by omega), Int.emod_lt_of_pos _ h0⟩
/-! ### what is drawn -/
theorem bits_c1 : ∀ (l : List Int) (b : Bag), BOk b → O2 BOk (m_l_bits_c1 l b) (fun ys => ys.length = l.length ∧ ∀ y ∈ ys, ∃ c, isB c = true ∧ tl y = [c])
  | [], b, hb => O2.ret hb ⟨rfl, fun _ h => nomatch h⟩
  | x :: l, b, hb => by
    unfold m_l_bits_c1
    refine O2.bind (draw_O hb (by decide) (by decide)) fun r b hb hr => ?_
    refine O2.bind1 (codeAt_O (P := fun c => isB c = true) hr.1 (by rw [tl01]; exact hr.2) fun _ h => Bits.mem01 h) fun c hc => ?_
    refine O2.bind (bits_c1 l b hb) fun ys b hb hy => ?_
    refine O2.ret hb ⟨congrArg Nat.succ hy.1, fun y h => ?_⟩
    rcases List.mem_cons.mp h with rfl | h
    · exact ⟨c, hc, rfl⟩
    · exact hy.2 y h
theorem flat_bits : ∀ ys : List Str, (∀ y ∈ ys, ∃ c, isB c = true ∧ tl y = [c]) → Bits (ys.map tl).flatten ∧ (ys.map tl).flatten.length = ys.length
  | [], _ => ⟨Bits.nil, rfl⟩
  | y :: ys, h => by
    obtain ⟨c, hc, e⟩ := h y (List.mem_cons_self ..)
    obtain ⟨h1, h2⟩ := flat_bits ys fun z hz => h z (List.mem_cons_of_mem _ hz)
    rw [List.map_cons, List.flatten_cons, e]
    exact ⟨(Bits.one hc).app h1, by rw [List.length_append, h2]; exact Nat.add_comm 1 _⟩
theorem bits_O {b : Bag} {n : Int} (hb : BOk b) (h0 : -1000 ≤ n) (h1 : n ≤ 1000) : O2 BOk (m_l_bits b n) (fun x => Bits (tl x) ∧ (tl x).length = n.toNat) := by
  unfold m_l_bits
  refine O2.bind (draw_O hb (by decide) (by decide)) fun r b hb hr => ?_
  refine O2.ite (fun _ => ?_) (fun _ => ?_)
  · refine O2.bind (draw_O hb (by decide) (by decide)) fun r b hb hr => ?_
    refine O2.bind1 (codeAt_O (P := fun c => isB c = true) hr.1 (by rw [tl01]; exact hr.2) fun _ h => Bits.mem01 h) fun c hc => ?_
    refine O2.bind (P := fun x => Bits (tl x) ∧ (tl x).length = n.toNat) ?_ fun x b hb hx => O2.ret hb hx
    refine O2.ite (fun hn => ?_) (fun hn => ?_)
    · have hn : 0 < n := of_decide_eq_true hn
      refine O2.bind1 (mulS_O (P := fun x => tl x = List.replicate n.toNat c) (by omega) (by omega) (by rw [tl_sgn]; show 1 * _ ≤ _; omega) (by rw [tl_mul, tl_sgn]; simp)) fun x hx => ?_
      refine O2.bind (draw_O hb (by decide) (by decide)) fun r b hb hr => ?_
      refine O2.bind1 (codeAt_O (P := fun c => isB c = true) hr.1 (by rw [tl01]; exact hr.2) fun _ h => Bits.mem01 h) fun d hd => ?_
      refine O2.bind1 (catS_O (P := fun y => tl y = List.replicate n.toNat c ++ [d]) (by rw [hx, tl_sgn, List.length_replicate]; show _ + 1 ≤ _; omega) (by rw [tl_append, hx, tl_sgn])) fun y hy => ?_
      refine O2.ret hb ?_
      have e1 : (1 : Int) = ((1 : Nat) : Int) := rfl
      have e2 : n + 1 = ((n.toNat + 1 : Nat) : Int) := by omega
      have hl : (List.replicate n.toNat c ++ [d]).length = n.toNat + 1 := by rw [List.length_append, List.length_replicate]; rfl
      rw [tl_cut, hy, e2, e1, HT.sIx_nat, HT.sIx_nat, hl]
      have hb2 : Bits (List.replicate n.toNat c ++ [d]) := Bits.app (fun z hz => by rw [(List.mem_replicate.mp hz).2]; exact hc) (Bits.one hd)
      refine ⟨(hb2.drop _).take _, ?_⟩
      rw [List.length_take, List.length_drop, hl]
      omega
    · have hn : ¬ 0 < n := of_decide_eq_false hn
      exact O2.ret hb ⟨by rw [tl_empty]; exact Bits.nil, by rw [tl_empty]; show 0 = _; omega⟩
  · refine O2.bind1 (rangeO1_O (P := fun l => l.length = n.toNat) (by omega) (by omega) rangeL_length) fun l hl => ?_
    refine O2.bind (bits_c1 l b hb) fun ys b hb hy => ?_
    obtain ⟨hf1, hf2⟩ := flat_bits ys hy.2
    have hsum : (ys.map fun y => (tl y).length).sum = ys.length := by rw [← hf2, List.length_flatten, List.map_map]; rfl
    refine O2.bind1 (joinS_O (P := fun x => Bits (tl x) ∧ (tl x).length = n.toNat) (by rw [hsum, tl_empty, hy.1, hl]; show _ + _ * 0 ≤ _; omega) ⟨by rw [tl_join0]; exact hf1, by rw [tl_join0, hf2, hy.1, hl]⟩) fun x hx => O2.ret hb hx
theorem size_O {b : Bag} (hb : BOk b) : O2 BOk (m_l_size b) (fun r => 1 ≤ r ∧ r ≤ 30) := by
  unfold m_l_size
  refine O2.bind (draw_O hb (by decide) (by decide)) fun r1 b hb h1 => ?_
  refine O2.bind (draw_O hb (by decide) (by decide)) fun r2 b hb h2 => ?_
  refine O2.bind (draw_O hb (by decide) (by decide)) fun r3 b hb h3 => ?_
  refine O2.bind (draw_O hb (by decide) (by decide)) fun r4 b hb h4 => ?_
  refine O2.bind1 (atI_O (P := fun r => 1 ≤ r ∧ r ≤ 30) h4.1 h4.2 fun x hx => ?_) fun x hx => O2.ret hb hx
  simp only [List.mem_cons, List.not_mem_nil, or_false] at hx
  omega
theorem worth_l1 : ∀ (cs : List Nat) (n : Nat), m_l_worth_l1 cs (n : Int) = some ((n * 2 ^ cs.length + wr cs : Nat) : Int)
  | [], n => by unfold m_l_worth_l1; simp [wr]
  | c :: cs, n => by
    unfold m_l_worth_l1
    rw [toI_sgn1, Option.bind_some]
    have e : (n : Int) * 2 + ((if c = 49 then 1 else 0 : Nat) : Int) = ((2 * n + (if c = 49 then 1 else 0) : Nat) : Int) := by omega
    rw [e, worth_l1 cs, wr_cons, List.length_cons, Nat.pow_succ]
    generalize (if c = 49 then 1 else 0) = d
    generalize 2 ^ cs.length = p
    congr 2
    rw [Nat.add_mul, Nat.mul_comm 2 n, Nat.mul_assoc, Nat.mul_comm 2 p, Nat.add_assoc]
theorem worth_spec (x : Str) : m_l_worth x = some ((wr (tl x) : Nat) : Int) := by
  unfold m_l_worth
  rw [show x.cps.toList = tl x from rfl, show (0 : Int) = ((0 : Nat) : Int) from rfl, worth_l1, Nat.zero_mul, Nat.zero_add]
  rfl
end K04
namespace K04
open PySem PySem.Spec PyProof.Rows L2 TL G
theorem notF {α : Type} {a b : α} : (if (!false) = true then a else b) = a := rfl
/-! ### pattern_at -/
theorem pa_l1 : ∀ (l : List Int) (x : Str) (n : Nat), (tl x).length + l.length ≤ 1000 → ∃ y n', m_pattern_at_l1 l x (n : Int) = some (y, n') ∧ tl y = bin l.length n ++ tl x
  | [], x, n, _ => ⟨x, _, rfl, rfl⟩
  | k :: l, x, n, h => by
    rw [List.length_cons] at h
    have hd : n % 2 < 2 := Nat.mod_lt _ (by decide)
    have hc : codeAt ("01" : Str) ((n : Int) % 2) = some (48 + n % 2) := code01 hd
    obtain ⟨y, ey, hy⟩ := catS_O (a := sgn (48 + n % 2)) (b := x) (P := fun z => tl z = [48 + n % 2] ++ tl x) (by rw [tl_sgn]; show 1 + _ ≤ _; omega) (by rw [tl_append, tl_sgn])
    obtain ⟨z, n', ez, hz⟩ := pa_l1 l y (n / 2) (by rw [hy, List.length_append]; show 1 + (tl x).length + _ ≤ _; omega)
    refine ⟨z, n', ?_, ?_⟩
    · unfold m_pattern_at_l1
      rw [hc, Option.bind_some, ey, Option.bind_some, Option.bind_some]
      exact ez
    · rw [hz, hy, List.length_cons, G.bin, List.append_assoc]
theorem bin_wr {bs : List Nat} (h : Bits bs) : bin bs.length (wr bs) = bs :=
  wr_inj (bin_bits _ _) h (bin_len _ _) (by rw [wr_bin, Nat.mod_eq_of_lt (wr_lt bs)])
theorem pattern_at_spec {w j : Nat} {bs : List Nat} (hb : Bits bs) (hw : bs.length + j = w) (hw2 : w ≤ 60) : ∃ y, m_pattern_at ((wr bs * 2 ^ j : Nat) : Int) ((w : Int) - (j : Int)) (w : Int) = some y ∧ tl y = leaf j bs := by
  unfold m_pattern_at
  have e1 : (w : Int) - ((w : Int) - (j : Int)) = (j : Nat) := by omega
  have e2 : (w : Int) - (j : Int) = (bs.length : Nat) := by omega
  rw [e1, shrI_nat, Nat.mul_div_cancel _ (Nat.two_pow_pos j), Option.bind_some, e2]
  have e3 : rangeO1 ((bs.length : Nat) : Int) = some (rangeL 0 bs.length) := by
    unfold rangeO1
    rw [if_pos ⟨by omega, by rw [sizeLine_eq]; omega⟩, Int.toNat_natCast]
  rw [e3, Option.bind_some]
  obtain ⟨z, n', ez, hz⟩ := pa_l1 (rangeL 0 bs.length) ("" : Str) (wr bs) (by rw [rangeL_length, tl_empty]; show 0 + _ ≤ _; omega)
  rw [rangeL_length, tl_empty, List.append_nil, bin_wr hb] at hz
  rw [ez, bind2_some, eqI_iff]
  by_cases h : j = 0
  · rw [decide_eq_true (by omega), if_pos rfl]
    exact ⟨z, rfl, by rw [hz, leaf, if_pos h]⟩
  · rw [decide_eq_false (by omega), if_neg (by decide)]
    obtain ⟨y, ey, hy⟩ := catS_O (a := z) (b := ("*" : Str)) (P := fun y => tl y = bs ++ [42]) (by rw [hz, tlStar]; show _ + 1 ≤ _; omega) (by rw [tl_append, hz, tlStar])
    rw [ey]
    exact ⟨y, rfl, by rw [hy, leaf, if_neg h]⟩
/-! ### the widest block from an address on -/
theorem shlI_w {w J : Nat} (h : J ≤ 60) : shlI (1 : Int) ((w : Int) - ((w : Int) - (J : Int))) = some (H2 J) := by
  rw [show (w : Int) - ((w : Int) - (J : Int)) = (J : Nat) by omega]
  exact shlI_one (by omega)
theorem cov_l3 {w : Nat} {b at_ : Int} (hw : w ≤ 60) {j : Nat} (hj : at_ % H2 j = 0 ∧ at_ + H2 j ≤ b) : ∀ (d n : Nat), j + d ≤ w → d < n → (∀ k, j < k → k ≤ j + d → ¬ (at_ % H2 k = 0 ∧ at_ + H2 k ≤ b)) →
    m_cover_l3 (w : Int) b at_ n ((w : Int) - ((j + d : Nat) : Int)) = some ((w : Int) - (j : Int))
  | d, 0, _, hn, _ => absurd hn (Nat.not_lt_zero _)
  | 0, n + 1, hd, _, _ => by
    unfold m_cover_l3
    have hm : modI at_ (H2 j) = some (at_ % H2 j) := by unfold modI; rw [if_pos (H2_pos j)]
    rw [show j + 0 = j from rfl, shlI_w (by omega), Option.bind_some, hm, Option.bind_some, neI_iff, hj.1, if_neg (by decide), Option.bind_some, Option.bind_some, if_neg (by rw [decide_eq_true_iff]; omega)]
  | d + 1, n + 1, hd, hn, hk => by
    unfold m_cover_l3
    have hm : modI at_ (H2 (j + (d + 1))) = some (at_ % H2 (j + (d + 1))) := by unfold modI; rw [if_pos (H2_pos _)]
    have hno := hk (j + (d + 1)) (by omega) (by omega)
    have ih := cov_l3 (b := b) hw hj d n (by omega) (by omega) fun k h1 h2 => hk k h1 (by omega)
    rw [shlI_w (by omega), Option.bind_some, hm, Option.bind_some, neI_iff, Option.bind_some]
    have e : (w : Int) - ((j + (d + 1) : Nat) : Int) + 1 = (w : Int) - ((j + d : Nat) : Int) := by omega
    by_cases h1 : at_ % H2 (j + (d + 1)) = 0
    · rw [decide_eq_true h1, if_neg (by decide), Option.bind_some, if_pos (decide_eq_true (by have : ¬ _ := fun z => hno ⟨h1, z⟩; omega)), e]
      exact ih
    · rw [decide_eq_false h1, notF, Option.bind_some, if_pos rfl, e]
      exact ih
theorem mod_up {a : Int} {j k : Nat} (h : a % H2 k = 0) (hk : j ≤ k) : a % H2 j = 0 := by
  obtain ⟨d, rfl⟩ := Nat.exists_eq_add_of_le hk
  have : H2 (j + d) = H2 j * H2 d := by show ((2 ^ (j + d) : Nat) : Int) = _; rw [Nat.pow_add, Int.natCast_mul]
  rw [this] at h
  exact Int.emod_eq_zero_of_dvd (Int.dvd_trans (Int.dvd_mul_right _ _) (Int.dvd_of_emod_eq_zero h))
theorem H2_mono {j k : Nat} (h : j ≤ k) : H2 j ≤ H2 k := Int.ofNat_le.mpr (Nat.pow_le_pow_right (by decide) h)
/-- the address at which a block begins -/
abbrev beg (bs : List Nat) (j : Nat) : Int := ((wr bs * 2 ^ j : Nat) : Int)
theorem beg0 (bs : List Nat) (j : Nat) : beg (bs ++ [48]) j = beg bs (j + 1) := by
  unfold beg
  rw [wr_snoc, if_neg (by decide), Nat.pow_succ, Nat.add_zero, Nat.mul_comm 2, Nat.mul_assoc, Nat.mul_comm 2]
theorem beg1 (bs : List Nat) (j : Nat) : beg (bs ++ [49]) j = beg bs (j + 1) + H2 j := by
  unfold beg
  rw [wr_snoc, if_pos rfl, Nat.pow_succ, Nat.add_mul, Nat.one_mul, Nat.mul_comm 2, Nat.mul_assoc, Nat.mul_comm 2, Int.natCast_add]
theorem beg_mod (bs : List Nat) (j : Nat) : beg bs j % H2 j = 0 := by
  unfold beg
  rw [Int.natCast_mul]
  exact Int.mul_emod_left _ _
/-- the cover of one span, block by block -/
theorem cov_seg {w : Nat} (hw : w ≤ 60) {f b : Int} (hfb : f < b) : ∀ (j : Nat) (bs : List Nat), Bits bs → bs.length + j = w → (j < w → ¬ (beg bs j % H2 (j + 1) = 0 ∧ f ≤ beg bs j ∧ beg bs j + H2 (j + 1) ≤ b)) →
    ∃ ys : List Str, ys.map tl = can [(f, b)] j (beg bs j) bs ∧ (max f (beg bs j) < min b (beg bs j + H2 j) → ∀ (n : Nat) (F : List Str), F.length + ys.length ≤ 100000 →
      m_cover_l2 (w : Int) b (n + ys.length) (max f (beg bs j)) F = m_cover_l2 (w : Int) b n (min b (beg bs j + H2 j)) (F ++ ys)) := fun j => by
  have whole : ∀ (j : Nat) (bs : List Nat), Bits bs → bs.length + j = w → (j < w → ¬ (beg bs j % H2 (j + 1) = 0 ∧ f ≤ beg bs j ∧ beg bs j + H2 (j + 1) ≤ b)) → f ≤ beg bs j → beg bs j + H2 j ≤ b →
      ∃ ys : List Str, ys.map tl = can [(f, b)] j (beg bs j) bs ∧ (max f (beg bs j) < min b (beg bs j + H2 j) → ∀ (n : Nat) (F : List Str), F.length + ys.length ≤ 100000 →
      m_cover_l2 (w : Int) b (n + ys.length) (max f (beg bs j)) F = m_cover_l2 (w : Int) b n (min b (beg bs j + H2 j)) (F ++ ys)) := fun j bs hb hl hnp h1 h2 => by
    have hp := H2_pos j
    obtain ⟨y, ey, hy⟩ := pattern_at_spec hb hl hw
    refine ⟨[y], ?_, fun _ n F hF => ?_⟩
    · rw [can_full (by rw [ct_one]; unfold cn1; show max 0 (min _ b - max _ f) = _; omega), List.map_cons, hy]
      rfl
    · rw [Int.max_eq_right h1, Int.min_eq_right h2]
      have h3 := cov_l3 (b := b) (at_ := beg bs j) hw (j := j) ⟨beg_mod bs j, h2⟩ (w - j) 70 (by omega) (by omega) fun k hk1 hk2 hk => hnp (by omega) ⟨mod_up hk.1 hk1, h1, by have := H2_mono (j := j + 1) (k := k) hk1; omega⟩
      rw [show j + (w - j) = w by omega, Int.sub_self] at h3
      show m_cover_l2 (w : Int) b (n + 1) _ F = _
      conv => lhs; unfold m_cover_l2
      have ea : appL F y = some (F ++ [y]) := by unfold appL; rw [if_pos (by rw [sizeLine_eq]; have : [y].length = 1 := rfl; omega)]
      rw [if_pos (decide_eq_true (by omega)), h3, Option.bind_some, ey, Option.bind_some, ea, Option.bind_some, shlI_w (by omega), Option.bind_some]
  have none_ : ∀ (j : Nat) (bs : List Nat), ¬ (max f (beg bs j) < min b (beg bs j + H2 j)) →
      ∃ ys : List Str, ys.map tl = can [(f, b)] j (beg bs j) bs ∧ (max f (beg bs j) < min b (beg bs j + H2 j) → ∀ (n : Nat) (F : List Str), F.length + ys.length ≤ 100000 →
      m_cover_l2 (w : Int) b (n + ys.length) (max f (beg bs j)) F = m_cover_l2 (w : Int) b n (min b (beg bs j + H2 j)) (F ++ ys)) := fun j bs h =>
    ⟨[], by rw [can_none (by rw [ct_one]; unfold cn1; show max 0 (min _ b - max _ f) = _; omega)]; rfl, fun z => absurd z h⟩
  induction j with
  | zero =>
    intro bs hb hl hnp
    by_cases h : max f (beg bs 0) < min b (beg bs 0 + H2 0)
    · have := H2_zero
      exact whole 0 bs hb hl hnp (by omega) (by omega)
    · exact none_ 0 bs h
  | succ j ih =>
    intro bs hb hl hnp
    by_cases h : max f (beg bs (j + 1)) < min b (beg bs (j + 1) + H2 (j + 1))
    · by_cases hf : f ≤ beg bs (j + 1) ∧ beg bs (j + 1) + H2 (j + 1) ≤ b
      · exact whole (j + 1) bs hb hl hnp hf.1 hf.2
      · have hp := H2_pos j
        have hs := H2_succ j
        have hm := beg_mod bs (j + 1)
        obtain ⟨ys, ey, gy⟩ := ih (bs ++ [48]) (hb.app (Bits.one (by decide))) (by rw [List.length_append]; show bs.length + 1 + j = w; omega) (fun _ z => hf (by rw [beg0] at z; exact z.2))
        obtain ⟨zs, ez, gz⟩ := ih (bs ++ [49]) (hb.app (Bits.one (by decide))) (by rw [List.length_append]; show bs.length + 1 + j = w; omega) (fun _ z => by
          rw [beg1] at z
          have h1 := z.1
          have h2 : (beg bs (j + 1) + H2 j - beg bs (j + 1)) % H2 (j + 1) = 0 := by rw [Int.sub_emod, h1, hm]; rfl
          rw [show beg bs (j + 1) + H2 j - beg bs (j + 1) = H2 j by omega, Int.emod_eq_of_lt (by omega) (by omega)] at h2
          omega)
        rw [beg0] at ey gy
        rw [beg1] at ez gz
        have hne : ct [(f, b)] (beg bs (j + 1)) (beg bs (j + 1) + H2 (j + 1)) ≠ 0 := by rw [ct_one]; unfold cn1; show max 0 (min _ b - max _ f) ≠ _; omega
        have hnf : ct [(f, b)] (beg bs (j + 1)) (beg bs (j + 1) + H2 (j + 1)) ≠ H2 (j + 1) := by rw [ct_one]; unfold cn1; show max 0 (min _ b - max _ f) ≠ _; omega
        have hmid : beg bs (j + 1) + H2 j + H2 j = beg bs (j + 1) + H2 (j + 1) := by omega
        rw [hmid] at gz
        refine ⟨ys ++ zs, by rw [List.map_append, ey, ez, can_part hne hnf], fun _ n F hF => ?_⟩
        rw [List.length_append] at hF ⊢
        generalize beg bs (j + 1) = a at *
        by_cases hL : max f a < min b (a + H2 j)
        · by_cases hR : max f (a + H2 j) < min b (a + H2 (j + 1))
          · have e1 := gy hL (n + zs.length) F (by omega)
            have e2 := gz hR n (F ++ ys) (by rw [List.length_append]; omega)
            rw [show n + (ys.length + zs.length) = n + zs.length + ys.length by omega, e1, show min b (a + H2 j) = max f (a + H2 j) by omega, e2, List.append_assoc]
          · have hz0 : zs = [] := by
              have := ez
              rw [can_none (by rw [ct_one]; unfold cn1; show max 0 (min _ b - max _ f) = _; omega)] at this
              exact List.map_eq_nil_iff.mp this
            subst hz0
            have e1 := gy hL n F (by omega)
            rw [List.append_nil, show n + (ys.length + ([] : List Str).length) = n + ys.length from rfl, e1, show min b (a + H2 j) = min b (a + H2 (j + 1)) by omega]
        · have hy0 : ys = [] := by
            have := ey
            rw [can_none (by rw [ct_one]; unfold cn1; show max 0 (min _ b - max _ f) = _; omega)] at this
            exact List.map_eq_nil_iff.mp this
          subst hy0
          have e2 := gz (by omega) n F (by show F.length + zs.length ≤ _; have : ([] : List Str).length = 0 := rfl; omega)
          rw [List.nil_append, show ([] : List Str).length + zs.length = zs.length from Nat.zero_add _, show max f a = max f (a + H2 j) by omega, e2]
    · exact none_ (j + 1) bs h
end K04
namespace K04
open PySem PySem.Spec PyProof.Rows L2 TL G
theorem appL_some {α : Type} {l : List α} {x : α} (h : l.length ≤ 1000000) : appL l x = some (l ++ [x]) := by unfold appL; rw [if_pos (by rw [sizeLine_eq]; omega)]
theorem setL_last {α : Type} (F : List α) (x y : α) : setL (F ++ [x]) (-1) y = some (F ++ [y]) := by
  unfold setL ixN
  rw [List.length_append]
  show Option.map _ (if (0 : Int) ≤ -1 then _ else if -((F.length + 1 : Nat) : Int) ≤ -1 then _ else none) = _
  rw [if_neg (by omega), if_pos (by omega)]
  show some ((F ++ [x]).set (-1 + ((F.length + 1 : Nat) : Int)).toNat y) = _
  rw [show (-1 + ((F.length + 1 : Nat) : Int)).toNat = F.length by omega, List.set_append_right _ _ (Nat.le_refl _), Nat.sub_self]
  rfl
theorem gaps_snoc {F : List (Int × Int)} {x : Int × Int} (h : Gaps F) (hx : x.1 < x.2) (hb : ∀ s ∈ F, s.2 < x.1) : Gaps (F ++ [x]) :=
  ⟨fun s hs => (List.mem_append.mp hs).elim (h.1 s) fun e => by rw [List.mem_singleton.mp e]; exact hx,
   List.pairwise_append.mpr ⟨h.2, List.pairwise_singleton _ _, fun s hs t ht => by rw [List.mem_singleton.mp ht]; exact hb s hs⟩⟩
theorem joined_l1 : ∀ (l F : List (Int × Int)), Rise l → Gaps F → (∀ s ∈ F, ∀ t ∈ l, s.2 ≤ t.1) → F.length + l.length ≤ 10000 →
    ∃ J, m_joined_l1 l F = some J ∧ Gaps J ∧ (∀ a e, ct J a e = ct F a e + ct l a e) ∧ J.length ≤ F.length + l.length ∧ (∀ lo hi : Int, (∀ s ∈ F, lo ≤ s.1 ∧ s.2 ≤ hi) → (∀ s ∈ l, lo ≤ s.1 ∧ s.2 ≤ hi) → ∀ s ∈ J, lo ≤ s.1 ∧ s.2 ≤ hi)
  | [], F, _, hF, _, _ => ⟨F, rfl, hF, fun a e => by rw [ct_nil]; omega, Nat.le_refl _, fun _ _ h _ => h⟩
  | t :: l, F, hl, hF, hb, hn => by
    rw [List.length_cons] at hn
    have ht := hl.1 t (List.mem_cons_self ..)
    have htl := (List.pairwise_cons.mp hl.2).1
    have fresh : (∀ s ∈ F, s.2 < t.1) → ∃ J, m_joined_l1 l (F ++ [(t.1, t.2)]) = some J ∧ Gaps J ∧ (∀ a e, ct J a e = ct F a e + ct (t :: l) a e) ∧ J.length ≤ F.length + (l.length + 1) ∧ (∀ lo hi : Int, (∀ s ∈ F, lo ≤ s.1 ∧ s.2 ≤ hi) → (∀ s ∈ t :: l, lo ≤ s.1 ∧ s.2 ≤ hi) → ∀ s ∈ J, lo ≤ s.1 ∧ s.2 ≤ hi) := fun hlt => by
      obtain ⟨J, e1, e2, e3, e4, e5⟩ := joined_l1 l (F ++ [(t.1, t.2)]) hl.tail (gaps_snoc hF ht hlt) (fun s hs u hu => (List.mem_append.mp hs).elim (fun h => hb s h u (List.mem_cons_of_mem _ hu)) fun h => by rw [List.mem_singleton.mp h]; exact htl u hu) (by rw [List.length_append]; show F.length + 1 + _ ≤ _; omega)
      refine ⟨J, e1, e2, fun a e => by rw [e3, ct_app, ct_one, ct_cons]; have : cn1 (t.1, t.2) a e = cn1 t a e := rfl; omega, by rw [List.length_append] at e4; have : [(t.1, t.2)].length = 1 := rfl; omega, fun lo hi h1 h2 => e5 lo hi (fun s hs => (List.mem_append.mp hs).elim (h1 s) fun h => by rw [List.mem_singleton.mp h]; exact h2 t (List.mem_cons_self ..)) fun s hs => h2 s (List.mem_cons_of_mem _ hs)⟩
    unfold m_joined_l1
    rcases List.eq_nil_or_concat F with rfl | ⟨Z, x, rfl⟩
    · rw [eqD_refl, notT, Option.bind_some, if_neg (by decide), appL_some (by show 0 ≤ _; omega), Option.bind_some]
      exact fresh fun _ h => nomatch h
    · rw [List.concat_eq_append] at *
      have hx := hF.1 x (List.mem_append.mpr (.inr (List.mem_singleton.mpr rfl)))
      have hxt := hb x (List.mem_append.mpr (.inr (List.mem_singleton.mpr rfl))) t (List.mem_cons_self ..)
      obtain ⟨p1, _, p3⟩ := List.pairwise_append.mp hF.2
      have hGx : ∀ s ∈ Z, s.2 < x.1 := fun s hs => p3 s hs x (List.mem_singleton.mpr rfl)
      rw [eqD_false (by simp), notF, atI_last, Option.bind_some, Option.bind_some, eqI_iff]
      by_cases he : x.2 = t.1
      · rw [decide_eq_true he, if_pos rfl, Option.bind_some, setL_last, Option.bind_some]
        obtain ⟨J, e1, e2, e3, e4, e5⟩ := joined_l1 l (Z ++ [(x.1, t.2)]) hl.tail (gaps_snoc ⟨fun s hs => hF.1 s (List.mem_append.mpr (.inl hs)), p1⟩ (by show x.1 < t.2; omega) hGx)
          (fun s hs u hu => (List.mem_append.mp hs).elim (fun h => hb s (List.mem_append.mpr (.inl h)) u (List.mem_cons_of_mem _ hu)) fun h => by rw [List.mem_singleton.mp h]; exact htl u hu) (by rw [List.length_append] at hn ⊢; show Z.length + 1 + _ ≤ _; have : [x].length = 1 := rfl; omega)
        refine ⟨J, e1, e2, fun a e => ?_, by rw [List.length_append] at e4 ⊢; have h1 : [(x.1, t.2)].length = 1 := rfl; have h2 : [x].length = 1 := rfl; rw [h1] at e4; rw [h2]; show _ ≤ _ + (l.length + 1); omega, fun lo hi h1 h2 => e5 lo hi (fun s hs => ?_) fun s hs => h2 s (List.mem_cons_of_mem _ hs)⟩
        · rw [e3, ct_app, ct_app, ct_one, ct_one, ct_cons]
          unfold cn1
          show _ + max 0 (min e t.2 - max a x.1) + _ = _
          omega
        · rcases List.mem_append.mp hs with h | h
          · exact h1 s (List.mem_append.mpr (.inl h))
          · rw [List.mem_singleton.mp h]
            exact ⟨(h1 x (List.mem_append.mpr (.inr (List.mem_singleton.mpr rfl)))).1, (h2 t (List.mem_cons_self ..)).2⟩
      · rw [decide_eq_false he, if_neg (by decide), appL_some (by omega), Option.bind_some]
        exact fresh fun s hs => by
          rcases List.mem_append.mp hs with h | h
          · have := hGx s h
            omega
          · rw [List.mem_singleton.mp h]; omega
theorem cover_l1 {w : Nat} (hw : w ≤ 30) : ∀ (J : List (Int × Int)) (F : List Str), (∀ s ∈ J, s.1 < s.2) → (∀ s ∈ J, 0 ≤ s.1 ∧ s.2 ≤ H2 w) → F.length + 61 * J.length ≤ 100000 →
    ∃ ys : List Str, m_cover_l1 (w : Int) J F = some (F ++ ys) ∧ ys.map tl = J.flatMap fun s => can [s] w 0 []
  | [], F, _, _, _ => ⟨[], by rw [List.append_nil]; rfl, rfl⟩
  | s :: J, F, h1, h2, hn => by
    rw [List.length_cons] at hn
    have k1 := h1 s (List.mem_cons_self ..)
    have k2 := h2 s (List.mem_cons_self ..)
    obtain ⟨ys, ey, gy⟩ := cov_seg (w := w) (by omega) k1 w [] Bits.nil (by rw [List.length_nil]; omega) (fun z => absurd z (Nat.lt_irrefl _))
    have e0 : beg [] w = 0 := by unfold beg; rw [show wr [] = 0 from rfl, Nat.zero_mul]; rfl
    rw [e0] at ey gy
    have hl : ys.length ≤ 61 := by
      have h3 := can_len (S := [(s.1, s.2)]) ⟨fun t ht => by rw [List.mem_singleton.mp ht]; exact k1, List.pairwise_singleton _ _⟩ w 0 []
      rw [← ey, List.length_map] at h3
      have h4 := ends_le [(s.1, s.2)] 0 (0 + H2 w)
      have h5 : w * ends [(s.1, s.2)] 0 (0 + H2 w) ≤ 30 * 2 := Nat.mul_le_mul hw h4
      omega
    have hg := gy (by omega) (70 - ys.length) F (by omega)
    rw [show max s.1 0 = s.1 by omega, show min s.2 (0 + H2 w) = s.2 by omega, show 70 - ys.length + ys.length = 70 by omega] at hg
    obtain ⟨zs, ez, gz⟩ := cover_l1 hw J (F ++ ys) (fun t ht => h1 t (List.mem_cons_of_mem _ ht)) (fun t ht => h2 t (List.mem_cons_of_mem _ ht)) (by rw [List.length_append]; omega)
    refine ⟨ys ++ zs, ?_, by rw [List.map_append, ey, gz]; rfl⟩
    unfold m_cover_l1
    have he : m_cover_l2 (w : Int) s.2 (70 - ys.length) s.2 (F ++ ys) = some (s.2, F ++ ys) := by
      rw [show 70 - ys.length = (69 - ys.length) + 1 by omega]
      unfold m_cover_l2
      rw [if_neg (by rw [decide_eq_true_iff]; omega)]
    rw [hg, he, bind2_some, ez, List.append_assoc]
theorem cover_spec {w : Nat} (hw : w ≤ 30) {S : List (Int × Int)} (hS : Rise S) (hb : ∀ s ∈ S, 0 ≤ s.1 ∧ s.2 ≤ H2 w) (hn : S.length ≤ 1000) : ∃ ys : List Str, m_cover S (w : Int) = some ys ∧ ys.map tl = can S w 0 [] := by
  obtain ⟨J, e1, e2, e3, e4, e5⟩ := joined_l1 S [] hS ⟨fun _ h => (List.not_mem_nil h).elim, List.Pairwise.nil⟩ (fun _ h => (List.not_mem_nil h).elim) (by show 0 + _ ≤ _; omega)
  have hJ : m_joined S = some J := by unfold m_joined; rw [Option.bind_some, e1]; rfl
  obtain ⟨ys, ey, gy⟩ := cover_l1 hw J [] e2.1 (e5 0 (H2 w) (fun _ h => (List.not_mem_nil h).elim) hb) (by have : ([] : List (Int × Int)).length = 0 := rfl; show 0 + _ ≤ _; omega)
  refine ⟨ys, ?_, ?_⟩
  · unfold m_cover
    rw [Option.bind_some, hJ, Option.bind_some, ey]
    rfl
  · rw [gy, ← can_each e2]
    exact can_congr w 0 [] fun f b _ _ => by rw [e3, ct_nil]; omega
end K04
namespace K04
open PySem PySem.Spec PyProof.Rows L2 TL G
/-! ### the leaves, halved -/
theorem shlI_nat {a k : Nat} (ha : a < 2 ^ 64) (hk : k ≤ 1000000) : shlI (a : Int) (k : Int) = some ((a * 2 ^ k : Nat) : Int) := by
  unfold shlI
  rw [if_pos ⟨by omega, by omega, by rw [Int.natAbs_natCast]; exact ha⟩, Int.toNat_natCast, Int.natCast_mul, Int.natCast_pow]
  rfl
theorem lv_c (rec_ : List (Int × Int) → Str → Int → Option (List Str)) {f b : Int} (hfb : f < b) : ∀ S : List (Int × Int), (∀ s ∈ S, s.1 < s.2) →
    (∀ s ∈ m_l_leaves_c1 rec_ f b S, s.1 < s.2) ∧ (m_l_leaves_c2 rec_ (m_l_leaves_c1 rec_ f b S)).sum = ct S f b ∧ ∀ f' b', f ≤ f' → b' ≤ b → ct (m_l_leaves_c1 rec_ f b S) f' b' = ct S f' b'
  | [], _ => ⟨fun _ h => (List.not_mem_nil h).elim, rfl, fun _ _ _ _ => rfl⟩
  | s :: S, h => by
    obtain ⟨k1, k2, k3⟩ := lv_c rec_ hfb S fun t ht => h t (List.mem_cons_of_mem _ ht)
    have hs := h s (List.mem_cons_self ..)
    unfold m_l_leaves_c1
    by_cases hc : s.1 < b ∧ f < s.2
    · rw [if_pos (by rw [decide_eq_true hc.1, decide_eq_true hc.2]; rfl)]
      have hp : ((if s.1 > f then s.1 else f), (if s.2 < b then s.2 else b)) = ((max f s.1, min b s.2) : Int × Int) := by
        congr 1
        · split <;> omega
        · split <;> omega
      rw [hp]
      refine ⟨fun t ht => ?_, ?_, fun f' b' h1 h2 => ?_⟩
      · rcases List.mem_cons.mp ht with rfl | ht
        · show max f s.1 < min b s.2; omega
        · exact k1 t ht
      · show ((min b s.2 - max f s.1) :: m_l_leaves_c2 rec_ _).sum = _
        rw [List.sum_cons, k2, ct_cons]
        unfold cn1
        omega
      · rw [ct_cons, ct_cons, k3 f' b' h1 h2]
        unfold cn1
        show max 0 (min b' (min b s.2) - max f' (max f s.1)) + _ = _
        omega
    · rw [if_neg (by rw [Bool.and_eq_true, decide_eq_true_iff, decide_eq_true_iff]; exact hc)]
      refine ⟨k1, ?_, fun f' b' h1 h2 => ?_⟩
      · rw [k2, ct_cons]
        unfold cn1
        omega
      · rw [k3 f' b' h1 h2, ct_cons]
        unfold cn1
        omega
theorem conL_some {α : Type} {l m : List α} (h : l.length + m.length ≤ 1000000) : conL l m = some (l ++ m) := by unfold conL; rw [if_pos (by rw [sizeLine_eq]; omega)]
theorem leaves_spec {S0 : List (Int × Int)} (h0 : Rise S0) (hn0 : S0.length ≤ 200) : ∀ (j n : Nat) (S : List (Int × Int)) (x : Str), j < n → (∀ s ∈ S, s.1 < s.2) → (∀ f b, beg (tl x) j ≤ f → b ≤ beg (tl x) j + H2 j → ct S f b = ct S0 f b) → (tl x).length + j ≤ 60 →
    ∃ ys : List Str, m_l_leaves n S x (j : Int) = some ys ∧ ys.map tl = can S0 j (beg (tl x) j) (tl x)
  | j, 0, _, _, hn, _, _, _ => absurd hn (Nat.not_lt_zero _)
  | j, n + 1, S, x, hn, hS, hc, hl => by
    have hp := H2_pos j
    have hw : wr (tl x) < 2 ^ 64 := Nat.lt_of_lt_of_le (wr_lt _) (Nat.pow_le_pow_right (by decide) (by omega))
    obtain ⟨k1, k2, k3⟩ := lv_c (m_l_leaves n) (f := beg (tl x) j) (b := beg (tl x) j + H2 j) (by omega) S hS
    have hcc := hc (beg (tl x) j) (beg (tl x) j + H2 j) (Int.le_refl _) (Int.le_refl _)
    show ∃ ys, mS_l_leaves (m_l_leaves n) S x (j : Int) = some ys ∧ _
    unfold mS_l_leaves
    rw [worth_spec, Option.bind_some, shlI_nat hw (by omega), Option.bind_some, shlI_one (by omega), Option.bind_some, Option.bind_some, Option.bind_some, k2, hcc, eqI_iff, eqI_iff]
    have hlt : decide ((j : Int) < 0) = false := decide_eq_false (by omega)
    rw [hlt, Bool.or_false]
    by_cases e0 : ct S0 (beg (tl x) j) (beg (tl x) j + H2 j) = 0
    · rw [if_pos (decide_eq_true e0), can_none e0]
      exact ⟨[], rfl, rfl⟩
    · rw [if_neg (by rw [decide_eq_true_iff]; exact e0)]
      by_cases e1 : ct S0 (beg (tl x) j) (beg (tl x) j + H2 j) = H2 j
      · rw [if_pos (decide_eq_true (by show ct S0 (beg (tl x) j) (beg (tl x) j + H2 j) = beg (tl x) j + H2 j - beg (tl x) j; omega)), can_full e1]
        obtain ⟨z, ez, hz⟩ : ∃ z, mulS ("*" : Str) (toI (decide ((0 : Int) < (j : Int)))) = some z ∧ tl z = if j = 0 then [] else [42] := by
          by_cases hj : j = 0
          · subst hj; exact ⟨Txt.mul ("*" : Str) 0, by decide +kernel, by decide +kernel⟩
          · rw [decide_eq_true (by omega), if_neg hj]; exact ⟨Txt.mul ("*" : Str) 1, by decide +kernel, by decide +kernel⟩
        have hzl : (tl z).length ≤ 1 := by rw [hz]; split <;> decide
        obtain ⟨y, ey, hy⟩ := catS_O (a := x) (b := z) (P := fun y => tl y = tl x ++ tl z) (by omega) (by rw [tl_append])
        rw [ez, Option.bind_some, ey]
        refine ⟨[y], rfl, ?_⟩
        rw [List.map_cons, hy, hz]
        unfold leaf
        split <;> simp
      · rw [if_neg (by rw [decide_eq_true_iff]; show ¬ (ct S0 (beg (tl x) j) (beg (tl x) j + H2 j) = beg (tl x) j + H2 j - beg (tl x) j); omega)]
        cases j with
        | zero =>
          exfalso
          have h3 := ct_le h0 (a := beg (tl x) 0) (e := beg (tl x) 0 + H2 0) (by omega)
          have h4 := ct_nn S0 (beg (tl x) 0) (beg (tl x) 0 + H2 0)
          have := H2_zero
          omega
        | succ j =>
          have hp2 := H2_pos j
          have hs := H2_succ j
          obtain ⟨x0, f0, g0⟩ := catS_O (a := x) (b := ("0" : Str)) (P := fun y => tl y = tl x ++ [48]) (by rw [tl0]; show _ + 1 ≤ _; omega) (by rw [tl_append, tl0])
          obtain ⟨x1, f1, g1⟩ := catS_O (a := x) (b := ("1" : Str)) (P := fun y => tl y = tl x ++ [49]) (by rw [tl1]; show _ + 1 ≤ _; omega) (by rw [tl_append, tl1])
          have ej : ((j + 1 : Nat) : Int) - 1 = (j : Nat) := by omega
          obtain ⟨ys, ey, hy⟩ := leaves_spec h0 hn0 j n (m_l_leaves_c1 (m_l_leaves n) (beg (tl x) (j + 1)) (beg (tl x) (j + 1) + H2 (j + 1)) S) x0 (by omega) k1 (fun f b h1 h2 => by
            rw [g0, beg0] at h1 h2
            rw [k3 f b h1 (by omega), hc f b h1 (by omega)]) (by rw [g0, List.length_append]; show _ + 1 + _ ≤ _; omega)
          obtain ⟨zs, ez, hz⟩ := leaves_spec h0 hn0 j n (m_l_leaves_c1 (m_l_leaves n) (beg (tl x) (j + 1)) (beg (tl x) (j + 1) + H2 (j + 1)) S) x1 (by omega) k1 (fun f b h1 h2 => by
            rw [g1, beg1] at h1 h2
            rw [k3 f b (by omega) (by omega), hc f b (by omega) (by omega)]) (by rw [g1, List.length_append]; show _ + 1 + _ ≤ _; omega)
          rw [g0, beg0] at hy
          rw [g1, beg1] at hz
          have l1 := can_len h0 j (beg (tl x) (j + 1)) (tl x ++ [48])
          have l2 := can_len h0 j (beg (tl x) (j + 1) + H2 j) (tl x ++ [49])
          rw [← hy, List.length_map] at l1
          rw [← hz, List.length_map] at l2
          have m1 : j * ends S0 (beg (tl x) (j + 1)) (beg (tl x) (j + 1) + H2 j) ≤ 60 * 400 := Nat.mul_le_mul (by omega) (Nat.le_trans (ends_le _ _ _) (by omega))
          have m2 : j * ends S0 (beg (tl x) (j + 1) + H2 j) (beg (tl x) (j + 1) + H2 j + H2 j) ≤ 60 * 400 := Nat.mul_le_mul (by omega) (Nat.le_trans (ends_le _ _ _) (by omega))
          rw [f0, Option.bind_some, ej, ey, Option.bind_some, f1, Option.bind_some, ez, Option.bind_some, conL_some (by omega)]
          exact ⟨_, rfl, by rw [List.map_append, hy, hz, can_part e0 e1]⟩
end K04
namespace K04
open PySem PySem.Spec PyProof.Rows L2 TL G
/-! ### drawn stretches -/
theorem rangeL_succ (n : Int) (k : Nat) : rangeL n (k + 1) = n :: rangeL (n + 1) k := by
  unfold rangeL
  rw [List.range_succ_eq_map, List.map_cons, List.map_map]
  congr 1
  · omega
  · refine List.map_congr_left fun i _ => ?_
    show n + ((i + 1 : Nat) : Int) = n + 1 + (i : Nat)
    omega
theorem str_l1 {w : Nat} (hw : w ≤ 30) : ∀ (l : List Int) (E : List Int) (b : Bag), BOk b → (∀ e ∈ E, 0 ≤ e) → E ≠ [] → E.length + l.length ≤ 1000 → O2 BOk (m_l_stretches_l1 (w : Int) l E b) (fun R => (∀ e ∈ R, 0 ≤ e) ∧ R.length = E.length + l.length)
  | [], E, b, hb, hE, _, _ => O2.ret hb ⟨hE, rfl⟩
  | k :: l, E, b, hb, hE, hne, hl => by
    rw [List.length_cons] at hl
    have hE1 : 0 < E.length := List.length_pos_iff.mpr hne
    unfold m_l_stretches_l1
    refine O2.bind (draw_O hb (by omega) (by omega)) fun r84 b hb h84 => ?_
    refine O2.bind (bits_O hb (by omega) (by omega)) fun r94 b hb h94 => ?_
    refine O2.bind1 (P := fun z => (tl z).length ≤ 100) ?_ fun z hz => ?_
    · refine (Sh.mul_O (n := 1) (m := 100) (by unfold Sh; rw [tl0]; exact Nat.le_refl _) ?_ ?_ (by decide) (by decide)).imp fun z hz => hz
      · rw [len_tl, h94.2]; omega
      · omega
    refine O2.bind1 (P := fun _ => True) (catS_O (by rw [h94.2]; omega) trivial) fun z2 _ => ?_
    rw [worth_spec, Option.bind_some]
    refine O2.bind (draw_O hb (by omega) (by omega)) fun r119 b hb h119 => ?_
    refine O2.bind1 (P := fun x => 0 ≤ x) (atI_O h119.1 h119.2 hE) fun t129 ht => ?_
    refine O2.bind (draw_O hb (by decide) (by decide)) fun r134 b hb h134 => ?_
    rw [shlI_one (by omega), Option.bind_some]
    refine O2.bind (draw_O hb (by decide) (by decide)) fun r156 b hb h156 => ?_
    refine O2.bind1 (P := fun x => 0 ≤ x) (atI_O h156.1 h156.2 fun x hx => ?_) fun t167 h167 => ?_
    · simp only [List.mem_cons, List.not_mem_nil, or_false] at hx
      rcases hx with rfl | rfl | rfl | rfl | rfl
      · omega
      · omega
      · split <;> omega
      · exact Int.natCast_nonneg _
      · omega
    rw [appL_some (by omega), Option.bind_some]
    refine (str_l1 hw l (E ++ [t167]) b hb (fun e he => (List.mem_append.mp he).elim (hE e) fun h => by rw [List.mem_singleton.mp h]; exact h167) (by simp) (by rw [List.length_append]; show _ + 1 + _ ≤ _; omega)).imp fun R h => ⟨h.1, ?_⟩
    have e1 : (E ++ [t167]).length = E.length + 1 := by simp
    rw [h.2, e1]
    show _ = E.length + (l.length + 1)
    omega
theorem str_c2 {w : Nat} (hw : w ≤ 30) : ∀ l : List Int, ∃ r, m_l_stretches_c2 (w : Int) l = some r ∧ (∀ e ∈ r, e ∈ l ∧ e ≤ H2 w) ∧ r.length ≤ l.length
  | [] => ⟨[], rfl, fun _ h => (List.not_mem_nil h).elim, Nat.le_refl _⟩
  | e :: l => by
    obtain ⟨r, h1, h2, h3⟩ := str_c2 hw l
    unfold m_l_stretches_c2
    rw [shlI_one (by omega), Option.bind_some]
    by_cases h : e ≤ H2 w
    · rw [if_pos (decide_eq_true h), h1]
      refine ⟨e :: r, rfl, fun x hx => ?_, by rw [List.length_cons, List.length_cons]; omega⟩
      rcases List.mem_cons.mp hx with rfl | hx
      · exact ⟨List.mem_cons_self .., h⟩
      · exact ⟨List.mem_cons_of_mem _ (h2 x hx).1, (h2 x hx).2⟩
    · rw [if_neg (by rw [decide_eq_true_iff]; exact h), h1]
      exact ⟨r, rfl, fun x hx => ⟨List.mem_cons_of_mem _ (h2 x hx).1, (h2 x hx).2⟩, by rw [List.length_cons]; omega⟩
theorem str_l3 {w : Nat} {t : List Int} (ht : t.Pairwise (· < ·)) (hb0 : ∀ e ∈ t, 0 ≤ e ∧ e ≤ H2 w) (htl : t.length ≤ 2000) : ∀ (m k : Nat) (F : List (Int × Int)) (b : Bag), BOk b → 1 ≤ k → k + m ≤ t.length → Rise F → (∀ s ∈ F, 0 ≤ s.1 ∧ s.2 ≤ H2 w) → (∀ s ∈ F, ∀ (i : Nat) (h : i < t.length), k ≤ i + 1 → s.2 ≤ t[i]) → F.length + m ≤ 2000 →
    O2 BOk (m_l_stretches_l3 t (rangeL (k : Nat) m) F b) (fun R => Rise R ∧ (∀ s ∈ R, 0 ≤ s.1 ∧ s.2 ≤ H2 w) ∧ R.length ≤ F.length + m)
  | 0, k, F, b, hb, _, _, hF, hB, _, _ => O2.ret hb ⟨hF, hB, Nat.le_refl _⟩
  | m + 1, k, F, b, hb, h1, hk, hF, hB, hlast, hl => by
    rw [rangeL_succ, show ((k : Nat) : Int) + 1 = ((k + 1 : Nat) : Int) by omega]
    unfold m_l_stretches_l3
    refine O2.bind (draw_O hb (by decide) (by decide)) fun r b hb hr => ?_
    have hsort : ∀ (i j : Nat) (hi : i < t.length) (hj : j < t.length), i < j → t[i] < t[j] := fun i j hi hj hij => List.pairwise_iff_getElem.mp ht i j hi hj hij
    refine O2.ite (fun _ => ?_) (fun _ => ?_)
    · have a1 : atI t ((k : Nat) - (1 : Int)) = some t[k - 1] := by
        rw [show ((k : Nat) : Int) - 1 = ((k - 1 : Nat) : Int) by omega]
        exact atI_nat (List.getElem?_eq_getElem (by omega))
      have a2 : atI t ((k : Nat) : Int) = some t[k] := atI_nat (List.getElem?_eq_getElem (by omega))
      rw [a1, Option.bind_some, a2, Option.bind_some, appL_some (by omega), Option.bind_some]
      have hlt := hsort (k - 1) k (by omega) (by omega) (by omega)
      have p1 := hb0 _ (List.getElem_mem (l := t) (n := k - 1) (by omega))
      have p2 := hb0 _ (List.getElem_mem (l := t) (n := k) (by omega))
      refine (str_l3 ht hb0 htl m (k + 1) (F ++ [(t[k - 1], t[k])]) b hb (by omega) (by omega) ⟨fun s hs => ?_, List.pairwise_append.mpr ⟨hF.2, List.pairwise_singleton _ _, fun s hs u hu => ?_⟩⟩ (fun s hs => ?_) (fun s hs i hi hki => ?_) (by rw [List.length_append]; show _ + 1 + _ ≤ _; omega)).imp fun R h => ⟨h.1, h.2.1, Nat.le_trans h.2.2 (by rw [List.length_append]; show _ + 1 + _ ≤ _; omega)⟩
      · rcases List.mem_append.mp hs with h | h
        · exact hF.1 s h
        · rw [List.mem_singleton.mp h]; exact hlt
      · rw [List.mem_singleton.mp hu]
        exact hlast s hs (k - 1) (by omega) (by omega)
      · rcases List.mem_append.mp hs with h | h
        · exact hB s h
        · rw [List.mem_singleton.mp h]; exact ⟨p1.1, p2.2⟩
      · rcases List.mem_append.mp hs with h | h
        · exact hlast s h i hi (by omega)
        · rw [List.mem_singleton.mp h]
          by_cases e : i = k
          · subst e; exact Int.le_refl _
          · exact Int.le_of_lt (hsort k i (by omega) hi (by omega))
    · exact (str_l3 ht hb0 htl m (k + 1) F b hb (by omega) (by omega) hF hB (fun s hs i hi hki => hlast s hs i hi (by omega)) (by omega)).imp fun R h => ⟨h.1, h.2.1, Nat.le_trans h.2.2 (by omega)⟩
theorem ins_len (k : Int) : ∀ l : List Int, (ins k l).length ≤ l.length + 1
  | [] => Nat.le_refl _
  | x :: l => by
    unfold ins
    split
    · exact Nat.le_refl _
    · split
      · exact Nat.le_succ _
      · exact Nat.succ_le_succ (ins_len k l)
theorem ssort_len : ∀ l : List Int, (ssort l).length ≤ l.length
  | [] => Nat.le_refl _
  | x :: l => Nat.le_trans (ins_len x (ssort l)) (Nat.succ_le_succ (ssort_len l))
theorem stretches_O {b : Bag} {w : Nat} (hb : BOk b) (hw : w ≤ 30) : O2 BOk (m_l_stretches b (w : Int)) (fun S => Rise S ∧ (∀ s ∈ S, 0 ≤ s.1 ∧ s.2 ≤ H2 w) ∧ S.length ≤ 150) := by
  unfold m_l_stretches
  rw [Option.bind_some]
  refine O2.bind (draw_O hb (by decide) (by decide)) fun r12 b hb h12 => ?_
  refine O2.bind (draw_O hb (by decide) (by decide)) fun r22 b hb h22 => ?_
  refine O2.bind (draw_O hb (by decide) (by decide)) fun r41 b hb h41 => ?_
  refine O2.bind1 (P := fun k => 0 ≤ k ∧ k ≤ 100) (atI_O h41.1 h41.2 fun x hx => ?_) fun k hk => ?_
  · rcases List.mem_cons.mp hx with rfl | hx
    · omega
    · rw [List.mem_singleton.mp hx]; omega
  refine O2.bind1 (rangeO1_O (P := fun l => l.length ≤ 100) (by omega) (by omega) (by rw [rangeL_length]; omega)) fun l hl => ?_
  refine O2.bind (str_l1 hw l [0] b hb (fun e he => by rw [List.mem_singleton.mp he]; exact Int.le_refl _) (by simp) (by show 1 + _ ≤ _; omega)) fun E b hb hE => ?_
  obtain ⟨E2, e2, m2, l2⟩ := str_c2 hw E
  have hlen : E.length ≤ 1 + 100 := by rw [hE.2]; show 1 + _ ≤ _; omega
  have e3 : ssetO E2 = some (ssort E2) := by unfold ssetO; rw [if_pos (by omega)]
  have hl3 := ssort_len E2
  rw [e2, Option.bind_some, e3, Option.bind_some, Option.bind_some]
  have e4 : rangeO (1 : Int) (((ssort E2).length : Nat) : Int) = some (rangeL ((1 : Nat) : Int) ((ssort E2).length - 1)) := by
    unfold rangeO
    rw [if_pos ⟨by omega, by rw [sizeLine_eq]; omega⟩, show (((ssort E2).length : Nat) : Int) - 1 = (((ssort E2).length : Nat) : Int) - ((1 : Nat) : Int) from rfl, show ((((ssort E2).length : Nat) : Int) - ((1 : Nat) : Int)).toNat = (ssort E2).length - 1 by omega]
    rfl
  rw [e4, Option.bind_some]
  by_cases hz : (ssort E2).length = 0
  · rw [hz]
    exact O2.ret hb ⟨⟨fun _ h => (List.not_mem_nil h).elim, List.Pairwise.nil⟩, fun _ h => (List.not_mem_nil h).elim, Nat.zero_le _⟩
  · refine O2.bind (str_l3 (ssort_sorted E2) (fun e he => ⟨hE.1 e (m2 e (ssort_mem.mp he)).1, (m2 e (ssort_mem.mp he)).2⟩) (by omega) ((ssort E2).length - 1) 1 [] b hb (Nat.le_refl _) (by omega) ⟨fun _ h => (List.not_mem_nil h).elim, List.Pairwise.nil⟩ (fun _ h => (List.not_mem_nil h).elim) (fun _ h => (List.not_mem_nil h).elim) (by show 0 + _ ≤ _; omega)) fun R b hb hR => ?_
    exact O2.ret hb ⟨hR.1, hR.2.1, Nat.le_trans hR.2.2 (by show 0 + _ ≤ _; omega)⟩
theorem map_tl_inj : ∀ {xs ys : List Str}, xs.map tl = ys.map tl → xs = ys
  | [], [], _ => rfl
  | [], _ :: _, h => nomatch h
  | _ :: _, [], h => nomatch h
  | x :: xs, y :: ys, h => by
    obtain ⟨h1, h2⟩ := List.cons.inj h
    rw [tl_inj h1, map_tl_inj h2]
theorem law_l1 {w : Nat} (hw : w ≤ 30) : ∀ (l : List Int) (b : Bag), BOk b → ∃ b', m_law_l1 (w : Int) l b = some (.go b') ∧ BOk b'
  | [], b, hb => ⟨b, rfl, hb⟩
  | k :: l, b, hb => by
    obtain ⟨S, b2, e, hb2, hS, hB, hn⟩ := stretches_O hb hw
    obtain ⟨b', e4, hb'⟩ := law_l1 hw l b2 hb2
    refine ⟨b', ?_, hb'⟩
    obtain ⟨ys, ey, hy⟩ := cover_spec hw hS hB (by omega)
    have e0 : beg (tl ("" : Str)) w = 0 := by rw [tl_empty]; unfold beg; rw [show wr [] = 0 from rfl, Nat.zero_mul]; rfl
    obtain ⟨zs, ez, hz⟩ := leaves_spec hS (by omega) w 40 S ("" : Str) (by omega) hS.1 (fun _ _ _ _ => rfl) (by rw [tl_empty]; show 0 + _ ≤ _; omega)
    rw [e0, tl_empty, ← hy] at hz
    obtain rfl : ys = zs := map_tl_inj hz.symm
    have hl : ys.length ≤ 100000 := by
      have h1 := can_len hS w 0 []
      rw [← hy, List.length_map] at h1
      have h2 : w * ends S 0 (0 + H2 w) ≤ 30 * 300 := Nat.mul_le_mul hw (Nat.le_trans (ends_le _ _ _) (by omega))
      omega
    unfold m_law_l1
    rw [e, bind2_some, ez, Option.bind_some, ey, Option.bind_some, alike_self, Option.bind_some, eqD_refl]
    rw [if_neg (by decide), appL_some (by omega), Option.bind_some, Option.bind_some, alike_self, Option.bind_some, notT]
    exact e4
theorem law_true (b : Bag) (hb : BOk b) : ∃ b', m_law b = some (true, b') := by
  obtain ⟨n, b1, e1, hb1, hn⟩ := size_O hb
  obtain ⟨w, rfl⟩ := Int.eq_ofNat_of_zero_le (show 0 ≤ n by omega)
  obtain ⟨b2, e2, hb2⟩ := law_l1 (w := w) (by omega) (rangeL (0 : Int) 3) b1 hb1
  refine O2.true_ (I := BOk) ?_
  unfold m_law
  rw [e1, bind2_some]
  refine O2.bL1 e2 ?_
  have f1 : m_cover ([] : List (Int × Int)) 1 = some [] := by decide +kernel
  have f2 : m_cover ([((0 : Int), (1 : Int)), ((1 : Int), (2 : Int))] : List (Int × Int)) 1 = some [("*" : Str)] := by decide +kernel
  have f3 : m_cover ([((0 : Int), (1073741824 : Int))] : List (Int × Int)) 30 = some [("*" : Str)] := by decide +kernel
  have f4 : m_cover ([((1 : Int), (7 : Int))] : List (Int × Int)) 3 = some [("001" : Str), ("01*" : Str), ("10*" : Str), ("110" : Str)] := by decide +kernel
  have f5 : shlI 1 30 = some 1073741824 := shlI_one (k := 30) (by decide)
  rw [f1, Option.bind_some, eqD_refl, notT, f2, Option.bind_some, eqD_refl, notT, f5, Option.bind_some, f3, Option.bind_some, eqD_refl, Option.bind_some, Option.bind_some, if_neg (by decide), f4, Option.bind_some, eqD_refl]
  exact ⟨true, b2, rfl, hb2, rfl⟩
end K04
namespace K04
open PySem PySem.Spec PyProof.Rows L2 TL G
def dd_joined : He.DefD := ⟨("joined", none), "joined", "joined", defArgs s_joined, defBody s_joined, defScope s_joined, [], []⟩
def dd_pattern_at : He.DefD := ⟨("pattern_at", none), "pattern_at", "pattern_at", defArgs s_pattern_at, defBody s_pattern_at, defScope s_pattern_at, [], []⟩
def dd_cover : He.DefD := ⟨("cover", none), "cover", "cover", defArgs s_cover, defBody s_cover, defScope s_cover, [], []⟩
def dd_l_bag : He.DefD := ⟨("_law_bag", none), "_law_bag", "_law_bag", defArgs s_l_bag, defBody s_l_bag, defScope s_l_bag, [], []⟩
def dd_l_draw : He.DefD := ⟨("_law_draw", none), "_law_draw", "_law_draw", defArgs s_l_draw, defBody s_l_draw, defScope s_l_draw, [], []⟩
def dd_l_bits : He.DefD := ⟨("_law_bits", none), "_law_bits", "_law_bits", defArgs s_l_bits, defBody s_l_bits, defScope s_l_bits, [], []⟩
def dd_l_worth : He.DefD := ⟨("_law_worth", none), "_law_worth", "_law_worth", defArgs s_l_worth, defBody s_l_worth, defScope s_l_worth, [], []⟩
def dd_l_size : He.DefD := ⟨("_law_size", none), "_law_size", "_law_size", defArgs s_l_size, defBody s_l_size, defScope s_l_size, [], []⟩
def dd_l_stretches : He.DefD := ⟨("_law_stretches", none), "_law_stretches", "_law_stretches", defArgs s_l_stretches, defBody s_l_stretches, defScope s_l_stretches, [], []⟩
def dd_l_alike : He.DefD := ⟨("_law_alike", none), "_law_alike", "_law_alike", defArgs s_l_alike, defBody s_l_alike, defScope s_l_alike, [], []⟩
def dd_l_leaves : He.DefD := ⟨("_law_leaves", none), "_law_leaves", "_law_leaves", defArgs s_l_leaves, defBody s_l_leaves, defScope s_l_leaves, [], []⟩
def dd_law : He.DefD := ⟨("law", none), "law", "law", defArgs s_law, defBody s_law, defScope s_law, [], []⟩
def fnL : List He.DefD := [dd_joined, dd_pattern_at, dd_cover, dd_l_bag, dd_l_draw, dd_l_bits, dd_l_worth, dd_l_size, dd_l_stretches, dd_l_alike, dd_l_leaves, dd_law]
def faL : List He.Fa := [.glo "joined", .glo "pattern_at", .glo "cover", .glo "_law_bag", .glo "_law_draw", .glo "_law_bits", .glo "_law_worth", .glo "_law_size", .glo "_law_stretches", .glo "_law_alike", .glo "_law_leaves", .glo "law", .free "abs", .free "all", .free "bool", .free "int", .free "isinstance", .free "len", .free "list", .free "max", .free "min", .free "range", .free "set", .free "sorted", .free "str", .free "sum", .free "tuple", .str "BITS" "01", .str "STAR" "*"]
abbrev RR : PySem.W.OpenRow := PySem.W.OpenLaw.row PySem.Challenge.rw_wishnet_k04_covers_by_few
abbrev hk : PySem.W.Hook := He.hookD 4 faL fnL
def ob (s : PySem.W.SharedT) : He.AlD := He.obsDG 4 faL fnL (HandSHeadRun.getT s)
theorem ob_eq (s : PySem.W.SharedT) : ob s = hk.obs s.abs := He.obsDG_eq (HandSHeadRun.getT_eq s)
def looseL : List Str := ["STAR", "BITS", "joined", "pattern_at", "cover", "_law_bag", "_law_draw", "_law_bits", "_law_worth", "_law_size", "_law_stretches", "_law_alike", "_law_leaves"]
theorem run_top (w : World) : HandSHeadRun.RunEq RR (PySem.W.view RR.prog [15]) hk ob 4000 looseL w := by
  intro os
  kernel_rfl
theorem facts {P : Program} {w : World} {K : PySem.W.Frag} {h : Heap} {mg : Str → Option Value} {f : Addr} (X : K.In h) (Gh : h.Ns mainGlobals mg) (hfa : mg ("law" : Str) = some (.ref f)) (c : He.SaysD faL fnL K) :
    ∃ fd : FuncData, (∀ (s : Shared) (v : Value), BindsTo s fd ⟨[v], []⟩ [("_law_script", v)]) ∧ ∀ base : Heap, K.In base → base.Ns mainGlobals mg → FnOk P w K mg base CX0 42 f fd ["_law_script"] (sp_law K) := by
  obtain ⟨d0, F0⟩ := c.def_ 0 (d := dd_joined) rfl
  obtain ⟨d1, F1⟩ := c.def_ 1 (d := dd_pattern_at) rfl
  obtain ⟨d2, F2⟩ := c.def_ 2 (d := dd_cover) rfl
  obtain ⟨d3, F3⟩ := c.def_ 3 (d := dd_l_bag) rfl
  obtain ⟨d4, F4⟩ := c.def_ 4 (d := dd_l_draw) rfl
  obtain ⟨d5, F5⟩ := c.def_ 5 (d := dd_l_bits) rfl
  obtain ⟨d6, F6⟩ := c.def_ 6 (d := dd_l_worth) rfl
  obtain ⟨d7, F7⟩ := c.def_ 7 (d := dd_l_size) rfl
  obtain ⟨d8, F8⟩ := c.def_ 8 (d := dd_l_stretches) rfl
  obtain ⟨d9, F9⟩ := c.def_ 9 (d := dd_l_alike) rfl
  obtain ⟨d10, F10⟩ := c.def_ 10 (d := dd_l_leaves) rfl
  obtain ⟨d11, F11⟩ := c.def_ 11 (d := dd_law) rfl
  have G0 := He.glo_ok X Gh (c.fact 0 (f := .glo "joined") rfl)
  have G1 := He.glo_ok X Gh (c.fact 1 (f := .glo "pattern_at") rfl)
  have G2 := He.glo_ok X Gh (c.fact 2 (f := .glo "cover") rfl)
  have G3 := He.glo_ok X Gh (c.fact 3 (f := .glo "_law_bag") rfl)
  have G4 := He.glo_ok X Gh (c.fact 4 (f := .glo "_law_draw") rfl)
  have G5 := He.glo_ok X Gh (c.fact 5 (f := .glo "_law_bits") rfl)
  have G6 := He.glo_ok X Gh (c.fact 6 (f := .glo "_law_worth") rfl)
  have G7 := He.glo_ok X Gh (c.fact 7 (f := .glo "_law_size") rfl)
  have G8 := He.glo_ok X Gh (c.fact 8 (f := .glo "_law_stretches") rfl)
  have G9 := He.glo_ok X Gh (c.fact 9 (f := .glo "_law_alike") rfl)
  have G10 := He.glo_ok X Gh (c.fact 10 (f := .glo "_law_leaves") rfl)
  have G11 := He.glo_ok X Gh (c.fact 11 (f := .glo "law") rfl)
  obtain ⟨tk0, hk0⟩ := He.str_ok X Gh (c.fact 27 (f := .str "BITS" "01") rfl)
  obtain ⟨tk1, hk1⟩ := He.str_ok X Gh (c.fact 28 (f := .str "STAR" "*") rfl)
  let T : Txt K mg := { a_joined := _, d_joined := d0, F_joined := F0, g_joined := G0, a_pattern_at := _, d_pattern_at := d1, F_pattern_at := F1, g_pattern_at := G1, a_cover := _, d_cover := d2, F_cover := F2, g_cover := G2, a_l_bag := _, d_l_bag := d3, F_l_bag := F3, g_l_bag := G3, a_l_draw := _, d_l_draw := d4, F_l_draw := F4, g_l_draw := G4, a_l_bits := _, d_l_bits := d5, F_l_bits := F5, g_l_bits := G5, a_l_worth := _, d_l_worth := d6, F_l_worth := F6, g_l_worth := G6, a_l_size := _, d_l_size := d7, F_l_size := F7, g_l_size := G7, a_l_stretches := _, d_l_stretches := d8, F_l_stretches := F8, g_l_stretches := G8, a_l_alike := _, d_l_alike := d9, F_l_alike := F9, g_l_alike := G9, a_l_leaves := _, d_l_leaves := d10, F_l_leaves := F10, g_l_leaves := G10, a_law := _, d_law := d11, F_law := F11, g_law := G11, n_abs := He.free_ok X Gh (c.fact 12 (f := .free "abs") rfl), n_all := He.free_ok X Gh (c.fact 13 (f := .free "all") rfl), n_bool := He.free_ok X Gh (c.fact 14 (f := .free "bool") rfl), n_int := He.free_ok X Gh (c.fact 15 (f := .free "int") rfl), n_isinstance := He.free_ok X Gh (c.fact 16 (f := .free "isinstance") rfl), n_len := He.free_ok X Gh (c.fact 17 (f := .free "len") rfl), n_list := He.free_ok X Gh (c.fact 18 (f := .free "list") rfl), n_max := He.free_ok X Gh (c.fact 19 (f := .free "max") rfl), n_min := He.free_ok X Gh (c.fact 20 (f := .free "min") rfl), n_range := He.free_ok X Gh (c.fact 21 (f := .free "range") rfl), n_set := He.free_ok X Gh (c.fact 22 (f := .free "set") rfl), n_sorted := He.free_ok X Gh (c.fact 23 (f := .free "sorted") rfl), n_str := He.free_ok X Gh (c.fact 24 (f := .free "str") rfl), n_sum := He.free_ok X Gh (c.fact 25 (f := .free "sum") rfl), n_tuple := He.free_ok X Gh (c.fact 26 (f := .free "tuple") rfl), t_BITS := tk0, k_BITS := hk0, t_STAR := tk1, k_STAR := hk1 }
  have e := hfa.symm.trans G11
  cases e
  have b := FunD.bindsA (ps := ["_law_script"]) F11 fun _ _ _ _ _ _ us hl => match us, hl with | [_], _ => rfl
  exact ⟨d11, fun s v => b s [v] rfl, fun base _ _ => ok_law T law_true⟩
end K04
open PySem.Calls PySem.W PySem PyProof.Rows
set_option maxHeartbeats 0 in
theorem PySem.Challenge.cw_wishnet_k04_covers_by_few_holds : PySem.Challenge.rw_wishnet_k04_covers_by_few.Holds := by
  w_on; o_law
  refine HandSHeadRun.head_any (r := OpenLaw.row PySem.Challenge.rw_wishnet_k04_covers_by_few) (q := view (OpenLaw.row PySem.Challenge.rw_wishnet_k04_covers_by_few).prog [15]) (H := K04.hk) (ob := K04.ob) (M := 4000) (loose := K04.looseL) (d := HandSHeadRun.topDef (OpenLaw.row PySem.Challenge.rw_wishnet_k04_covers_by_few).prog 15) (kwd := []) K04.ob_eq
    (by kernel_rfl) (fun s => by kernel_rfl) K04.run_top (by kernel_rfl) (by kernel_rfl) (by kernel_rfl) (by rfl) (by first | assumption | decide +kernel) (by decide +kernel) ⟨rfl, rfl, rfl, rfl, rfl, by decide +kernel⟩ ?hw ?hc
  case hw => w_witness2
  case hc =>
    refine L2.walk_ofE (l := PySem.Challenge.rw_wishnet_k04_covers_by_few) (n := 63) (k := 42) (x := "_law_script") (CX := L2.CX0) rfl (by decide) (by kernel_rfl) ⟨rfl, by decide, by decide⟩ ?F (fun _ _ _ _ z => z)
    intro w mg fa h Y Gh hmg0
    obtain ⟨K, KX, c⟩ := Y
    have hmg : mg ("law" : PySem.Str) = some (.ref fa) := by
      have e : (HandSHeadRun.topDef (OpenLaw.row PySem.Challenge.rw_wishnet_k04_covers_by_few).prog 15).name = ("law" : PySem.Str) := by kernel_rfl
      rw [← e]
      exact hmg0
    obtain ⟨fd, hb, hF⟩ := K04.facts (P := (PySem.Challenge.rw_wishnet_k04_covers_by_few).prog) (w := w) KX Gh hmg c
    exact ⟨K, fd, K04.sp_law K, KX, hb, fun H a ns hl _ hS => ⟨a, ns, rfl, hS, hl, fun _ => rfl⟩, hF⟩
