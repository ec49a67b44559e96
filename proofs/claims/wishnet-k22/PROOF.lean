import PyProof.Rows.All
import Wide.All
import OpenK.AllK
import Wide.FinOn
import HandS.ForMost
import HandS.Walk
import HandS.Wide
import HandS.WideBits
import HandS.StrMore
import HandS.SortInts
import HandS.Strs
import HandS.IsInst
import HandS.Defaults
import HandS.MakeKwOnly
import HandS.Head0
import HandS.Head1
import HandS.Head2
import HandS.HeadEnd
import HandS.HeadHook1
import HandS.HeadHook2
import HandS.Style
import HandS.SetFor
import KE.KDictZip
import KE.KTurns
import HandS.Iter
import HandS.SortRule
import PyProof.Rows.SortShellAny
import HandS.TupAny
import HandS.Deep
import HandS.Conv
import HandS.TupSets
import Lean
import HandS.WordsExc
import PySem.Challenge.RW_wishnet_k22_ways_judged
set_option Elab.async false
set_option linter.all false
set_option maxRecDepth 100000
set_option maxHeartbeats 4000000
/-! My base, part 1: data, their standing in a heap, growth of heaps. -/
namespace G
open PySem PySem.Spec L2 PyProof.Rows TL

/-! ### data by type -/
class Enc (α : Type) where
  d : α → PyData
instance : Enc Int := ⟨.int⟩
instance : Enc Bool := ⟨.bool⟩
instance : Enc Str := ⟨.str⟩
instance : Enc Unit := ⟨fun _ => .none⟩
def encO {α : Type} (f : α → PyData) : Option α → PyData
  | none => .none
  | some x => f x
instance {α : Type} [Enc α] : Enc (Option α) := ⟨encO Enc.d⟩
instance {α : Type} [Enc α] : Enc (List α) := ⟨fun xs => .list (xs.map Enc.d)⟩
instance {α β : Type} [Enc α] [Enc β] : Enc (α × β) := ⟨fun p => .tuple [Enc.d p.1, Enc.d p.2]⟩
structure T3 (α β γ : Type) where
  a : α
  b : β
  c : γ
  deriving DecidableEq
structure T4 (α β γ δ : Type) where
  a : α
  b : β
  c : γ
  e : δ
  deriving DecidableEq
structure T5 (α β γ δ ε : Type) where
  a : α
  b : β
  c : γ
  e : δ
  f : ε
  deriving DecidableEq
structure VT (α : Type) where
  l : List α
  deriving DecidableEq
instance {α β γ : Type} [Enc α] [Enc β] [Enc γ] : Enc (T3 α β γ) := ⟨fun p => .tuple [Enc.d p.a, Enc.d p.b, Enc.d p.c]⟩
instance {α β γ δ : Type} [Enc α] [Enc β] [Enc γ] [Enc δ] : Enc (T4 α β γ δ) := ⟨fun p => .tuple [Enc.d p.a, Enc.d p.b, Enc.d p.c, Enc.d p.e]⟩
instance {α β γ δ ε : Type} [Enc α] [Enc β] [Enc γ] [Enc δ] [Enc ε] : Enc (T5 α β γ δ ε) := ⟨fun p => .tuple [Enc.d p.a, Enc.d p.b, Enc.d p.c, Enc.d p.e, Enc.d p.f]⟩
instance {α : Type} [Enc α] : Enc (VT α) := ⟨fun p => .tuple (p.l.map Enc.d)⟩

/-- a text that may be handled: no longer than the line, of signs -/
structure GS (x : Str) : Prop where
  len : x.length ≤ sizeLine
  ok : PyData.strOk x = true

mutual
inductive Rp (K : PySem.W.Frag) (F : Hp) : V → PyData → Prop
  | non : Rp K F .non .none
  | bl (b : Bool) : Rp K F (.bl b) (.bool b)
  | int (i : Int) : Rp K F (.int i) (.int i)
  | str (x : Str) : GS x → Rp K F (.str x) (.str x)
  | lst {a : Addr} {xs : List V} {ds : List PyData} : SqL K F a xs → xs.length ≤ sizeLine → RpA K F xs ds → Rp K F (.ref a) (.list ds)
  | tup {a : Addr} {xs : List V} {ds : List PyData} : SqT K F a xs → xs.length ≤ sizeLine → RpA K F xs ds → Rp K F (.ref a) (.tuple ds)
inductive RpA (K : PySem.W.Frag) (F : Hp) : List V → List PyData → Prop
  | nil : RpA K F [] []
  | cons {v : V} {vs : List V} {d : PyData} {ds : List PyData} : Rp K F v d → RpA K F vs ds → RpA K F (v :: vs) (d :: ds)
end
/-- v stands for x -/
abbrev R {α : Type} [Enc α] (K : PySem.W.Frag) (F : Hp) (v : V) (x : α) : Prop := Rp K F v (Enc.d x)
/-- the values vs stand for the things xs -/
abbrev RL {α : Type} [Enc α] (K : PySem.W.Frag) (F : Hp) (vs : List V) (xs : List α) : Prop := RpA K F vs (xs.map Enc.d)

section
variable {K : PySem.W.Frag} {F F' H H' : Hp} {v : V} {vs : List V} {d : PyData} {ds : List PyData} {a p : Addr} {xs : List V}
theorem SqT_mono (e : Same H H') (h : SqT K H a xs) : SqT K H' a xs := by
  rcases h with (h | ⟨o, h⟩) | h
  · exact .inl (.inl (e _ _ h))
  · exact .inl (.inr ⟨o, e _ _ h⟩)
  · exact .inr h
mutual
theorem Rp.mono (e : Same F F') : ∀ (d : PyData) (v : V), Rp K F v d → Rp K F' v d
  | .none, _, h => by cases h; exact .non
  | .bool b, _, h => by cases h; exact .bl b
  | .int i, _, h => by cases h; exact .int i
  | .str x, _, h => by cases h with | str _ g => exact .str x g
  | .list ds, _, h => by cases h with | lst hs hl ha => exact .lst (e.seq hs) hl (RpA.mono e ds _ ha)
  | .tuple ds, _, h => by cases h with | tup hs hl ha => exact .tup (SqT_mono e hs) hl (RpA.mono e ds _ ha)
  | .dict _, _, h => by cases h
theorem RpA.mono (e : Same F F') : ∀ (ds : List PyData) (vs : List V), RpA K F vs ds → RpA K F' vs ds
  | [], _, h => by cases h; exact .nil
  | d :: ds, _, h => by cases h with | cons h1 h2 => exact .cons (Rp.mono e d _ h1) (RpA.mono e ds _ h2)
end
theorem Rp.up (h : Rp K F v d) (e : Same F F') : Rp K F' v d := Rp.mono e d v h
theorem RpA.up (h : RpA K F vs ds) (e : Same F F') : RpA K F' vs ds := RpA.mono e ds vs h
mutual
theorem Rp.dp : ∀ (d : PyData) (v : V), Rp K F v d → Dp K F v d
  | .none, _, h => by cases h; exact .non
  | .bool b, _, h => by cases h; exact .bl b
  | .int i, _, h => by cases h; exact .int i
  | .str x, _, h => by cases h; exact .str x
  | .list ds, _, h => by cases h with | lst hs hl ha => exact .lst hs (RpA.dp ds _ ha)
  | .tuple ds, _, h => by cases h with | tup hs hl ha => exact .tup hs (RpA.dp ds _ ha)
  | .dict _, _, h => by cases h
theorem RpA.dp : ∀ (ds : List PyData) (vs : List V), RpA K F vs ds → DpAll K F vs ds
  | [], _, h => by cases h; exact .nil
  | d :: ds, _, h => by cases h with | cons h1 h2 => exact .cons (Rp.dp d _ h1) (RpA.dp ds _ h2)
end
mutual
theorem Rp.lay : ∀ (d : PyData) (v : V), Rp K F v d → d.canLay0 = true
  | .none, _, _ => rfl
  | .bool b, _, _ => rfl
  | .int i, _, _ => rfl
  | .str x, _, h => by cases h with | str _ g => exact g.ok
  | .list ds, _, h => by cases h with | lst hs hl ha => exact RpA.lay ds _ ha
  | .tuple ds, _, h => by cases h with | tup hs hl ha => exact RpA.lay ds _ ha
  | .dict _, _, h => by cases h
theorem RpA.lay : ∀ (ds : List PyData) (vs : List V), RpA K F vs ds → PyData.canLayAll0 ds = true
  | [], _, _ => rfl
  | d :: ds, _, h => by cases h with | cons h1 h2 => exact Bool.and_eq_true_iff.mpr ⟨Rp.lay d _ h1, RpA.lay ds _ h2⟩
end

/-! ### what stands at a value, by its type -/
theorem RpA.length : ∀ {ds : List PyData} {vs : List V}, RpA K F vs ds → vs.length = ds.length
  | [], _, h => by cases h; rfl
  | d :: ds, _, h => by cases h with | cons h1 h2 => exact congrArg Nat.succ h2.length
theorem RpA.get : ∀ {ds : List PyData} {vs : List V} {i : Nat} {v : V}, RpA K F vs ds → vs[i]? = some v → ∃ d, ds[i]? = some d ∧ Rp K F v d
  | [], _, _, _, h, e => by cases h; simp at e
  | d :: ds, _, 0, _, h, e => by cases h with | cons h1 h2 => exact ⟨d, rfl, by simpa using (Option.some.inj e) ▸ h1⟩
  | d :: ds, _, i + 1, v, h, e => by
    cases h with
    | cons h1 h2 =>
      obtain ⟨d', e1, e2⟩ := h2.get (i := i) (v := v) (by simpa using e)
      exact ⟨d', by simpa using e1, e2⟩
theorem RpA.back : ∀ {ds : List PyData} {vs : List V} {i : Nat} {d : PyData}, RpA K F vs ds → ds[i]? = some d → ∃ v, vs[i]? = some v ∧ Rp K F v d
  | [], _, _, _, h, e => by simp at e
  | d :: ds, _, 0, _, h, e => by
    cases h with
    | cons h1 h2 =>
      have e' := Option.some.inj e
      subst e'
      exact ⟨_, rfl, h1⟩
  | d :: ds, _, i + 1, d', h, e => by
    cases h with
    | cons h1 h2 =>
      obtain ⟨v, e1, e2⟩ := h2.back (i := i) (d := d') (by simpa using e)
      exact ⟨v, by simpa using e1, e2⟩
theorem RpA.append : ∀ {ds es : List PyData} {vs us : List V}, RpA K F vs ds → RpA K F us es → RpA K F (vs ++ us) (ds ++ es)
  | [], _, _, _, h, g => by cases h; exact g
  | d :: ds, _, _, _, h, g => by cases h with | cons h1 h2 => exact .cons h1 (h2.append g)
theorem RpA.take : ∀ {ds : List PyData} {vs : List V} (n : Nat), RpA K F vs ds → RpA K F (vs.take n) (ds.take n)
  | _, _, 0, _ => .nil
  | _, _, _ + 1, .nil => .nil
  | _, _, n + 1, .cons h t => .cons h (RpA.take n t)
theorem RpA.drop : ∀ {ds : List PyData} {vs : List V} (n : Nat), RpA K F vs ds → RpA K F (vs.drop n) (ds.drop n)
  | _, _, 0, h => h
  | _, _, _ + 1, .nil => .nil
  | _, _, n + 1, .cons _ t => RpA.drop n t
theorem RpA.set : ∀ {ds : List PyData} {vs : List V} (n : Nat), Rp K F v d → RpA K F vs ds → RpA K F (vs.set n v) (ds.set n d)
  | _, _, _, _, .nil => .nil
  | _, _, 0, r, .cons _ t => .cons r t
  | _, _, n + 1, r, .cons h t => .cons h (RpA.set n r t)
theorem RpA.dropLast {ds : List PyData} {vs : List V} (h : RpA K F vs ds) : RpA K F vs.dropLast ds.dropLast := by
  rw [List.dropLast_eq_take, List.dropLast_eq_take, h.length]
  exact h.take _
theorem RpA.reverse : ∀ {ds : List PyData} {vs : List V}, RpA K F vs ds → RpA K F vs.reverse ds.reverse
  | [], _, h => by cases h; exact .nil
  | d :: ds, _, h => by
    cases h with
    | cons h1 h2 =>
      rw [List.reverse_cons, List.reverse_cons]
      exact h2.reverse.append (.cons h1 .nil)

section
variable {α β γ δ ε : Type} [Enc α] [Enc β] [Enc γ] [Enc δ] [Enc ε]
theorem R.int_v {i : Int} (h : R K F v i) : v = .int i := by cases h; rfl
theorem R.bl_v {b : Bool} (h : R K F v b) : v = .bl b := by cases h; rfl
theorem R.str_v {x : Str} (h : R K F v x) : v = .str x ∧ GS x := by cases h with | str _ g => exact ⟨rfl, g⟩
theorem R.non_v (h : R K F v (none : Option α)) : v = .non := by
  have h' : Rp K F v .none := h
  cases h'
  rfl
theorem R.lst_v {xs : List α} (h : R K F v xs) : ∃ p ws, v = .ref p ∧ SqL K F p ws ∧ ws.length ≤ sizeLine ∧ RL K F ws xs := by
  have h' : Rp K F v (.list (xs.map Enc.d)) := h
  cases h' with | lst h1 h2 h3 => exact ⟨_, _, rfl, h1, h2, h3⟩
theorem R.vt_v {x : VT α} (h : R K F v x) : ∃ p ws, v = .ref p ∧ SqT K F p ws ∧ ws.length ≤ sizeLine ∧ RL K F ws x.l := by
  have h' : Rp K F v (.tuple (x.l.map Enc.d)) := h
  cases h' with | tup h1 h2 h3 => exact ⟨_, _, rfl, h1, h2, h3⟩
theorem RpA.one {d1 : PyData} (h : RpA K F vs [d1]) : ∃ v1, vs = [v1] ∧ Rp K F v1 d1 := by
  cases h with | cons h1 h2 => cases h2; exact ⟨_, rfl, h1⟩
theorem RpA.two {d1 d2 : PyData} (h : RpA K F vs [d1, d2]) : ∃ v1 v2, vs = [v1, v2] ∧ Rp K F v1 d1 ∧ Rp K F v2 d2 := by
  cases h with | cons h1 h2 => obtain ⟨v2, rfl, r⟩ := h2.one; exact ⟨_, _, rfl, h1, r⟩
theorem RpA.three {d1 d2 d3 : PyData} (h : RpA K F vs [d1, d2, d3]) : ∃ v1 v2 v3, vs = [v1, v2, v3] ∧ Rp K F v1 d1 ∧ Rp K F v2 d2 ∧ Rp K F v3 d3 := by
  cases h with | cons h1 h2 => obtain ⟨v2, v3, rfl, r⟩ := h2.two; exact ⟨_, _, _, rfl, h1, r⟩
theorem RpA.four {d1 d2 d3 d4 : PyData} (h : RpA K F vs [d1, d2, d3, d4]) : ∃ v1 v2 v3 v4, vs = [v1, v2, v3, v4] ∧ Rp K F v1 d1 ∧ Rp K F v2 d2 ∧ Rp K F v3 d3 ∧ Rp K F v4 d4 := by
  cases h with | cons h1 h2 => obtain ⟨v2, v3, v4, rfl, r⟩ := h2.three; exact ⟨_, _, _, _, rfl, h1, r⟩
theorem RpA.five {d1 d2 d3 d4 d5 : PyData} (h : RpA K F vs [d1, d2, d3, d4, d5]) : ∃ v1 v2 v3 v4 v5, vs = [v1, v2, v3, v4, v5] ∧ Rp K F v1 d1 ∧ Rp K F v2 d2 ∧ Rp K F v3 d3 ∧ Rp K F v4 d4 ∧ Rp K F v5 d5 := by
  cases h with | cons h1 h2 => obtain ⟨v2, v3, v4, v5, rfl, r⟩ := h2.four; exact ⟨_, _, _, _, _, rfl, h1, r⟩
theorem R.p2_v {x : α × β} (h : R K F v x) : ∃ p v1 v2, v = .ref p ∧ SqT K F p [v1, v2] ∧ R K F v1 x.1 ∧ R K F v2 x.2 := by
  have h' : Rp K F v (.tuple [Enc.d x.1, Enc.d x.2]) := h
  cases h' with | tup h1 h2 h3 => obtain ⟨v1, v2, rfl, r1, r2⟩ := h3.two; exact ⟨_, _, _, rfl, h1, r1, r2⟩
theorem R.p3_v {x : T3 α β γ} (h : R K F v x) : ∃ p v1 v2 v3, v = .ref p ∧ SqT K F p [v1, v2, v3] ∧ R K F v1 x.a ∧ R K F v2 x.b ∧ R K F v3 x.c := by
  have h' : Rp K F v (.tuple [Enc.d x.a, Enc.d x.b, Enc.d x.c]) := h
  cases h' with | tup h1 h2 h3 => obtain ⟨v1, v2, v3, rfl, r⟩ := h3.three; exact ⟨_, _, _, _, rfl, h1, r⟩
theorem R.p4_v {x : T4 α β γ δ} (h : R K F v x) : ∃ p v1 v2 v3 v4, v = .ref p ∧ SqT K F p [v1, v2, v3, v4] ∧ R K F v1 x.a ∧ R K F v2 x.b ∧ R K F v3 x.c ∧ R K F v4 x.e := by
  have h' : Rp K F v (.tuple [Enc.d x.a, Enc.d x.b, Enc.d x.c, Enc.d x.e]) := h
  cases h' with | tup h1 h2 h3 => obtain ⟨v1, v2, v3, v4, rfl, r⟩ := h3.four; exact ⟨_, _, _, _, _, rfl, h1, r⟩
theorem R.p5_v {x : T5 α β γ δ ε} (h : R K F v x) : ∃ p v1 v2 v3 v4 v5, v = .ref p ∧ SqT K F p [v1, v2, v3, v4, v5] ∧ R K F v1 x.a ∧ R K F v2 x.b ∧ R K F v3 x.c ∧ R K F v4 x.e ∧ R K F v5 x.f := by
  have h' : Rp K F v (.tuple [Enc.d x.a, Enc.d x.b, Enc.d x.c, Enc.d x.e, Enc.d x.f]) := h
  cases h' with | tup h1 h2 h3 => obtain ⟨v1, v2, v3, v4, v5, rfl, r⟩ := h3.five; exact ⟨_, _, _, _, _, _, rfl, h1, r⟩
/-- making them -/
theorem R.mkl {xs : List α} (h1 : SqL K F p vs) (h2 : vs.length ≤ sizeLine) (h3 : RL K F vs xs) : R K F (.ref p) xs := .lst h1 h2 h3
theorem R.mkvt {xs : List α} (h1 : SqT K F p vs) (h2 : vs.length ≤ sizeLine) (h3 : RL K F vs xs) : R K F (.ref p) (VT.mk xs) := .tup h1 h2 h3
theorem R.mk2 {v1 v2 : V} {x : α} {y : β} (h1 : SqT K F p [v1, v2]) (r1 : R K F v1 x) (r2 : R K F v2 y) : R K F (.ref p) (x, y) := .tup h1 (by show 2 ≤ sizeLine; decide) (.cons r1 (.cons r2 .nil))
theorem R.mk3 {v1 v2 v3 : V} {x : α} {y : β} {z : γ} (h1 : SqT K F p [v1, v2, v3]) (r1 : R K F v1 x) (r2 : R K F v2 y) (r3 : R K F v3 z) : R K F (.ref p) (T3.mk x y z) := .tup h1 (by show 3 ≤ sizeLine; decide) (.cons r1 (.cons r2 (.cons r3 .nil)))
theorem R.mk4 {v1 v2 v3 v4 : V} {x : α} {y : β} {z : γ} {u : δ} (h1 : SqT K F p [v1, v2, v3, v4]) (r1 : R K F v1 x) (r2 : R K F v2 y) (r3 : R K F v3 z) (r4 : R K F v4 u) : R K F (.ref p) (T4.mk x y z u) := .tup h1 (by show 4 ≤ sizeLine; decide) (.cons r1 (.cons r2 (.cons r3 (.cons r4 .nil))))
theorem R.mk5 {v1 v2 v3 v4 v5 : V} {x : α} {y : β} {z : γ} {u : δ} {t : ε} (h1 : SqT K F p [v1, v2, v3, v4, v5]) (r1 : R K F v1 x) (r2 : R K F v2 y) (r3 : R K F v3 z) (r4 : R K F v4 u) (r5 : R K F v5 t) : R K F (.ref p) (T5.mk x y z u t) := .tup h1 (by show 5 ≤ sizeLine; decide) (.cons r1 (.cons r2 (.cons r3 (.cons r4 (.cons r5 .nil)))))
theorem RL.nil : RL K F [] ([] : List α) := RpA.nil
theorem RL.cons {x : α} {xs : List α} (r : R K F v x) (rs : RL K F vs xs) : RL K F (v :: vs) (x :: xs) := RpA.cons r rs
theorem RL.snoc {x : α} {xs : List α} (rs : RL K F vs xs) (r : R K F v x) : RL K F (vs ++ [v]) (xs ++ [x]) := by
  show RpA K F _ _
  rw [List.map_append]
  exact RpA.append rs (.cons r .nil)
theorem RL.app {us : List V} {xs ys : List α} (rs : RL K F vs xs) (r : RL K F us ys) : RL K F (vs ++ us) (xs ++ ys) := by
  show RpA K F _ _
  rw [List.map_append]
  exact RpA.append rs r
theorem RL.len {xs : List α} (rs : RL K F vs xs) : vs.length = xs.length := by
  have h := RpA.length rs
  rwa [List.length_map] at h
theorem RL.get {xs : List α} {i : Nat} (rs : RL K F vs xs) (e : vs[i]? = some v) : ∃ x, xs[i]? = some x ∧ R K F v x := by
  obtain ⟨d, e1, r⟩ := RpA.get rs e
  rw [List.getElem?_map] at e1
  cases h : xs[i]? with
  | none => rw [h] at e1; cases e1
  | some x =>
    rw [h] at e1
    have e2 : Enc.d x = d := Option.some.inj e1
    subst e2
    exact ⟨x, rfl, r⟩
theorem RL.back {xs : List α} {i : Nat} {x : α} (rs : RL K F vs xs) (e : xs[i]? = some x) : ∃ v, vs[i]? = some v ∧ R K F v x :=
  RpA.back rs (by rw [List.getElem?_map, e]; rfl)
theorem RL.at {xs : List α} {i : Int} {x : α} (rs : RL K F vs xs) (e : atI xs i = some x) : ∃ v, atI vs i = some v ∧ R K F v x := by
  unfold atI at e ⊢
  rw [rs.len]
  cases h : ixN xs.length i with
  | none => rw [h] at e; cases e
  | some j =>
    rw [h] at e
    exact rs.back e
theorem RL.cut {xs : List α} (lo hi : Option Int) (rs : RL K F vs xs) : RL K F (cutV vs lo hi) ((xs.drop (HT.sIx xs.length 0 lo)).take (HT.sIx xs.length xs.length hi - HT.sIx xs.length 0 lo)) := by
  unfold cutV
  rw [rs.len]
  show RpA K F _ _
  rw [List.map_take, List.map_drop]
  exact RpA.take _ (RpA.drop _ rs)
theorem RL.set {xs : List α} {x : α} (i : Nat) (r : R K F v x) (rs : RL K F vs xs) : RL K F (vs.set i v) (xs.set i x) := by
  show RpA K F _ _
  rw [List.map_set]
  exact RpA.set i r rs
theorem RL.rev {xs : List α} (rs : RL K F vs xs) : RL K F vs.reverse xs.reverse := by
  show RpA K F _ _
  rw [List.map_reverse]
  exact RpA.reverse rs
theorem RL.init {xs : List α} (rs : RL K F vs xs) : RL K F vs.dropLast xs.dropLast := by
  show RpA K F _ _
  rw [List.map_dropLast]
  exact RpA.dropLast rs
theorem RL.ints {xs : List Int} (rs : RL K F vs xs) : vs = xs.map V.int := by
  induction xs generalizing vs with
  | nil => cases rs; rfl
  | cons x xs ih => cases rs with | cons r t => rw [R.int_v r, ih t]; rfl
theorem RL.ofInts (xs : List Int) : RL K F (xs.map V.int) xs := by
  induction xs with
  | nil => exact .nil
  | cons x xs ih => exact .cons (.int x) ih
theorem RL.bls {xs : List Bool} (rs : RL K F vs xs) : vs = xs.map V.bl := by
  induction xs generalizing vs with
  | nil => cases rs; rfl
  | cons x xs ih => cases rs with | cons r t => rw [R.bl_v r, ih t]; rfl
theorem RL.strs {xs : List Str} (rs : RL K F vs xs) : vs = xs.map V.str ∧ ∀ x ∈ xs, GS x := by
  induction xs generalizing vs with
  | nil => cases rs; exact ⟨rfl, fun _ h => nomatch h⟩
  | cons x xs ih =>
    cases rs with
    | cons r t =>
      obtain ⟨e, g⟩ := R.str_v r
      obtain ⟨e2, g2⟩ := ih t
      refine ⟨by rw [e, e2]; rfl, fun y hy => ?_⟩
      rcases List.mem_cons.mp hy with rfl | hy
      · exact g
      · exact g2 y hy
theorem RL.ofStrs (xs : List Str) (h : ∀ x ∈ xs, GS x) : RL K F (xs.map V.str) xs := by
  induction xs with
  | nil => exact .nil
  | cons x xs ih => exact .cons (.str x (h x (List.mem_cons_self ..))) (ih fun y hy => h y (List.mem_cons_of_mem _ hy))
end
end

/-! ### how deep a type's data go -/
class Dep (α : Type) [Enc α] where
  n : Nat
  le : ∀ x : α, (Enc.d x).depth ≤ n
instance : Dep Int := ⟨0, fun _ => Nat.le_refl _⟩
instance : Dep Bool := ⟨0, fun _ => Nat.le_refl _⟩
instance : Dep Str := ⟨0, fun _ => Nat.le_refl _⟩
instance {α : Type} [Enc α] [Dep α] : Dep (Option α) := ⟨Dep.n α, fun o => by
  cases o with
  | none => exact Nat.zero_le _
  | some x => exact Dep.le x⟩
theorem depthAll_le {α : Type} [Enc α] [Dep α] : ∀ xs : List α, PyData.depthAll (xs.map Enc.d) ≤ Dep.n α
  | [] => Nat.zero_le _
  | x :: xs => Nat.max_le.mpr ⟨Dep.le x, depthAll_le xs⟩
instance {α : Type} [Enc α] [Dep α] : Dep (List α) := ⟨Dep.n α + 1, fun xs => Nat.succ_le_succ (depthAll_le xs)⟩
instance {α : Type} [Enc α] [Dep α] : Dep (VT α) := ⟨Dep.n α + 1, fun xs => Nat.succ_le_succ (depthAll_le xs.l)⟩
instance {α β : Type} [Enc α] [Enc β] [Dep α] [Dep β] : Dep (α × β) := ⟨max (Dep.n α) (Dep.n β) + 1, fun p => by
  have h1 := Dep.le p.1
  have h2 := Dep.le p.2
  show PyData.depthAll [Enc.d p.1, Enc.d p.2] + 1 ≤ _
  simp only [PyData.depthAll]
  omega⟩
instance {α β γ : Type} [Enc α] [Enc β] [Enc γ] [Dep α] [Dep β] [Dep γ] : Dep (T3 α β γ) := ⟨max (Dep.n α) (max (Dep.n β) (Dep.n γ)) + 1, fun p => by
  have h1 := Dep.le p.a
  have h2 := Dep.le p.b
  have h3 := Dep.le p.c
  show PyData.depthAll [Enc.d p.a, Enc.d p.b, Enc.d p.c] + 1 ≤ _
  simp only [PyData.depthAll]
  omega⟩
instance {α β γ δ : Type} [Enc α] [Enc β] [Enc γ] [Enc δ] [Dep α] [Dep β] [Dep γ] [Dep δ] : Dep (T4 α β γ δ) := ⟨max (Dep.n α) (max (Dep.n β) (max (Dep.n γ) (Dep.n δ))) + 1, fun p => by
  have h1 := Dep.le p.a
  have h2 := Dep.le p.b
  have h3 := Dep.le p.c
  have h4 := Dep.le p.e
  show PyData.depthAll [Enc.d p.a, Enc.d p.b, Enc.d p.c, Enc.d p.e] + 1 ≤ _
  simp only [PyData.depthAll]
  omega⟩
instance {α β γ δ ε : Type} [Enc α] [Enc β] [Enc γ] [Enc δ] [Enc ε] [Dep α] [Dep β] [Dep γ] [Dep δ] [Dep ε] : Dep (T5 α β γ δ ε) := ⟨max (Dep.n α) (max (Dep.n β) (max (Dep.n γ) (max (Dep.n δ) (Dep.n ε)))) + 1, fun p => by
  have h1 := Dep.le p.a
  have h2 := Dep.le p.b
  have h3 := Dep.le p.c
  have h4 := Dep.le p.e
  have h5 := Dep.le p.f
  show PyData.depthAll [Enc.d p.a, Enc.d p.b, Enc.d p.c, Enc.d p.e, Enc.d p.f] + 1 ≤ _
  simp only [PyData.depthAll]
  omega⟩
theorem R.shaped {α : Type} [Enc α] [Dep α] {K : PySem.W.Frag} {F : Hp} {v : V} {x : α} (r : R K F v x) (h : Dep.n α ≤ 64 := by decide) : SeqAt.shaped (Enc.d x) = true :=
  Bool.and_eq_true_iff.mpr ⟨Rp.lay _ _ r, decide_eq_true (Nat.le_trans (Dep.le x) h)⟩
/-- equal, as Python compares -/
def eqD {α : Type} [Enc α] (x y : α) : Bool := PyData.eqv (Enc.d x) (Enc.d y)

/-! ### growth: F is what stays as it is, H all that stands; M may be changed -/
structure Gr (M : Addr → Prop) (F0 H0 F H : Hp) : Prop where
  fh : Same F H
  ff : Same F0 F
  keep : ∀ a o, ¬ M a → H0 a = some o → H a = some o
  there : ∀ a, H0 a ≠ none → H a ≠ none
  new : ∀ a, H0 a ≠ none → F0 a = none → F a = none
abbrev M0 : Addr → Prop := fun _ => False
section
variable {M : Addr → Prop} {F0 H0 F H F' H' : Hp} {p a : Addr} {o : HO} {K : PySem.W.Frag} {xs : List V}
theorem Gr.refl (h : Same F H) : Gr M F H F H := ⟨h, Same.refl _, fun _ _ _ e => e, fun _ e => e, fun _ _ e => e⟩
theorem Gr.trans (g : Gr M F0 H0 F H) (k : Gr M F H F' H') : Gr M F0 H0 F' H' :=
  ⟨k.fh, g.ff.trans k.ff, fun a o n e => k.keep a o n (g.keep a o n e), fun a e => k.there a (g.there a e), fun a e n => k.new a (g.there a e) (g.new a e n)⟩
theorem Gr.of0 (g : Gr M0 F H F' H') : Gr M F H F' H' := ⟨g.fh, g.ff, fun a o _ e => g.keep a o id e, g.there, g.new⟩
theorem Gr.none0 (g : Gr M F0 H0 F H) (h : H a = none) : H0 a = none := by
  cases e : H0 a with
  | none => rfl
  | some o => exact absurd h (g.there a (by rw [e]; simp))
theorem Gr.noneF (g : Gr M F0 H0 F H) (h : H a = none) : F a = none := by
  cases e : F a with
  | none => rfl
  | some o => rw [g.fh a o e] at h; cases h
theorem same_new (h : F p = none) : Same F (upd F p o) := fun b u e => by rw [upd_ne (ne_of_none e h)]; exact e
theorem same_upd2 (h : Same F H) (hp : F p = none) : Same (upd F p o) (upd H p o) := fun b u e => by
  by_cases hb : b = p
  · subst hb; rw [upd_same] at e ⊢; exact e
  · rw [upd_ne hb] at e ⊢; exact h b u e
theorem same_out (h : Same F H) (hp : F p = none) : Same F (upd H p o) := fun b u e => by
  rw [upd_ne (ne_of_none e hp)]
  exact h b u e
/-- a new thing that stays as it is -/
theorem Gr.frz (g : Gr M F0 H0 F H) (h : H p = none) : Gr M F0 H0 (upd F p o) (upd H p o) :=
  ⟨same_upd2 g.fh (g.noneF h), g.ff.trans (same_new (g.noneF h)), fun a u n e => by rw [upd_ne (ne_of_none (g.keep a u n e) h)]; exact g.keep a u n e,
    fun a e => by
      by_cases ha : a = p
      · subst ha; rw [upd_same]; simp
      · rw [upd_ne ha]; exact g.there a e,
    fun a e n => by
      have ha : a ≠ p := fun z => by subst z; exact e (g.none0 h)
      rw [upd_ne ha]; exact g.new a e n⟩
/-- a new thing that may be changed -/
theorem Gr.own (g : Gr M F0 H0 F H) (h : H p = none) : Gr M F0 H0 F (upd H p o) :=
  ⟨same_out g.fh (g.noneF h), g.ff, fun a u n e => by rw [upd_ne (ne_of_none (g.keep a u n e) h)]; exact g.keep a u n e,
    fun a e => by
      by_cases ha : a = p
      · subst ha; rw [upd_same]; simp
      · rw [upd_ne ha]; exact g.there a e, g.new⟩
/-- a thing of ours is changed -/
theorem Gr.mut (g : Gr M F0 H0 F H) (n : F p = none) (n0 : H0 p = none ∨ M p) : Gr M F0 H0 F (upd H p o) :=
  ⟨same_out g.fh n, g.ff, fun a u m e => by
      have ha : a ≠ p := fun z => by
        subst z
        rcases n0 with z | z
        · rw [z] at e; cases e
        · exact m z
      rw [upd_ne ha]; exact g.keep a u m e,
    fun a e => by
      by_cases ha : a = p
      · subst ha; rw [upd_same]; simp
      · rw [upd_ne ha]; exact g.there a e, g.new⟩
/-- a thing of ours stays as it is from now on -/
theorem Gr.freeze (g : Gr M F0 H0 F H) (h : H p = some o) (n0 : H0 p = none) : Gr M F0 H0 (upd F p o) H :=
  ⟨fun b u e => by
      by_cases hb : b = p
      · subst hb; rw [upd_same] at e; cases e; exact h
      · rw [upd_ne hb] at e; exact g.fh b u e,
    fun b u e => by
      by_cases hb : b = p
      · subst hb
        have := g.fh b u (g.ff b u e)
        rw [h] at this; cases this
        exact upd_same
      · rw [upd_ne hb]; exact g.ff b u e, g.keep, g.there,
    fun a e n => by
      have ha : a ≠ p := fun z => by subst z; exact e n0
      rw [upd_ne ha]; exact g.new a e n⟩
theorem Gr.seq (g : Gr M F0 H0 F H) (m : ¬ M a) (h : SqL K H0 a xs) : SqL K H a xs := by
  rcases h with (h | ⟨o, h⟩) | h
  · exact .inl (.inl (g.keep _ _ m h))
  · exact .inl (.inr ⟨o, g.keep _ _ m h⟩)
  · exact .inr h
theorem same_frz (h : H p = some o) (n : F p = none) : Same F (upd F p o) := same_new n
end

/-! ### the makings, step by step -/
def bind2 {α β γ : Type} (o : Option (α × β)) (f : α → β → Option γ) : Option γ := o.bind fun p => f p.1 p.2
def bind3 {α β γ δ : Type} (o : Option (α × β × γ)) (f : α → β → γ → Option δ) : Option δ := o.bind fun p => f p.1 p.2.1 p.2.2
def bind4 {α β γ δ ε : Type} (o : Option (α × β × γ × δ)) (f : α → β → γ → δ → Option ε) : Option ε := o.bind fun p => f p.1 p.2.1 p.2.2.1 p.2.2.2
def bind5 {α β γ δ ε ζ : Type} (o : Option (α × β × γ × δ × ε)) (f : α → β → γ → δ → ε → Option ζ) : Option ζ := o.bind fun p => f p.1 p.2.1 p.2.2.1 p.2.2.2.1 p.2.2.2.2
theorem bnd {α β : Type} {o : Option α} {f : α → Option β} {r : β} (h : Option.bind o f = some r) : ∃ x, o = some x ∧ f x = some r := Option.bind_eq_some_iff.mp h
theorem bnd2 {α β γ : Type} {o : Option (α × β)} {f : α → β → Option γ} {r : γ} (h : bind2 o f = some r) : ∃ x y, o = some (x, y) ∧ f x y = some r :=
  let ⟨p, e, k⟩ := Option.bind_eq_some_iff.mp h
  ⟨p.1, p.2, e, k⟩
theorem bnd3 {α β γ δ : Type} {o : Option (α × β × γ)} {f : α → β → γ → Option δ} {r : δ} (h : bind3 o f = some r) : ∃ x y z, o = some (x, y, z) ∧ f x y z = some r :=
  let ⟨p, e, k⟩ := Option.bind_eq_some_iff.mp h
  ⟨p.1, p.2.1, p.2.2, e, k⟩
theorem bnd4 {α β γ δ ε : Type} {o : Option (α × β × γ × δ)} {f : α → β → γ → δ → Option ε} {r : ε} (h : bind4 o f = some r) : ∃ x y z u, o = some (x, y, z, u) ∧ f x y z u = some r :=
  let ⟨p, e, k⟩ := Option.bind_eq_some_iff.mp h
  ⟨p.1, p.2.1, p.2.2.1, p.2.2.2, e, k⟩
theorem bnd5 {α β γ δ ε ζ : Type} {o : Option (α × β × γ × δ × ε)} {f : α → β → γ → δ → ε → Option ζ} {r : ζ} (h : bind5 o f = some r) : ∃ x y z u t, o = some (x, y, z, u, t) ∧ f x y z u t = some r :=
  let ⟨p, e, k⟩ := Option.bind_eq_some_iff.mp h
  ⟨p.1, p.2.1, p.2.2.1, p.2.2.2.1, p.2.2.2.2, e, k⟩
/-- a loop's end: gone on, or handed back -/
inductive Lp (S R : Type) where
  | go (s : S)
  | ret (r : R)
def bindL {S R T : Type} (o : Option (Lp S R)) (f : S → Option T) (g : R → Option T) : Option T := o.bind fun l => match l with
  | .go s => f s
  | .ret r => g r
theorem ifT {α : Type} {c : Bool} {a b : α} {r : α} (h : c = true) (e : (if c = true then a else b) = r) : a = r := by rw [if_pos h] at e; exact e
theorem ifF {α : Type} {c : Bool} {a b : α} {r : α} (h : c = false) (e : (if c = true then a else b) = r) : b = r := by rw [if_neg (by rw [h]; decide)] at e; exact e
theorem iteB {c : Bool} {A B : Prop} (h1 : c = true → A) (h2 : c = false → B) : if c = true then A else B := by
  cases c with
  | true => exact h1 rfl
  | false => exact h2 rfl
theorem drop_at {α : Type} {xs : List α} {i : Nat} {x : α} (h : xs[i]? = some x) : xs.drop i = x :: xs.drop (i + 1) := by
  obtain ⟨h1, h2⟩ := List.getElem?_eq_some_iff.mp h
  rw [List.drop_eq_getElem_cons h1, h2]
theorem drop_end {α : Type} {xs : List α} {n : Nat} (h : n = xs.length) : xs.drop n = [] := by subst h; exact List.drop_length
end G
/-! My base, part 2: operations of the makings, and their rules. -/
namespace G
open PySem PySem.Spec PyProof.Rows L2 TL

/-! ### ints, truths -/
def eqI (a b : Int) : Bool := decide (V.int a = V.int b)
def neI (a b : Int) : Bool := !decide (V.int a = V.int b)
def eqB (a b : Bool) : Bool := decide (V.bl a = V.bl b)
def neB (a b : Bool) : Bool := !decide (V.bl a = V.bl b)
def eqS (a b : Str) : Bool := decide (V.str a = V.str b)
def neS (a b : Str) : Bool := !decide (V.str a = V.str b)
theorem eqI_iff {a b : Int} : eqI a b = decide (a = b) := by unfold eqI; simp
theorem neI_iff {a b : Int} : neI a b = !decide (a = b) := by unfold neI; simp
theorem eqB_iff {a b : Bool} : eqB a b = decide (a = b) := by unfold eqB; simp
theorem neB_iff {a b : Bool} : neB a b = !decide (a = b) := by unfold neB; simp
theorem eqS_iff {a b : Str} : eqS a b = decide (a = b) := by unfold eqS; simp
theorem neS_iff {a b : Str} : neS a b = !decide (a = b) := by unfold neS; simp
def toI (b : Bool) : Int := if b then 1 else 0
def mulI (a b : Int) : Option Int := if a.natAbs.log2 + b.natAbs.log2 < 1000000 then some (a * b) else none
def divI (a b : Int) : Option Int := if 0 < b ∧ b.natAbs.log2 < 9000 then some (a / b) else none
def modI (a b : Int) : Option Int := if 0 < b then some (a % b) else none
def shlI (a b : Int) : Option Int := if 0 ≤ b ∧ b ≤ 1000000 ∧ a.natAbs < 2 ^ 64 then some (a * 2 ^ b.toNat) else none
def shrI (a b : Int) : Option Int := if 0 ≤ b then some (a / 2 ^ b.toNat) else none
theorem mulI_ok {a b r : Int} (h : mulI a b = some r) : CMulW a b ∧ a * b = r := by
  unfold mulI at h
  split at h
  · exact ⟨by assumption, Option.some.inj h⟩
  · cases h
theorem divI_ok {a b r : Int} (h : divI a b = some r) : CDivW a b ∧ a / b = r := by
  unfold divI at h
  split at h
  · exact ⟨by assumption, Option.some.inj h⟩
  · cases h
theorem modI_ok {a b r : Int} (h : modI a b = some r) : 0 < b ∧ a % b = r := by
  unfold modI at h
  split at h
  · exact ⟨by assumption, Option.some.inj h⟩
  · cases h
theorem shlI_ok {a b r : Int} (h : shlI a b = some r) : CPow a b ∧ a * 2 ^ b.toNat = r := by
  unfold shlI at h
  split at h
  · exact ⟨by assumption, Option.some.inj h⟩
  · cases h
theorem shrI_ok {a b r : Int} (h : shrI a b = some r) : 0 ≤ b ∧ a / 2 ^ b.toNat = r := by
  unfold shrI at h
  split at h
  · exact ⟨by assumption, Option.some.inj h⟩
  · cases h
theorem maxI_eq {i j : Int} : (if j > i then j else i) = max i j := by omega
theorem minI_eq {i j : Int} : (if j < i then j else i) = min i j := by omega

/-! ### texts -/
def sgn (c : Nat) : Str := ⟨#[c]⟩
theorem GS.of {x : Str} (h1 : (tl x).length ≤ sizeLine) (h2 : ∀ c ∈ tl x, c < 0x110000) : GS x := by
  refine ⟨by rw [len_tl]; exact h1, ?_⟩
  show x.cps.all (fun c => decide (c < 0x110000)) = true
  rw [Array.all_eq_true']
  intro c hc
  exact decide_eq_true (h2 c (by simpa [tl] using hc))
theorem GS.mem {x : Str} (g : GS x) : ∀ c ∈ tl x, c < 0x110000 := by
  intro c hc
  have h : x.cps.all (fun c => decide (c < 0x110000)) = true := g.ok
  rw [Array.all_eq_true'] at h
  exact of_decide_eq_true (h c (by simpa [tl] using hc))
theorem GS.tll {x : Str} (g : GS x) : (tl x).length ≤ sizeLine := by rw [← len_tl]; exact g.len
theorem GS.sg {x : Str} {c : Nat} (g : GS x) (h : c ∈ tl x) : GS (sgn c) := GS.of (by show 1 ≤ sizeLine; decide) (fun d hd => by
  have e : d = c := by simpa [tl, sgn] using hd
  rw [e]
  exact g.mem c h)
theorem GS.cut {x : Str} (g : GS x) (lo hi : Option Int) : GS (cutS x lo hi) := GS.of (by
    rw [← len_tl]
    exact Nat.le_trans (cutS_length x lo hi) g.len)
  fun c hc => g.mem c (List.mem_of_mem_drop (List.mem_of_mem_take (show c ∈ ((tl x).drop _).take _ from hc)))
def catS (a b : Str) : Option Str := if a.length + b.length ≤ sizeLine then some (a ++ b) else none
theorem catS_ok {a b r : Str} (h : catS a b = some r) : a.length + b.length ≤ sizeLine ∧ a ++ b = r := by
  unfold catS at h
  split at h
  · exact ⟨by assumption, Option.some.inj h⟩
  · cases h
theorem GS.cat {a b r : Str} (ga : GS a) (gb : GS b) (h : catS a b = some r) : GS r := by
  obtain ⟨h1, rfl⟩ := catS_ok h
  refine GS.of ?_ fun c hc => ?_
  · rw [tl_append, List.length_append, ← len_tl, ← len_tl]
    exact h1
  · rw [tl_append] at hc
    rcases List.mem_append.mp hc with k | k
    · exact ga.mem c k
    · exact gb.mem c k
/-- the sign at a place -/
def codeAt (x : Str) (i : Int) : Option Nat := atI (tl x) i
theorem codeAt_mem {x : Str} {i : Int} {c : Nat} (h : codeAt x i = some c) : c ∈ tl x := by
  unfold codeAt atI at h
  cases e : ixN (tl x).length i with
  | none => rw [e] at h; cases h
  | some j => rw [e] at h; exact List.mem_of_getElem? h
def mulS (x : Str) (n : Int) : Option Str := if -(2 ^ 63 : Int) ≤ n ∧ n ≤ 16777216 ∧ x.length * n.toNat ≤ 16777216 then some (Txt.mul x n) else none
theorem mulS_ok {x r : Str} {n : Int} (h : mulS x n = some r) : MulOk x n ∧ Txt.mul x n = r := by
  unfold mulS at h
  split at h
  · rename_i q
    exact ⟨mulOk_of x.length n.toNat (Nat.le_refl _) (by omega) q.1 (by omega) q.2.2, Option.some.inj h⟩
  · cases h
theorem foldl_app (cs : Array Nat) : ∀ (k : Nat) (acc : Array Nat), ((List.replicate k cs).foldl (· ++ ·) acc).toList = acc.toList ++ (List.replicate k cs.toList).flatten
  | 0, acc => by simp
  | k + 1, acc => by
    rw [List.replicate_succ, List.foldl_cons, foldl_app cs k, List.replicate_succ, List.flatten_cons, Array.toList_append, List.append_assoc]
theorem tl_mul (x : Str) (n : Int) : tl (Txt.mul x n) = (List.replicate n.toNat (tl x)).flatten := by
  unfold Txt.mul
  split
  · have e : n.toNat = 0 := by omega
    rw [e]
    rfl
  · split
    · rename_i h1 h2
      rcases Bool.or_eq_true_iff.mp h2 with h | h
      · have e : n = 1 := eq_of_beq h
        subst e
        show tl x = [tl x].flatten
        simp
      · have e : x.length = 0 := eq_of_beq h
        have e2 : tl x = [] := List.eq_nil_of_length_eq_zero (by rw [← len_tl]; exact e)
        rw [e2]
        simp
    · show ((List.replicate n.toNat x.cps).foldl (· ++ ·) #[]).toList = _
      rw [foldl_app]
      rfl
theorem GS.mul {x r : Str} {n : Int} (g : GS x) (h : mulS x n = some r) : GS r := by
  have h0 := h
  unfold mulS at h0
  split at h0
  · rename_i q
    obtain ⟨_, rfl⟩ := mulS_ok h
    refine GS.of ?_ fun c hc => ?_
    · rw [tl_mul, List.length_flatten, List.map_replicate, List.sum_replicate_nat, ← len_tl, sizeLine_eq, Nat.mul_comm]
      exact q.2.2
    · rw [tl_mul] at hc
      obtain ⟨l, hl, hc⟩ := List.mem_flatten.mp hc
      rw [(List.mem_replicate.mp hl).2] at hc
      exact g.mem c hc
  · cases h0
def joinS (sep : Str) (ys : List Str) : Option Str := if (ys.map (·.length)).sum + ys.length * sep.length ≤ 16777216 then some (Txt.join sep ys) else none
theorem joinS_ok {sep r : Str} {ys : List Str} (h : joinS sep ys = some r) : (ys.map (·.length)).sum + ys.length * sep.length ≤ 16777216 ∧ Txt.join sep ys = r := by
  unfold joinS at h
  split at h
  · exact ⟨by assumption, Option.some.inj h⟩
  · cases h
theorem tl_joinS (sep : Str) (ys : List Str) : tl (Txt.join sep ys) = joinL (tl sep) (ys.map tl) := by
  have e : Txt.join sep ys = Str.join sep ys := by
    unfold Txt.join; exact StrLaws.glued_eq_join sep ys
  rw [e, tl_join]
end G
/-! My base, part 3: rules. -/
namespace G
open PySem PySem.Spec PyProof.Rows L2 TL

section
variable {X : Cx}
theorem CallR.imp {f : Value} {r r' : List V → Hp → VK → Prop} (h : CallR X f r) (k : ∀ xs H Q, r' xs H Q → r xs H Q) : CallR X f r' :=
  fun pins s σ H xs us Q I rx q => h pins s σ H xs us Q I rx (k _ _ _ q)
theorem OpR.imp {f : Value → Value → Sem Value} {r r' : R2} (h : OpR X f r) (k : ∀ x y H Q, r' x y H Q → r x y H Q) : OpR X f r' :=
  fun pins s σ H x y v u Q I rx ry q => h pins s σ H x y v u Q I rx ry (k _ _ _ _ q)
/-- int(a truth) -/
theorem call_toI : CallR X (.type "int") (fun xs H Q => ∃ k, xs = [.bl k] ∧ Q (.int (toI k)) H) := CallR.imp call_int1 fun xs H Q ⟨k, e, q⟩ => .inr ⟨k, e, q⟩
/-- len(a list or tuple), told -/
theorem call_lenL : CallR X (.builtin "len") (fun xs H Q => ∃ p ys n, xs = [.ref p] ∧ (SqL X.K H p ys ∨ SqT X.K H p ys) ∧ ys.length = n ∧ Q (.int (n : Nat)) H) :=
  CallR.imp call_len_seq fun xs H Q ⟨p, ys, n, e, h, e2, q⟩ => ⟨p, ys, e, h, by rw [e2]; exact q⟩
/-- is None, told -/
theorem op_isO : OpR X (compareOp .Is) (fun x y H Q => ∃ b, y = .non ∧ decide (x = .non) = b ∧ Q (.bl b) H) := OpR.imp op_isN fun x y H Q ⟨b, e, e2, q⟩ => ⟨e, by rw [e2]; exact q⟩
theorem op_notO : OpR X (compareOp .IsNot) (fun x y H Q => ∃ b, y = .non ∧ decide (x = .non) = b ∧ Q (.bl (!b)) H) := OpR.imp op_notN fun x y H Q ⟨b, e, e2, q⟩ => ⟨e, by rw [e2]; exact q⟩
theorem op_mulS : OpR X (binaryOp .Mult) (fun x y H Q => ∃ z n, x = .str z ∧ y = .int n ∧ MulOk z n ∧ Q (.str (Txt.mul z n)) H) := by
  intro pins s σ H x y v u Q I rx ry h
  obtain ⟨z, n, rfl, rfl, ok, q⟩ := h
  obtain ⟨t, rfl⟩ := rx
  obtain ⟨t', rfl⟩ := ry
  exact SB.mul ok fun t' k => ⟨.str _, H, I.tok k, ⟨t', rfl⟩, q⟩
/-- xs + ys, lists that are read -/
def rCatL (K : PySem.W.Frag) : R2 := fun x y H Q => ∃ l b xs zs, x = .ref l ∧ y = .ref b ∧ SqL K H l xs ∧ SqL K H b zs ∧ xs.length + zs.length ≤ sizeLine ∧ ∀ p, H p = none → Q (.ref p) (upd H p (.lst (xs ++ zs)))
theorem op_catL : OpR X (binaryOp .Add) (rCatL X.K) := by
  intro pins s σ H x y v u Q I rx ry h
  obtain ⟨l, b, xs, zs, rfl, rfl, hH, hB, hz, q⟩ := h
  cases rx
  cases ry
  obtain ⟨its, r, p1, hl⟩ := I.list hH
  obtain ⟨its2, r2, p2, hl2⟩ := I.list hB
  obtain ⟨⟨cls, dd, data, sl⟩, ho, hc, n, hd⟩ := p1.isList
  obtain ⟨⟨cls2, dd2, data2, sl2⟩, ho2, hc2, n2, hd2⟩ := p2.isList
  simp only at hc hd hc2 hd2
  subst hc hd hc2 hd2
  have ea : its.toArray ++ its2.toArray = (its ++ its2).toArray := by simp
  have e1 := r.length
  have e2 := r2.length
  refine concat_meets ⟨_, ho, rfl⟩ ⟨_, ho2, rfl⟩ noFill_list_add seq_list_add PySem.F.slot_list_add PySem.F.entry_list_add (PySem.F.args_list_add_2 _ _) (PyProof.Rows.list_addW l b its.toArray its2.toArray n n2 dd dd2 sl sl2 (by simp; omega)) ⟨ho, ho2, ?_⟩
  rw [ea]
  exact ⟨.ref _, _, I.lnew (t' := s.toks) (r.append r2) (by rw [List.length_append]; omega), rfl, q _ I.fresh⟩
end

/-! ### parts of an expression, closed: what they come to, whatever follows -/
section
variable {M : Addr → Prop} {F H : Hp} {σ : L2.St} {ta tb tc : TE} {Q : VK} {a c k : Bool}
/-- t comes to the truth c -/
def EvB (M : Addr → Prop) (F H : Hp) (t : VK → Prop) (c : Bool) : Prop := ∀ Q : VK, (∀ F' H', Gr M F H F' H' → Q (.bl c) H') → t Q
def EvT (M : Addr → Prop) (F H : Hp) (t : (Bool → Hp → Prop) → Prop) (c : Bool) : Prop := ∀ Q : Bool → Hp → Prop, (∀ F' H', Gr M F H F' H' → Q c H') → t Q
theorem andV_g (h1 : EvB M F H (fun Q => ta σ H Q) a) (h2 : a = true → ∀ F1 H1, Gr M F H F1 H1 → EvB M F1 H1 (fun Q => tb σ H1 Q) c) (h3 : a = false → c = false)
    (q : ∀ F' H', Gr M F H F' H' → Q (.bl c) H') : tAndV ta tb σ H Q := h1 _ fun F1 H1 g1 => ⟨a, rfl, by
  cases e : a with
  | true => exact iteT (h2 e F1 H1 g1 _ fun F2 H2 g2 => q F2 H2 (g1.trans g2))
  | false =>
    have ec := h3 e
    subst ec
    exact iteF (q F1 H1 g1)⟩
theorem orV_g (h1 : EvB M F H (fun Q => ta σ H Q) a) (h2 : a = false → ∀ F1 H1, Gr M F H F1 H1 → EvB M F1 H1 (fun Q => tb σ H1 Q) c) (h3 : a = true → c = true)
    (q : ∀ F' H', Gr M F H F' H' → Q (.bl c) H') : tOrV ta tb σ H Q := h1 _ fun F1 H1 g1 => ⟨a, rfl, by
  cases e : a with
  | false => exact iteF (h2 e F1 H1 g1 _ fun F2 H2 g2 => q F2 H2 (g1.trans g2))
  | true =>
    have ec := h3 e
    subst ec
    exact iteT (q F1 H1 g1)⟩
theorem andT_g {ta tb : TT} {Q : Bool → Hp → Prop} (h1 : EvT M F H (fun Q => ta σ H Q) a) (h2 : a = true → ∀ F1 H1, Gr M F H F1 H1 → EvT M F1 H1 (fun Q => tb σ H1 Q) c) (h3 : a = false → c = false)
    (q : ∀ F' H', Gr M F H F' H' → Q c H') : tAnd ta tb σ H Q := h1 _ fun F1 H1 g1 => by
  cases e : a with
  | true => exact iteT (h2 e F1 H1 g1 _ fun F2 H2 g2 => q F2 H2 (g1.trans g2))
  | false =>
    have ec := h3 e
    subst ec
    exact iteF (q F1 H1 g1)
theorem orT_g {ta tb : TT} {Q : Bool → Hp → Prop} (h1 : EvT M F H (fun Q => ta σ H Q) a) (h2 : a = false → ∀ F1 H1, Gr M F H F1 H1 → EvT M F1 H1 (fun Q => tb σ H1 Q) c) (h3 : a = true → c = true)
    (q : ∀ F' H', Gr M F H F' H' → Q c H') : tOr ta tb σ H Q := h1 _ fun F1 H1 g1 => by
  cases e : a with
  | false => exact iteF (h2 e F1 H1 g1 _ fun F2 H2 g2 => q F2 H2 (g1.trans g2))
  | true =>
    have ec := h3 e
    subst ec
    exact iteT (q F1 H1 g1)
/-- a < b < c -/
theorem chainV_g {r r' : R2} (h1 : EvB M F H (fun Q => ta σ H fun x H1 => tb σ H1 fun y H2 => r x y H2 Q) a) (h : tChain r r' ta tb tc σ H Q) : tChain r r' ta tb tc σ H Q := h
/-- e if t else e': it comes to what P says -/
theorem ifE_g {tt : TT} {P : V → Hp → Hp → Prop} (h1 : EvT M F H (fun Q => tt σ H Q) a)
    (h2 : a = true → ∀ F1 H1, Gr M F H F1 H1 → ∀ Q : VK, (∀ v F' H', Gr M F1 H1 F' H' → P v F' H' → Q v H') → ta σ H1 Q)
    (h3 : a = false → ∀ F1 H1, Gr M F H F1 H1 → ∀ Q : VK, (∀ v F' H', Gr M F1 H1 F' H' → P v F' H' → Q v H') → tb σ H1 Q)
    (q : ∀ v F' H', Gr M F H F' H' → P v F' H' → Q v H') : tIf tt ta tb σ H Q := h1 _ fun F1 H1 g1 => by
  cases e : a with
  | true => exact iteT (h2 e F1 H1 g1 _ fun v F2 H2 g2 => q v F2 H2 (g1.trans g2))
  | false => exact iteF (h3 e F1 H1 g1 _ fun v F2 H2 g2 => q v F2 H2 (g1.trans g2))
end

/-! ### peeling a statement -/
section
variable {D : Ends} {σ : L2.St} {H : Hp} {t u : TS} {te : TE} {g : TG} {c : TT}
theorem p_seq (h : t { D with nx := u D } σ H) : tSeq t u D σ H := h
theorem p_asg (h : te σ H (fun x H1 => g x σ H1 D.nx)) : tAsg te g D σ H := h
theorem p_ret (h : te σ H D.rt) : tRet te D σ H := h
theorem p_if (h : c σ H (fun b H1 => if b = true then t D σ H1 else u D σ H1)) : tIfS c t u D σ H := h
theorem p_drop (h : te σ H (fun _ H1 => D.nx σ H1)) : tDrop te D σ H := h
/-- a statement, then the rest, with a word between them -/
def tCut (t u : TS) : TS := fun D σ H => ∃ Mid : L2.St → Hp → Prop, t { D with nx := Mid } σ H ∧ ∀ σ' H', Mid σ' H' → u D σ' H'
theorem pss_cut {X : Cx} {st : Stmt} {rest : List Stmt} (h1 : PS X st t) (h2 : PSs X rest u) : PSs X (st :: rest) (tCut t u) := by
  refine ⟨fun pins s σ H D I h => ?_⟩
  obtain ⟨Mid, hm, hu⟩ := h
  refine wpAny_execs_cons (thn (h1.run pins s σ H { D with nx := Mid } I hm) fun f s1 q => ?_)
  cases f with
  | next =>
    obtain ⟨σ', H', I', q⟩ := q
    exact h2.run pins s1 σ' H' D I' (hu σ' H' q)
  | ret v => exact q
  | brk => exact q
  | cont => exact q
end

/-! ### a call by names alone -/
section
variable {X : Cx} {CX : CXT} {k : Nat} {f : Addr} {fd : FuncData} {ps ks : List Str} {sp : Sp} {E : XK} {x : Str} {p pos : Pos} {kws : List Keyword} {tk : TA} {g : List Value → List Value → List Value} {gV : List V → List V → List V}
theorem pe_callK0 (F : FnOk X.prog X.w X.K X.mg X.base CX k f fd ps sp) (hr : Room k X.A) (hg : Gl X x) (hm : X.mg x = some (.ref f)) (hk : PySem.W.keepIn X.K (.ref f) = true) (hb : KBinds X.K fd ps ks g gV) (hx : Passes CX X E)
    (hkw : PK X kws tk) (hall : (backToKw pos (keywordEach kws X.env)).all (·.1.isSome) = true := by rfl) (hks : (backToKw pos (keywordEach kws X.env)).filterMap (·.1) = ks := by rfl)
    (hdb : (x == ("__debug__" : Str)) = false := by decide)
    (hpl : ((backTo pos (starEach [] X.env)).any (·.1) || (backToKw pos (keywordEach kws X.env)).any (·.1.isNone)) = false := by rfl) :
    PE X (.Call (.Name x p) [] kws pos) (tCallK sp gV E tNil tk) := by
  refine ⟨fun pins s σ H Q I h => ?_⟩
  refine wpAny_Call_Name_kw (ld_glob I hg hm ?_ hdb)
  refine PySem.W.callWith_KW0 (h₀ := X.base) I.ok.mod.kin hk hall ?_ hpl
  refine thn (hkw.run pos pins s σ H _ I h) fun ws s2 ⟨zs, H2, I2, rz, q2⟩ => ⟨I2.kIn, ?_⟩
  rw [hks]
  exact run_fnk F hr hb hx I2 .nil rz q2
end

/-! ### texts kept in a written table -/
def dgetS (kvs : List (Str × Str)) (k d : Str) : Str := ((kvs.find? fun kv => decide (kv.1 = k)).map (·.2)).getD d
def kvS (kvs : List (Str × Str)) : List (Key × V) := kvs.map fun kv => (Sum.inr kv.1, V.str kv.2)
theorem valS (k : Str) : ∀ kvs : List (Str × Str), valV (kvS kvs) (Sum.inr k) = ((kvs.find? fun kv => decide (kv.1 = k)).map (·.2)).map V.str
  | [] => rfl
  | kv :: r => by
    unfold valV kvS
    rw [List.map_cons, List.find?_cons, List.find?_cons]
    by_cases h : kv.1 = k
    · have h' : (Sum.inr kv.1 : Key) = Sum.inr k := by rw [h]
      simp only [decide_eq_true h, decide_eq_true h', Option.map_some]
    · have h' : ¬ (Sum.inr kv.1 : Key) = Sum.inr k := fun e => h (Sum.inr.inj e)
      simp only [decide_eq_false h, decide_eq_false h']
      exact valS k r
theorem rd_dgets {ty tx : TE} {σ : L2.St} {H : Hp} {Q : VK} {k d : Str} (trs : List (TE × TE)) (kvs : List (Str × Str)) (he : trs = kvs.map fun kv => (tC (.str kv.1), tC (.str kv.2))) (h15 : kvs.length ≤ 15) (hm : mergeK [] (kvS kvs) = kvS kvs)
    (hy : ∀ H1 Q', Q' (.str k) H1 → ty σ H1 Q') (hx : ∀ H1 Q', Q' (.str d) H1 → tx σ H1 Q') (q : ∀ p, H p = none → Q (.str (dgetS kvs k d)) (upd H p (.dK (kvS kvs)))) : tDGet2 (tDisp trs) ty tx σ H Q := by
  intro p hp
  have walk : ∀ (l : List (Str × Str)) (R : List (V × V) → Hp → Prop) (H1 : Hp), R (l.map fun kv => (V.str kv.1, V.str kv.2)) H1 → tPairs (l.map fun kv => (tC (.str kv.1), tC (.str kv.2))) σ H1 R := by
    intro l
    induction l with
    | nil => intro R H1 h; exact h
    | cons kv l ih => intro R H1 h; exact ih (fun ps H3 => R ((V.str kv.1, V.str kv.2) :: ps) H3) H1 h
  rw [he]
  refine walk kvs _ _ ⟨upd_same, kvS kvs, ?_, ?_, ?_⟩
  · unfold kvS
    rw [List.map_map]
    rfl
  · unfold kvS
    rw [List.length_map]
    exact h15
  · rw [hm, upd_upd]
    refine ⟨p, rfl, .inl ⟨_, .inl upd_same⟩, hy _ _ (hx _ _ ⟨_, DGet.k (k := Sum.inr k) upd_same, ?_⟩)⟩
    rw [valS]
    have e : (((kvs.find? fun kv => decide (kv.1 = k)).map (·.2)).map V.str).getD (.str d) = .str (dgetS kvs k d) := by
      unfold dgetS
      cases (kvs.find? fun kv => decide (kv.1 = k)) <;> rfl
    rw [e]
    exact q p hp
theorem GS.dg {kvs : List (Str × Str)} {k d : Str} (h : ∀ kv ∈ kvs, GS kv.2) (hd : GS d) : GS (dgetS kvs k d) := by
  unfold dgetS
  cases e : (kvs.find? fun kv => decide (kv.1 = k)) with
  | none => exact hd
  | some kv => exact h kv (List.mem_of_find?_eq_some e)
end G
/-! My base, part 4: lists of one's own, the bag. -/
namespace G
open PySem PySem.Spec PyProof.Rows L2 TL

/-- a list of one's own at p: made behind the entry (H0), not among what stays (F) -/
structure Ow (H0 F H : Hp) (p : Addr) (ws : List V) : Prop where
  h : H p = some (.lst ws)
  nF : F p = none
  n0 : H0 p = none
section
variable {M : Addr → Prop} {F0 H0 F H F' H' : Hp} {p q : Addr} {o : HO} {K : PySem.W.Frag} {xs ws us : List V}
theorem Ow.new (g : Gr M F0 H0 F H) (hp : H p = none) : Ow H0 F (upd H p (.lst ws)) p ws := ⟨upd_same, g.noneF hp, g.none0 hp⟩
theorem Ow.frz (w : Ow H0 F H p ws) (hq : H q = none) : Ow H0 (upd F q o) (upd H q o) p ws :=
  have ne := ne_of_none w.h hq
  ⟨(upd_ne ne).trans w.h, (upd_ne ne).trans w.nF, w.n0⟩
theorem Ow.own (w : Ow H0 F H p ws) (hq : H q = none) : Ow H0 F (upd H q o) p ws :=
  have ne := ne_of_none w.h hq
  ⟨(upd_ne ne).trans w.h, w.nF, w.n0⟩
theorem Ow.put (w : Ow H0 F H p ws) : Ow H0 F (upd H p (.lst us)) p us := ⟨upd_same, w.nF, w.n0⟩
theorem Ow.other (w : Ow H0 F H p ws) (ne : p ≠ q) : Ow H0 F (upd H q o) p ws := ⟨(upd_ne ne).trans w.h, w.nF, w.n0⟩
theorem Ow.ne (w : Ow H0 F H p ws) (hq : H q = none) : p ≠ q := ne_of_none w.h hq
theorem Ow.gr (w : Ow H0 F H p ws) (g : Gr M F H F' H') (m : ¬ M p) : Ow H0 F' H' p ws :=
  ⟨g.keep _ _ m w.h, g.new p (by rw [w.h]; simp) w.nF, w.n0⟩
theorem Ow.gr0 (w : Ow H0 F H p ws) (g : Gr M0 F H F' H') : Ow H0 F' H' p ws := w.gr g id
theorem Ow.fz (w : Ow H0 F H p ws) (ne : p ≠ q) : Ow H0 (upd F q o) H p ws := ⟨w.h, (upd_ne ne).trans w.nF, w.n0⟩
theorem Gr.put (g : Gr M F0 H0 F H) (w : Ow H0 F H p ws) : Gr M F0 H0 F (upd H p o) := g.mut w.nF (.inl w.n0)
theorem Gr.fz (g : Gr M F0 H0 F H) (w : Ow H0 F H p ws) : Gr M F0 H0 (upd F p (.lst ws)) H := g.freeze w.h w.n0
theorem Ow.sq (w : Ow H0 F H p ws) : SqL K H p ws := .inl (.inl w.h)
theorem Ow.sf (w : Ow H0 F H p ws) : Same F (upd F p (.lst ws)) := same_new w.nF
theorem fzS : SqL K (upd F p (.lst ws)) p ws := .inl (.inl upd_same)
theorem fzT : SqT K (upd F p (.tup ws)) p ws := .inl (.inl upd_same)
end

/-- the bag of a law: its cells, which is next, the seed, how many were stirred -/
structure Bag where
  cells : List Int
  at_ : Nat
  seed : Int
  cnt : Int
structure BagOk (b : Bag) : Prop where
  lo : 0 ≤ b.seed
  hi : b.seed < 2 ^ 31
abbrev Bc (B C : Addr) : Addr → Prop := fun a => a = B ∨ a = C
structure BagAt (F H : Hp) (B C : Addr) (b : Bag) : Prop where
  hB : H B = some (.lst [.ref C, .int (b.at_ : Nat), .int b.seed, .int b.cnt])
  hC : H C = some (.lst (b.cells.map V.int))
  ne : B ≠ C
  fB : F B = none
  fC : F C = none
section
variable {M : Addr → Prop} {F0 H0 F H F' H' : Hp} {p q B C : Addr} {o : HO} {b b' : Bag} {ws : List V}
theorem BagAt.frz (a : BagAt F H B C b) (hq : H q = none) : BagAt (upd F q o) (upd H q o) B C b :=
  have n1 := ne_of_none a.hB hq
  have n2 := ne_of_none a.hC hq
  ⟨(upd_ne n1).trans a.hB, (upd_ne n2).trans a.hC, a.ne, (upd_ne n1).trans a.fB, (upd_ne n2).trans a.fC⟩
theorem BagAt.own (a : BagAt F H B C b) (hq : H q = none) : BagAt F (upd H q o) B C b :=
  have n1 := ne_of_none a.hB hq
  have n2 := ne_of_none a.hC hq
  ⟨(upd_ne n1).trans a.hB, (upd_ne n2).trans a.hC, a.ne, a.fB, a.fC⟩
theorem BagAt.nb (a : BagAt F H B C b) (hq : H q = none) : ¬ Bc B C q := fun z => by
  rcases z with z | z
  · exact ne_of_none a.hB hq z.symm
  · exact ne_of_none a.hC hq z.symm
theorem BagAt.other (a : BagAt F H B C b) (m : ¬ Bc B C q) : BagAt F (upd H q o) B C b :=
  have n1 : B ≠ q := fun z => m (.inl z.symm)
  have n2 : C ≠ q := fun z => m (.inr z.symm)
  ⟨(upd_ne n1).trans a.hB, (upd_ne n2).trans a.hC, a.ne, a.fB, a.fC⟩
theorem BagAt.fz (a : BagAt F H B C b) (m : ¬ Bc B C q) : BagAt (upd F q o) H B C b :=
  have n1 : B ≠ q := fun z => m (.inl z.symm)
  have n2 : C ≠ q := fun z => m (.inr z.symm)
  ⟨a.hB, a.hC, a.ne, (upd_ne n1).trans a.fB, (upd_ne n2).trans a.fC⟩
theorem BagAt.gr0 (a : BagAt F H B C b) (g : Gr M0 F H F' H') : BagAt F' H' B C b :=
  ⟨g.keep _ _ id a.hB, g.keep _ _ id a.hC, a.ne, g.new _ (by rw [a.hB]; simp) a.fB, g.new _ (by rw [a.hC]; simp) a.fC⟩
/-- a promise over the whole heap as what stays: the caller's own part stays apart -/
theorem Gr.apart (g : Gr M F0 H0 F H) (k : Gr M0 H H F' H') : Gr M F0 H0 F H' :=
  ⟨g.fh.trans fun a o e => k.keep a o id e, g.ff, fun a o m e => k.keep a o id (g.keep a o m e), fun a e => k.there a (g.there a e), g.new⟩
theorem Ow.apart (w : Ow H0 F H p ws) (k : Gr M0 H H F' H') : Ow H0 F H' p ws := ⟨k.keep _ _ id w.h, w.nF, w.n0⟩
theorem BagAt.apart (a : BagAt F H B C b) (k : Gr M0 H H F' H') : BagAt F H' B C b := ⟨k.keep _ _ id a.hB, k.keep _ _ id a.hC, a.ne, a.fB, a.fC⟩
end
end G
namespace G
open PySem PySem.Spec PyProof.Rows L2 TL
/-! ### loops' ends in the makings -/
def lpK {S R T : Type} (l : Lp S R) (f : S → Option T) (g : R → Option T) : Option T := match l with
  | .go s => f s
  | .ret r => g r
def bindL0 {R T : Type} (o : Option (Lp Unit R)) (f : Option T) (g : R → Option T) : Option T := o.bind fun l => lpK l (fun _ => f) g
def bindL1 {α R T : Type} (o : Option (Lp α R)) (f : α → Option T) (g : R → Option T) : Option T := o.bind fun l => lpK l f g
def bindL2 {α β R T : Type} (o : Option (Lp (α × β) R)) (f : α → β → Option T) (g : R → Option T) : Option T := o.bind fun l => lpK l (fun s => f s.1 s.2) g
def bindL3 {α β γ R T : Type} (o : Option (Lp (α × β × γ) R)) (f : α → β → γ → Option T) (g : R → Option T) : Option T := o.bind fun l => lpK l (fun s => f s.1 s.2.1 s.2.2) g
def bindL4 {α β γ δ R T : Type} (o : Option (Lp (α × β × γ × δ) R)) (f : α → β → γ → δ → Option T) (g : R → Option T) : Option T := o.bind fun l => lpK l (fun s => f s.1 s.2.1 s.2.2.1 s.2.2.2) g
section
variable {α β γ δ R T : Type} {g : R → Option T} {r : R} {t : T}
theorem bndL0 {o : Option (Lp Unit R)} {f : Option T} (h : bindL0 o f g = some t) : ∃ l, o = some l ∧ lpK l (fun _ => f) g = some t := Option.bind_eq_some_iff.mp h
theorem bndL1 {o : Option (Lp α R)} {f : α → Option T} (h : bindL1 o f g = some t) : ∃ l, o = some l ∧ lpK l f g = some t := Option.bind_eq_some_iff.mp h
theorem bndL2 {o : Option (Lp (α × β) R)} {f : α → β → Option T} (h : bindL2 o f g = some t) : ∃ l, o = some l ∧ lpK l (fun s => f s.1 s.2) g = some t := Option.bind_eq_some_iff.mp h
theorem bndL3 {o : Option (Lp (α × β × γ) R)} {f : α → β → γ → Option T} (h : bindL3 o f g = some t) : ∃ l, o = some l ∧ lpK l (fun s => f s.1 s.2.1 s.2.2) g = some t := Option.bind_eq_some_iff.mp h
theorem bndL4 {o : Option (Lp (α × β × γ × δ) R)} {f : α → β → γ → δ → Option T} (h : bindL4 o f g = some t) : ∃ l, o = some l ∧ lpK l (fun s => f s.1 s.2.1 s.2.2.1 s.2.2.2) g = some t := Option.bind_eq_some_iff.mp h
theorem bgo0 {f : Option T} (h : lpK (.go ()) (fun _ => f) g = some t) : f = some t := h
theorem bgo1 {f : α → Option T} {a : α} (h : lpK (.go a) f g = some t) : f a = some t := h
theorem bgo2 {f : α → β → Option T} {a : α} {b : β} (h : lpK (.go (a, b)) (fun s => f s.1 s.2) g = some t) : f a b = some t := h
theorem bgo3 {f : α → β → γ → Option T} {a : α} {b : β} {c : γ} (h : lpK (.go (a, b, c)) (fun s => f s.1 s.2.1 s.2.2) g = some t) : f a b c = some t := h
theorem bgo4 {f : α → β → γ → δ → Option T} {a : α} {b : β} {c : γ} {d : δ} (h : lpK (.go (a, b, c, d)) (fun s => f s.1 s.2.1 s.2.2.1 s.2.2.2) g = some t) : f a b c d = some t := h
theorem bret {S : Type} {f : S → Option T} (h : lpK (.ret r) f g = some t) : g r = some t := h
end
/-- ranges -/
def rangeL (lo : Int) (n : Nat) : List Int := (List.range n).map fun k => lo + (k : Nat)
theorem rangeL_at {lo : Int} {n i : Nat} (h : i < n) : (rangeL lo n)[i]? = some (lo + (i : Nat)) := by
  unfold rangeL
  rw [List.getElem?_map, List.getElem?_range h]
  rfl
theorem rangeL_len (lo : Int) (n : Nat) : (rangeL lo n).length = n := by unfold rangeL; simp
def rangeO (lo hi : Int) : Option (List Int) := if (-(2 ^ 62) ≤ lo ∧ lo < 2 ^ 62 ∧ -(2 ^ 62) ≤ hi ∧ hi < 2 ^ 62) ∧ (hi - lo).toNat ≤ sizeLine then some (rangeL lo (hi - lo).toNat) else none
theorem rangeO_ok {lo hi : Int} {l : List Int} (h : rangeO lo hi = some l) : ((-(2 ^ 62) ≤ lo ∧ lo < 2 ^ 62 ∧ -(2 ^ 62) ≤ hi ∧ hi < 2 ^ 62) ∧ (hi - lo).toNat ≤ sizeLine) ∧ rangeL lo (hi - lo).toNat = l := by
  unfold rangeO at h
  split at h
  · exact ⟨by assumption, Option.some.inj h⟩
  · cases h
def appL {α : Type} (xs : List α) (x : α) : Option (List α) := if xs.length < sizeLine then some (xs ++ [x]) else none
theorem appL_ok {α : Type} {xs r : List α} {x : α} (h : appL xs x = some r) : xs.length < sizeLine ∧ xs ++ [x] = r := by
  unfold appL at h
  split at h
  · exact ⟨by assumption, Option.some.inj h⟩
  · cases h
def conL {α : Type} (xs ys : List α) : Option (List α) := if xs.length + ys.length ≤ sizeLine then some (xs ++ ys) else none
theorem conL_ok {α : Type} {xs ys r : List α} (h : conL xs ys = some r) : xs.length + ys.length ≤ sizeLine ∧ xs ++ ys = r := by
  unfold conL at h
  split at h
  · exact ⟨by assumption, Option.some.inj h⟩
  · cases h
def cutL {α : Type} (xs : List α) (lo hi : Option Int) : List α := (xs.drop (HT.sIx xs.length 0 lo)).take (HT.sIx xs.length xs.length hi - HT.sIx xs.length 0 lo)
theorem str_at {x : Str} {i c : Nat} (h : x.cps[i]? = some c) : (tl x)[i]? = some c := by simpa [tl] using h
theorem str_size {x : Str} : x.cps.size = (tl x).length := by simp [tl]
theorem lt_line {a i n : Nat} (h : a ≤ i) (h2 : i < n) (h3 : n ≤ sizeLine) : a < sizeLine := by omega
theorem snoc_rest {α : Type} {ds rest res : List α} {x : α} (h : ds ++ (x :: rest) = res) : (ds ++ [x]) ++ rest = res := by rw [← h, List.append_assoc]; rfl
theorem sjoin {α : Type} {a b : α} (h : some a = some b) : a = b := Option.some.inj h
end G
/-! My base, part 5: more peeling, walks over texts, lists' operations. -/
namespace G
open PySem PySem.Spec PyProof.Rows L2 TL

section
variable {D : Ends} {σ : L2.St} {H : Hp} {t u : TS} {te : TE} {g : TG} {c : TT} {wi : TI} {i : Nat} {v : V} {k : L2.St → Hp → Prop}
theorem p_next (h : D.nx σ H) : tNext D σ H := h
theorem p_cont (h : D.ct σ H) : tCont D σ H := h
theorem p_brk (h : D.bk σ H) : tBreak D σ H := h
theorem p_name (h : k (σ.set i (some v)) H) : gName i v σ H k := h
theorem p_nm {v' : V} (e : v = v') (h : k (σ.set i (some v')) H) : gName i v σ H k := by subst e; exact h
theorem p_nx {f : L2.St → Hp → Prop} {r : VK} {bk ct : L2.St → Hp → Prop} (h : f σ H) : (Ends.mk f r bk ct).nx σ H := h
theorem p_yes {A B : Hp → Prop} (h : A H) : tYes σ H (fun b H3 => if b = true then A H3 else B H3) := h
theorem p_for (h : tFor wi g t D σ H) : tFor wi g t D σ H := h
theorem p_id (h : t D σ H) : t D σ H := h
end
theorem pjoin {α β : Type} {a c : α} {b d : β} (h : some (a, b) = some (c, d)) : a = c ∧ b = d := by
  injection h with h
  injection h with h1 h2
  exact ⟨h1, h2⟩
theorem pjoin3 {α β γ : Type} {a a' : α} {b b' : β} {c c' : γ} (h : some (a, b, c) = some (a', b', c')) : a = a' ∧ b = b' ∧ c = c' := by
  injection h with h
  injection h with h1 h2
  injection h2 with h2 h3
  exact ⟨h1, h2, h3⟩
theorem pjoin4 {α β γ δ : Type} {a a' : α} {b b' : β} {c c' : γ} {d d' : δ} (h : some (a, b, c, d) = some (a', b', c', d')) : a = a' ∧ b = b' ∧ c = c' ∧ d = d' := by
  injection h with h
  injection h with h1 h2
  injection h2 with h2 h3
  injection h3 with h3 h4
  exact ⟨h1, h2, h3, h4⟩
theorem pjoin5 {α β γ δ ε : Type} {a a' : α} {b b' : β} {c c' : γ} {d d' : δ} {e e' : ε} (h : some (a, b, c, d, e) = some (a', b', c', d', e')) : a = a' ∧ b = b' ∧ c = c' ∧ d = d' ∧ e = e' := by
  injection h with h
  injection h with h1 h2
  injection h2 with h2 h3
  injection h3 with h3 h4
  injection h4 with h4 h5
  exact ⟨h1, h2, h3, h4, h5⟩

/-! ### parts whose value is told -/
def tVal (t : TE) : TE := fun σ H Q => ∃ v, (∀ Q' : VK, Q' v H → t σ H Q') ∧ Q v H
def tValT (t : TT) : TT := fun σ H Q => ∃ b, (∀ Q' : Bool → Hp → Prop, Q' b H → t σ H Q') ∧ Q b H
section
variable {X : Cx}
theorem pe_val {e : Expr} {t : TE} (h : PE X e t) : PE X e (tVal t) := ⟨fun pins s σ H Q I q => by
  obtain ⟨v, k, q⟩ := q
  exact h.run pins s σ H Q I (k Q q)⟩
theorem pt_valT {e : Expr} {t : TT} (h : PT X e t) : PT X e (tValT t) := ⟨fun pins s σ H Q I q => by
  obtain ⟨v, k, q⟩ := q
  exact h.run pins s σ H Q I (k Q q)⟩
end
section
variable {a b : Bool} {H : Hp}
theorem qTv {Q : VK} (h : a = true) (q : Q (.bl (a && b)) H) : Q (.bl b) H := by subst h; exact q
theorem qFv {Q : VK} (h : a = false) (q : Q (.bl (a && b)) H) : Q (.bl false) H := by subst h; exact q
theorem qTb {Q : Bool → Hp → Prop} (h : a = true) (q : Q (a && b) H) : Q b H := by subst h; exact q
theorem qFb {Q : Bool → Hp → Prop} (h : a = false) (q : Q (a && b) H) : Q false H := by subst h; exact q
end
section
variable {F H : Hp} {σ : L2.St} {ta tb : TE} {Q : VK} {a b : Bool}
theorem andV_t (h1 : EvB M0 F H (fun Q => ta σ H Q) a) (h2 : a = true → ∀ F1 H1, Gr M0 F H F1 H1 → EvB M0 F1 H1 (fun Q => tb σ H1 Q) b)
    (q : ∀ F' H', Gr M0 F H F' H' → Q (.bl (a && b)) H') : tAndV ta tb σ H Q :=
  andV_g (c := a && b) h1 (fun e F1 H1 g => by rw [e]; exact h2 e F1 H1 g) (fun e => by rw [e]; rfl) q
theorem orV_t (h1 : EvB M0 F H (fun Q => ta σ H Q) a) (h2 : a = false → ∀ F1 H1, Gr M0 F H F1 H1 → EvB M0 F1 H1 (fun Q => tb σ H1 Q) b)
    (q : ∀ F' H', Gr M0 F H F' H' → Q (.bl (a || b)) H') : tOrV ta tb σ H Q :=
  orV_g (c := a || b) h1 (fun e F1 H1 g => by rw [e]; exact h2 e F1 H1 g) (fun e => by rw [e]; rfl) q
theorem andT_t {ta tb : TT} {Q : Bool → Hp → Prop} (h1 : EvT M0 F H (fun Q => ta σ H Q) a) (h2 : a = true → ∀ F1 H1, Gr M0 F H F1 H1 → EvT M0 F1 H1 (fun Q => tb σ H1 Q) b)
    (q : ∀ F' H', Gr M0 F H F' H' → Q (a && b) H') : tAnd ta tb σ H Q :=
  andT_g (c := a && b) h1 (fun e F1 H1 g => by rw [e]; exact h2 e F1 H1 g) (fun e => by rw [e]; rfl) q
theorem orT_t {ta tb : TT} {Q : Bool → Hp → Prop} (h1 : EvT M0 F H (fun Q => ta σ H Q) a) (h2 : a = false → ∀ F1 H1, Gr M0 F H F1 H1 → EvT M0 F1 H1 (fun Q => tb σ H1 Q) b)
    (q : ∀ F' H', Gr M0 F H F' H' → Q (a || b) H') : tOr ta tb σ H Q :=
  orT_g (c := a || b) h1 (fun e F1 H1 g => by rw [e]; exact h2 e F1 H1 g) (fun e => by rw [e]; rfl) q
end

/-! ### e if c else e', behind its test -/
section
variable {M : Addr → Prop} {F H : Hp} {σ : L2.St} {ta tb : TE} {Q : VK} {c : Bool}
theorem ifJ {P : V → Hp → Hp → Prop} (h2 : c = true → ∀ Q : VK, (∀ v F' H', Gr M F H F' H' → P v F' H' → Q v H') → ta σ H Q)
    (h3 : c = false → ∀ Q : VK, (∀ v F' H', Gr M F H F' H' → P v F' H' → Q v H') → tb σ H Q)
    (q : ∀ v F' H', Gr M F H F' H' → P v F' H' → Q v H') : if c = true then ta σ H Q else tb σ H Q := by
  cases e : c with
  | true => exact iteT (h2 e Q q)
  | false => exact iteF (h3 e Q q)
end

section
variable {M : Addr → Prop} {F H : Hp} {σ : L2.St} {tb : TE} {ub : TT} {Q : VK} {U : Bool → Hp → Prop} {a c : Bool} {P : Hp → Hp → Prop}
theorem andJV (h2 : a = true → ∀ Q : VK, (∀ F' H', Gr M F H F' H' → P F' H' → Q (.bl c) H') → tb σ H Q) (h3 : a = false → c = false ∧ P F H) (fh : Same F H)
    (q : ∀ F' H', Gr M F H F' H' → P F' H' → Q (.bl c) H') : if a = true then tb σ H Q else Q (.bl false) H := by
  cases e : a with
  | true => exact iteT (h2 e Q q)
  | false =>
    obtain ⟨ec, p⟩ := h3 e
    subst ec
    exact iteF (q _ _ (Gr.refl fh) p)
theorem orJV (h2 : a = false → ∀ Q : VK, (∀ F' H', Gr M F H F' H' → P F' H' → Q (.bl c) H') → tb σ H Q) (h3 : a = true → c = true ∧ P F H) (fh : Same F H)
    (q : ∀ F' H', Gr M F H F' H' → P F' H' → Q (.bl c) H') : if a = true then Q (.bl true) H else tb σ H Q := by
  cases e : a with
  | false => exact iteF (h2 e Q q)
  | true =>
    obtain ⟨ec, p⟩ := h3 e
    subst ec
    exact iteT (q _ _ (Gr.refl fh) p)
theorem andJT (h2 : a = true → ∀ U : Bool → Hp → Prop, (∀ F' H', Gr M F H F' H' → P F' H' → U c H') → ub σ H U) (h3 : a = false → c = false ∧ P F H) (fh : Same F H)
    (q : ∀ F' H', Gr M F H F' H' → P F' H' → U c H') : if a = true then ub σ H U else U false H := by
  cases e : a with
  | true => exact iteT (h2 e U q)
  | false =>
    obtain ⟨ec, p⟩ := h3 e
    subst ec
    exact iteF (q _ _ (Gr.refl fh) p)
theorem orJT (h2 : a = false → ∀ U : Bool → Hp → Prop, (∀ F' H', Gr M F H F' H' → P F' H' → U c H') → ub σ H U) (h3 : a = true → c = true ∧ P F H) (fh : Same F H)
    (q : ∀ F' H', Gr M F H F' H' → P F' H' → U c H') : if a = true then U true H else ub σ H U := by
  cases e : a with
  | false => exact iteF (h2 e U q)
  | true =>
    obtain ⟨ec, p⟩ := h3 e
    subst ec
    exact iteT (q _ _ (Gr.refl fh) p)
end
theorem qOv {a b : Bool} {H : Hp} {Q : VK} (h : a = false) (q : Q (.bl (a || b)) H) : Q (.bl b) H := by subst h; exact q
theorem qOb {a b : Bool} {H : Hp} {Q : Bool → Hp → Prop} (h : a = false) (q : Q (a || b) H) : Q b H := by subst h; exact q
theorem anF {a b : Bool} (h : a = false) : (a && b) = false := by rw [h]; rfl
theorem orTt {a b : Bool} (h : a = true) : (a || b) = true := by rw [h]; rfl
theorem ifTr {c : Bool} {A B : Prop} (h : c = true) (q : A) : if c = true then A else B := by rw [if_pos h]; exact q
theorem ifFr {c : Bool} {A B : Prop} (h : c = false) (q : B) : if c = true then A else B := by rw [if_neg (by rw [h]; decide)]; exact q

/-! ### None -/
class NN (α : Type) [Enc α] : Prop where
  ne : ∀ x : α, Enc.d x ≠ .none
instance : NN Int := ⟨fun _ => nofun⟩
instance : NN Bool := ⟨fun _ => nofun⟩
instance : NN Str := ⟨fun _ => nofun⟩
instance {α : Type} [Enc α] : NN (List α) := ⟨fun _ => nofun⟩
instance {α : Type} [Enc α] : NN (VT α) := ⟨fun _ => nofun⟩
instance {α β : Type} [Enc α] [Enc β] : NN (α × β) := ⟨fun _ => nofun⟩
instance {α β γ : Type} [Enc α] [Enc β] [Enc γ] : NN (T3 α β γ) := ⟨fun _ => nofun⟩
instance {α β γ δ : Type} [Enc α] [Enc β] [Enc γ] [Enc δ] : NN (T4 α β γ δ) := ⟨fun _ => nofun⟩
instance {α β γ δ ε : Type} [Enc α] [Enc β] [Enc γ] [Enc δ] [Enc ε] : NN (T5 α β γ δ ε) := ⟨fun _ => nofun⟩
theorem isN_eq {α : Type} [Enc α] [NN α] {K : PySem.W.Frag} {F : Hp} {v : V} {o : Option α} (r : R K F v o) : decide (v = .non) = o.isNone := by
  cases o with
  | none =>
    have e := R.non_v r
    subst e
    rfl
  | some x =>
    have r' : Rp K F v (Enc.d x) := r
    have h : v ≠ .non := fun e => by
      subst e
      have n := NN.ne x
      revert r' n
      generalize Enc.d x = d
      intro r' n
      cases r'
      exact n rfl
    exact decide_eq_false h

/-! ### walks over texts -/
theorem str_lt {x : Str} {i c : Nat} (h : x.cps[i]? = some c) : i < x.cps.size := (Array.getElem?_eq_some_iff.mp h).1
theorem for_str {z : Str} {g : TG} {tb : TS} {D : Ends} {σ : L2.St} {H : Hp} (Pv : Nat → L2.St → Hp → Prop) (h0 : Pv 0 σ H)
    (hs : ∀ i c σ H, z.cps[i]? = some c → Pv i σ H → g (.str (sgn c)) σ H fun σ2 H2 => tb { D with nx := Pv (i + 1), ct := Pv (i + 1), bk := D.nx } σ2 H2) (hd : ∀ σ H, Pv z.cps.size σ H → D.nx σ H) :
    ∃ W : Nat → Nat → L2.St → Hp → Prop, (∃ m, W 0 m σ H) ∧ ∀ i m σ H, W i m σ H →
      ((Its z).stop i H ∧ D.nx σ H) ∨ ((Its z).go i H ∧ ∃ N : L2.St → Hp → Prop, (∀ σ' H', N σ' H' → ∃ m', m' < m ∧ W (i + 1) m' σ' H') ∧ ∀ x H', (Its z).yld i H x H' → g x σ H' fun σ2 H2 => tb { D with nx := N, ct := N, bk := D.nx } σ2 H2) :=
  for_it walk_str Pv h0 (fun _ _ _ _ _ => trivial) (fun i x σ H H' _ p y => by
    obtain ⟨rfl, c, hc, rfl⟩ := y
    exact hs i c σ _ hc p) hd
theorem lc_str {z : Str} {g : TG} {tt : TT} {te : TE} {vs : List Nat} {σ : L2.St} {H1 : Hp} {D : Addr} {Qd : Hp → Prop} (Pv : Nat → Hp → Prop) (h0 : Pv 0 (upd H1 D (.lst [])))
    (hs : ∀ i c H, z.cps[i]? = some c → Pv i H → g (.str (sgn c)) (wipe σ vs) H fun σ2 H2 => wipe σ2 vs = wipe σ vs ∧ tt σ2 H2 fun b H3 =>
      if b = true then te σ2 H3 fun y H4 => ∃ acc, H4 D = some (.lst acc) ∧ acc.length < sizeLine ∧ Pv (i + 1) (upd H4 D (.lst (acc ++ [y]))) else Pv (i + 1) H3) (hd : ∀ H, Pv z.cps.size H → Qd H) :
    ∃ W : Nat → Nat → Hp → Prop, (∃ m, W 0 m (upd H1 D (.lst []))) ∧ ∀ i m H, W i m H →
      ((Its z).stop i H ∧ Qd H) ∨ ((Its z).go i H ∧ ∃ Nx : Hp → Prop, (∀ H', Nx H' → ∃ m', m' < m ∧ W (i + 1) m' H') ∧ ∀ x H', (Its z).yld i H x H' → g x (wipe σ vs) H' fun σ2 H2 => wipe σ2 vs = wipe σ vs ∧ tt σ2 H2 fun b H3 =>
        if b = true then te σ2 H3 fun y H4 => ∃ acc, H4 D = some (.lst acc) ∧ acc.length < sizeLine ∧ Nx (upd H4 D (.lst (acc ++ [y]))) else Nx H3) :=
  lc_it walk_str Pv h0 (fun _ _ _ _ => trivial) (fun i x H H' _ p y => by
    obtain ⟨rfl, c, hc, rfl⟩ := y
    exact hs i c _ hc p) hd

/-! ### ranges from nought, lists -/
def rangeO1 (hi : Int) : Option (List Int) := if (-(2 ^ 62) ≤ hi ∧ hi < 2 ^ 62) ∧ hi.toNat ≤ sizeLine then some (rangeL 0 hi.toNat) else none
theorem rangeO1_ok {hi : Int} {l : List Int} (h : rangeO1 hi = some l) : ((-(2 ^ 62) ≤ hi ∧ hi < 2 ^ 62) ∧ hi.toNat ≤ sizeLine) ∧ rangeL 0 hi.toNat = l := by
  unfold rangeO1 at h
  split at h
  · exact ⟨by assumption, Option.some.inj h⟩
  · cases h
def setL {α : Type} (xs : List α) (i : Int) (x : α) : Option (List α) := (ixN xs.length i).map fun j => xs.set j x
theorem setL_ok {α : Type} {xs r : List α} {i : Int} {x : α} (h : setL xs i x = some r) : ∃ j, ixN xs.length i = some j ∧ xs.set j x = r := by
  unfold setL at h
  cases e : ixN xs.length i with
  | none => rw [e] at h; cases h
  | some j =>
    rw [e] at h
    exact ⟨j, rfl, Option.some.inj h⟩
/-- sorted whole numbers -/
def sortI (xs : List Int) : List Int := xs.mergeSort fun a b => decide (a ≤ b)
theorem sortI_perm (xs : List Int) : (sortI xs).Perm xs := List.mergeSort_perm _ _
theorem sortI_sorted (xs : List Int) : (sortI xs).Pairwise (· ≤ ·) := by
  have h := List.pairwise_mergeSort (le := fun a b : Int => decide (a ≤ b)) (fun a b c h1 h2 => decide_eq_true (Int.le_trans (of_decide_eq_true h1) (of_decide_eq_true h2)))
    (fun a b => by
      rcases Int.le_total a b with h | h
      · rw [decide_eq_true h]; rfl
      · rw [decide_eq_true h, Bool.or_true]) xs
  exact h.imp fun h => of_decide_eq_true h
theorem sortI_len (xs : List Int) : (sortI xs).length = xs.length := (sortI_perm xs).length_eq
theorem sorted_uniq : ∀ {xs ys : List Int}, xs.Perm ys → xs.Pairwise (· ≤ ·) → ys.Pairwise (· ≤ ·) → xs = ys
  | xs, ys, h, h1, h2 => h.eq_of_pairwise (le := (· ≤ ·)) (fun a b _ _ h3 h4 => Int.le_antisymm h3 h4) h1 h2
theorem sortI_uniq {ns ys : List Int} (h : ys.Perm ns) (h2 : ys.Pairwise (· ≤ ·)) : sortI ns = ys :=
  sorted_uniq ((sortI_perm ns).trans h.symm) (sortI_sorted ns) h2

/-! ### texts: what is stripped, joined -/
theorem GS.sub {x y : Str} (g : GS x) (h : ∀ c ∈ tl y, c ∈ tl x) (hl : (tl y).length ≤ (tl x).length) : GS y := GS.of (Nat.le_trans hl g.tll) fun c hc => g.mem c (h c hc)
theorem GS.join {sep r : Str} {ys : List Str} (gs : GS sep) (gy : ∀ y ∈ ys, GS y) (h : joinS sep ys = some r) : GS r := by
  obtain ⟨h1, rfl⟩ := joinS_ok h
  refine GS.of ?_ fun c hc => ?_
  · rw [← len_tl]
    have e : Txt.join sep ys = Str.join sep ys := by unfold Txt.join; exact StrLaws.glued_eq_join sep ys
    rw [e]
    refine Nat.le_trans (StrLaws.join_length_le sep ys) ?_
    rw [sizeLine_eq]
    exact h1
  · rw [tl_joinS] at hc
    have mem : ∀ (l : List (List Nat)), c ∈ joinL (tl sep) l → c ∈ tl sep ∨ ∃ p ∈ l, c ∈ p := by
      intro l
      induction l with
      | nil => intro h; cases h
      | cons p r ih =>
        cases r with
        | nil => intro h; exact .inr ⟨p, List.mem_singleton.mpr rfl, h⟩
        | cons q r =>
          intro h
          rcases List.mem_append.mp (show c ∈ p ++ (tl sep ++ joinL (tl sep) (q :: r)) from h) with h | h
          · exact .inr ⟨p, List.mem_cons_self .., h⟩
          · rcases List.mem_append.mp h with h | h
            · exact .inl h
            · rcases ih h with h | ⟨p', hp, h⟩
              · exact .inl h
              · exact .inr ⟨p', List.mem_cons_of_mem _ hp, h⟩
    rcases mem _ hc with h | ⟨p, hp, h⟩
    · exact gs.mem c h
    · obtain ⟨y, hy, rfl⟩ := List.mem_map.mp hp
      exact (gy y hy).mem c h
theorem GS.strip {x : Str} (g : GS x) (y : Str) : GS (Txt.stripChars x y) := by
  unfold Txt.stripChars Txt.stripBy
  split
  · exact g
  · have e : ∀ i j, tl (Builtin.Str.strSub x i j) = ((tl x).take j).drop i := fun i j => by
      show (x.cps.extract i j).toList = _
      rw [List.drop_take]
      simp [tl]
    refine g.sub (fun c hc => ?_) ?_
    · unfold stripped at hc
      rw [e] at hc
      exact List.mem_of_mem_take (List.mem_of_mem_drop hc)
    · unfold stripped
      rw [e, List.length_drop, List.length_take]
      omega
end G
/-! My base, part 6: defs by data. -/
namespace G
open PySem PySem.Spec PyProof.Rows L2 TL
abbrev FnP (K : PySem.W.Frag) (x : Str) (st : Stmt) (f : Addr) (fd : FuncData) : Prop := FunD K x x (defArgs st) (defBody st) (defScope st) [] [] f fd
section
variable {P : Program} {w : World} {K : PySem.W.Frag} {mg : Str → Option Value} {base : Heap} {x qual : Str} {params : Arguments} {body : List Stmt} {scope : Scope} {f : Addr} {fd : FuncData}
theorem fd_ok {N ps : List Str} {k : Nat} {sp : Sp} (F : FunD K x qual params body scope [] [] f fd) (S : FnScope N ps scope) (len : ∀ vs H Q E, sp vs H Q E → vs.length = ps.length)
    (hbody : ∀ (cdv : Value) (A : Around) (outer : List Env) (s : Shared) (H : Hp) (vs : List V) (Q : VK) (E : XK), Room k (A.deeper (envOfC qual scope s.heap.objs.size f cdv)) → sp vs H Q E →
      ∃ t, PSs (cxOf CX0 P w K mg base N qual scope f cdv A outer s H E).nox body t ∧ t { nx := fun _ H' => Q .non H', rt := Q } (start N vs) H) : FnOk P w K mg base CX0 (k + 1) f fd ps sp :=
  FunD.ok F S len fun cdv A outer s H vs Q E hr hsp =>
    let ⟨t, h, q⟩ := hbody cdv A outer s H vs Q E hr hsp
    ⟨t, h.nox, q⟩
theorem fd_plain (F : FunD K x qual params body scope [] [] f fd) : ∃ kV doc pm an cdv ct, fd = PySem.W.fnOf x qual params body scope .none kV doc pm an cdv ct := by
  obtain ⟨oc, od, dV, kV, doc, pm, an, cdv, ct, osl, rfl, lk, hcd, hD, hK⟩ := F.ex
  rcases hD with ⟨_, rfl⟩ | ⟨e, _⟩
  · exact ⟨kV, doc, pm, an, cdv, ct, rfl⟩
  · exact absurd rfl e
end
end G
/-! My base, part 7: a text turned round. -/
namespace G
open PySem PySem.Spec PyProof.Rows L2 TL
def revS (x : Str) : Str := ⟨(tl x).reverse.toArray⟩
theorem tl_revS (x : Str) : tl (revS x) = (tl x).reverse := by unfold revS tl; simp
theorem revS_len (x : Str) : (revS x).length = x.length := by rw [len_tl, tl_revS, List.length_reverse, ← len_tl]
theorem GS.rev {x : Str} (g : GS x) : GS (revS x) := g.sub (fun c hc => by rw [tl_revS] at hc; exact List.mem_reverse.mp hc) (by rw [tl_revS, List.length_reverse]; exact Nat.le_refl _)
theorem rev_pick (z : Str) : (⟨((Builtin.Str.strSliceIndices none none (-1) z.length).filterMap (z.cps[·]?)).toArray⟩ : Str) = revS z := by
  have h := step_rev_list z default
  unfold Txt.sliceBy slicePicked at h
  rw [if_neg (by intro h; exact absurd (Bool.and_eq_true_iff.mp h).1 (by decide))] at h
  unfold revS
  have e2 : (tl z).reverse = (List.range z.length).map fun k => z.cps.getD (z.length - 1 - k) 0 := by
    refine List.ext_getElem (by rw [List.length_reverse, List.length_map, List.length_range, ← len_tl]) fun i h1 h2 => ?_
    rw [List.getElem_reverse, List.getElem_map, List.getElem_range]
    have hi : i < z.length := by rw [List.length_reverse, ← len_tl] at h1; exact h1
    have hz : z.cps.size = z.length := rfl
    simp only [tl, Array.getElem_toList, Array.length_toList]
    rw [Array.getD, dif_pos (show z.length - 1 - i < z.cps.size by omega)]
    rfl
  rw [e2, ← h]
  rfl
def tRevS (te : TE) : TE := fun σ H Q => te σ H fun x H1 => ∃ z, x = .str z ∧ z.length ≤ sizeLine ∧ Q (.str (revS z)) H1
theorem pe_revS {X : Cx} {e : Expr} {te : TE} {k : Nat} {p1 p2 p3 pos : Pos} (he : PE X e te) : PE X (.Subscript e (.Slice none none (some (.UnaryOp .USub (.Constant (.int 1) k p1) p2)) p3) pos) (tRevS te) := by
  refine ⟨fun pins s σ H Q I h => ?_⟩
  refine Subscript_ (thn (he.run pins s σ H _ I h) fun v s1 ⟨x, H1, I1, r1, q1⟩ => ?_)
  obtain ⟨z, ex, hz, q⟩ := q1
  subst ex
  obtain ⟨t, rfl⟩ := r1
  have hst : PO X (some (.UnaryOp .USub (.Constant (.int 1) k p1) p2)) (tPart (tUn (rU fun i => .int (-i)) (tC (.int 1)))) := po_some (pe_un un_neg pe_int)
  refine wpAny_Slice (thn (po_none.run pins s1 σ H1 (fun o H2 => o = none ∧ H2 = H1) I1 ⟨rfl, rfl⟩) fun vl s2 ⟨l, H2, I2, pl, el, e2⟩ => ?_)
  subst el e2
  refine thn (po_none.run pins s2 σ H2 (fun o H3 => o = none ∧ H3 = H2) I2 ⟨rfl, rfl⟩) fun vu s3 ⟨u, H3, I3, pu, eu, e3⟩ => ?_
  subst eu e3
  refine thn (hst.run pins s3 σ H3 (fun o H4 => o = some (-1) ∧ H4 = H3) I3 ⟨1, rfl, -1, rfl, rfl, rfl⟩) fun vs s4 ⟨o, H4, I4, ps, eo, e4⟩ => ?_
  subst eo e4
  have I5 : Inv X pins σ H4 { s4 with heap := s4.heap.push { cls := .type "slice", data := .fields #[vl, vu, vs] } } := I4.kept (t' := s4.toks) fun b ob q => Heap.get?_push_of_some _ q
  cases pl
  cases pu
  cases ps with | int _ t2 => ?_
  show wpAny (model X.prog X.w) X.A (subscriptTail e (.Slice none none (some (.UnaryOp .USub (.Constant (.int 1) k p1) p2)) p3) (.str z t) (.ref s4.heap.objs.size)) (EP X pins σ Q) X.xe { s4 with heap := s4.heap.push { cls := .type "slice", data := .fields #[.none, .none, .int (-1) t2] } }
  refine tail_any (ops := [.str z t, .ref s4.heap.objs.size]) (typeIs_str _ _ _) F.slot_str_getitem.lookup ?_ (by with_unfolding_all rfl)
  obtain ⟨os, hos, hcs, hds⟩ := Heap.IsSliceOf.new s4.heap Value.none Value.none (Value.int (-1) t2)
  refine wpAny_getItem_str_slice (l := none) (u := none) (st := some (-1, t2)) ⟨os, hos, hcs, hds⟩ rfl ?_
  have e1 : sliceMade z t none none (some (-1, t2)) = .str (revS z) := by
    unfold sliceMade
    rw [if_neg (by intro h; exact absurd (show ((-1 : Int) == 1) = true from (Bool.and_eq_true_iff.mp h).1) (by decide))]
    exact congrArg Made.str (rev_pick z)
  rw [e1]
  have hl : (revS z).length ≤ sizeLine := by rw [revS_len]; exact hz
  exact ⟨hl, .str _, _, I5.tok _, ⟨_, rfl⟩, q⟩
end G
/-! My base, part 8: which type a thing is of; alike. -/
namespace G
open PySem PySem.Spec PyProof.Rows L2 TL
def tyD : PyData → String
  | .none => "NoneType"
  | .bool _ => "bool"
  | .int _ => "int"
  | .str _ => "str"
  | .list _ => "list"
  | .tuple _ => "tuple"
  | .dict _ => "dict"
def isSq (d : PyData) : Bool := tyD d == "list" || tyD d == "tuple"
section
variable {K : PySem.W.Frag} {F H : Hp} {v : V} {d : PyData} {a : Addr} {xs : List V}
theorem SqL.ty (h : SqL K H a xs) : TyX K H (.ref a) (.type "list") := by
  rcases h with (h | ⟨o, h⟩) | ⟨o, its, n, e, c, _⟩
  · exact .base (.lst h)
  · exact .base (.frz h)
  · exact .kList e c
theorem SqT.ty (h : SqT K H a xs) : TyX K H (.ref a) (.type "tuple") := by
  rcases h with (h | ⟨o, h⟩) | ⟨o, its, n, e, c, _⟩
  · exact .base (.tup h)
  · exact .fTuple h
  · exact .kTuple e c
theorem Rp.ty (h : Rp K H v d) : TyX K H v (.type (tyD d)) := by
  cases h with
  | non => exact .base .non
  | bl b => exact .base (.bl b)
  | int i => exact .base (.int i)
  | str x _ => exact .base (.str x)
  | lst hs _ _ => exact SqL.ty hs
  | tup hs _ _ => exact SqT.ty hs
/-- the six kinds -/
def Knd (s : String) : Prop := s = "NoneType" ∨ s = "bool" ∨ s = "int" ∨ s = "str" ∨ s = "list" ∨ s = "tuple"
theorem Rp.knd (h : Rp K H v d) : Knd (tyD d) := by
  cases h with
  | non => exact .inl rfl
  | bl _ => exact .inr (.inl rfl)
  | int _ => exact .inr (.inr (.inl rfl))
  | str _ _ => exact .inr (.inr (.inr (.inl rfl)))
  | lst _ _ _ => exact .inr (.inr (.inr (.inr (.inl rfl))))
  | tup _ _ _ => exact .inr (.inr (.inr (.inr (.inr rfl))))
theorem kit_two (s : String) (b c : Bool) (h1 : kitB s "list" = some b) (h2 : kitB s "tuple" = some c) : PySem.W.kitAny K (.type s) [.type "list", .type "tuple"] = some (b || c) := by
  refine kitAny_cons (b := b) (kit_ty h1) (fun hb => ?_) (fun hb => by rw [hb]; rfl)
  refine kitAny_cons (b := c) (kit_ty h2) (fun hc => ?_) (fun hc => by rw [hc, Bool.or_true])
  rw [hb, hc]
  exact kitAny_nil
theorem kit_lt {s : String} (h : Knd s) : PySem.W.kitAny K (.type s) [.type "list", .type "tuple"] = some (s == "list" || s == "tuple") := by
  rcases h with rfl | rfl | rfl | rfl | rfl | rfl <;> exact kit_two _ _ _ (by decide +kernel) (by decide +kernel)
theorem kit_one {s : String} (h : Knd s) (t : String) (ht : t = "list" ∨ t = "bool" ∨ t = "str") : PySem.W.kitOne K (.type s) (.type t) = some (s == t) := by
  rcases ht with rfl | rfl | rfl <;> rcases h with rfl | rfl | rfl | rfl | rfl | rfl <;> exact kit_ty (by decide +kernel)
theorem kit_int {s : String} (h : Knd s) : PySem.W.kitOne K (.type s) (.type "int") = some (s == "int" || s == "bool") := by
  rcases h with rfl | rfl | rfl | rfl | rfl | rfl <;> exact kit_ty (by decide +kernel)
end
/-- no value of the data is deeper than n -/
theorem depth_list {n : Nat} {ds : List PyData} (h : PyData.depthAll ds + 1 ≤ n + 1) {d : PyData} (hd : d ∈ ds) : d.depth ≤ n := by
  have : ∀ (l : List PyData), d ∈ l → d.depth ≤ PyData.depthAll l := by
    intro l
    induction l with
    | nil => intro h; cases h
    | cons x l ih =>
      intro h
      simp only [PyData.depthAll]
      rcases List.mem_cons.mp h with rfl | h
      · omega
      · have := ih h
        omega
  have := this ds hd
  omega
def sp_alike (n : Nat) (K : PySem.W.Frag) : Sp := fun vs H Q _ => ∃ (v1 v2 : V) (d : PyData), vs = [v1, v2] ∧ Rp K H v1 d ∧ Rp K H v2 d ∧ d.depth ≤ n ∧ (∀ F' H', Gr M0 H H F' H' → Q (.bl true) H')
theorem al_sc {K : PySem.W.Frag} {H : Hp} {v1 v2 : V} {d : PyData} (r1 : Rp K H v1 d) (r2 : Rp K H v2 d) (hc : (tyD d == "list" || tyD d == "tuple") = false) : v1 = v2 ∧ scal v1 v2 = true := by
  cases r1 with
  | non => cases r2; exact ⟨rfl, rfl⟩
  | bl b => cases r2; exact ⟨rfl, rfl⟩
  | int i => cases r2; exact ⟨rfl, rfl⟩
  | str x _ => cases r2; exact ⟨rfl, rfl⟩
  | lst h1 h2 h3 => exact absurd hc (by simp [tyD])
  | tup h1 h2 h3 => exact absurd hc (by simp [tyD])
theorem ix_go {K : PySem.W.Frag} {H : Hp} {p : Addr} {xs : List V} {i : Nat} {v : V} {Q : VK} (h : SqL K H p xs ∨ SqT K H p xs) (e : xs[i]? = some v) (q : Q v H) : rIx K (.ref p) (.int (0 + (i : Nat))) H Q := by
  have ha : atI xs (0 + (i : Nat)) = some v := by rw [Int.zero_add]; exact atI_nat e
  rcases h with h | h
  · exact .inl ⟨p, xs, _, v, rfl, rfl, h, ha, q⟩
  · exact .inr (.inl ⟨p, xs, _, v, rfl, rfl, h, ha, q⟩)
theorem sq_up {K : PySem.W.Frag} {H H' : Hp} {p : Addr} {xs : List V} (h : SqL K H p xs ∨ SqT K H p xs) (e : Same H H') : SqL K H' p xs ∨ SqT K H' p xs := by
  rcases h with h | h
  · exact .inl (e.seq h)
  · exact .inr (SqT_mono e h)
def spA : Nat → PySem.W.Frag → Sp
  | 0, _ => fun _ _ _ _ => False
  | n + 1, K => sp_alike n K
theorem al_sq {K : PySem.W.Frag} {H : Hp} {v1 v2 : V} {d : PyData} {n : Nat} (r1 : Rp K H v1 d) (r2 : Rp K H v2 d) (hc : (tyD d == "list" || tyD d == "tuple") = true) (hd : d.depth ≤ n) :
    ∃ a1 ws1 a2 ws2 ds m, v1 = .ref a1 ∧ v2 = .ref a2 ∧ (SqL K H a1 ws1 ∨ SqT K H a1 ws1) ∧ (SqL K H a2 ws2 ∨ SqT K H a2 ws2) ∧ ws1.length ≤ sizeLine ∧ ws2.length ≤ sizeLine ∧ RpA K H ws1 ds ∧ RpA K H ws2 ds ∧ n = m + 1 ∧ ∀ d ∈ ds, d.depth ≤ m := by
  cases r1 with
  | non => exact absurd hc (by decide)
  | bl b => exact absurd hc (by simp [tyD])
  | int i => exact absurd hc (by simp [tyD])
  | str x _ => exact absurd hc (by simp [tyD])
  | lst h1 h2 h3 =>
    cases r2 with
    | lst k1 k2 k3 =>
      cases n with
      | zero => exact absurd hd (Nat.not_succ_le_zero _)
      | succ m => exact ⟨_, _, _, _, _, m, rfl, rfl, .inl h1, .inl k1, h2, k2, h3, k3, rfl, fun d hd2 => depth_list hd hd2⟩
  | tup h1 h2 h3 =>
    cases r2 with
    | tup k1 k2 k3 =>
      cases n with
      | zero => exact absurd hd (Nat.not_succ_le_zero _)
      | succ m => exact ⟨_, _, _, _, _, m, rfl, rfl, .inr h1, .inr k1, h2, k2, h3, k3, rfl, fun d hd2 => depth_list hd hd2⟩
theorem R.of_eq {α : Type} [Enc α] {K : PySem.W.Frag} {F : Hp} {v : V} {x y : α} (h : x = y) (r : R K F v y) : R K F v x := by rw [h]; exact r
theorem retQ {e : Bool} {Q : VK} {H : Hp} (h : e = true) (q : Q (.bl true) H) : Q (.bl e) H := by rw [h]; exact q
def m_l_alike {α : Type} [DecidableEq α] (x y : α) : Option Bool := if x = y then some true else none
theorem alike_ok {α : Type} [DecidableEq α] {x y : α} {r : Bool} (h : m_l_alike x y = some r) : x = y ∧ true = r := by
  unfold m_l_alike at h
  split at h
  · exact ⟨by assumption, Option.some.inj h⟩
  · cases h
theorem op_powW {X : Cx} : OpR X (binaryOp .Pow) (rI (fun i j => 0 ≤ j ∧ (Builtin.Int.intBits i : Int) * j ≤ 2 ^ 27) fun i j => .int (i ^ j.toNat)) := opI fun _ _ _ _ _ _ _ hc q => pow_int hc.1 hc.2 q
end G
/-! My base, part 9: parts of a text. -/
namespace G
open PySem PySem.Spec PyProof.Rows L2 TL
theorem GS.sub_ {x : Str} (g : GS x) (i j : Nat) : GS (Builtin.Str.strSub x i j) := by
  have e : tl (Builtin.Str.strSub x i j) = ((tl x).take j).drop i := by
    show (x.cps.extract i j).toList = _
    rw [List.drop_take]
    simp [tl]
  refine g.sub (fun c hc => ?_) ?_
  · rw [e] at hc
    exact List.mem_of_mem_take (List.mem_of_mem_drop hc)
  · rw [e, List.length_drop, List.length_take]
    omega
theorem GS.empty : GS Str.empty := ⟨Nat.zero_le _, by decide +kernel⟩
theorem GS.part {x y : Str} (gx : GS x) (gy : GS y) : GS (Txt.partition x y).1 ∧ GS (Txt.partition x y).2.1 ∧ GS (Txt.partition x y).2.2 := by
  unfold Txt.partition
  split
  · exact ⟨gx.sub_ _ _, gy, gx.sub_ _ _⟩
  · exact ⟨gx, .empty, .empty⟩
def partS (x y : Str) : T3 Str Str Str := ⟨(Txt.partition x y).1, (Txt.partition x y).2.1, (Txt.partition x y).2.2⟩
theorem lpgo {S R T : Type} {s : S} {f : S → Option T} {g : R → Option T} {t : T} (h : lpK (.go s) f g = some t) : f s = some t := h
end G
/-! My base, part 10: sorted(set(a list of whole numbers)). -/
namespace G
open PySem PySem.Spec PyProof.Rows L2 TL
section
variable {P : Program} {w : World} {A : Around} {E : Value → Shared → Prop} {s : Shared}
/-- the empty set, as it is laid -/
abbrev newS (w : World) : Obj := { cls := .type "set", dict := none, data := .set #[] 0 (.fresh 0 0 (!w.params.followText "set-order")) }
theorem set_of_list {l : Addr} {xs : Array Value} (ks : List Int) {Q : Value → Shared → Prop} (hh : A.handled = none) (hl : s.heap.IsList l xs) (hk : IntsAre xs.toList ks) (hb : ks.length + 1 < scanBound)
    (hq : ∀ (h' : Heap) (tk c : Nat), SetR w h' s.heap.objs.size (fun j => decide (j ∈ ks)) c → c ≤ ks.length → (∀ b o, s.heap.get? b = some o → h'.get? b = some o) → Q (.ref s.heap.objs.size) { s with heap := h', toks := tk }) :
    wpAny (model P w) A (call (.type "set") [.ref l]) Q E s := by
  have hsz : xs.size = ks.length := (Array.length_toList (xs := xs)).symm.trans (IntsAre.length hk)
  obtain ⟨c0, tl0, hmro⟩ := F.called_set.mro
  have hmade := F.called_set.made; have hsub := F.called_set.sub
  refine wpAny_call (codeAny_of_tree ?_); show wpAny _ _ (callAny (.type "set") _) _ _ _
  refine wpAny_pure ⟨Code.quiet_builtin _ (by decide +kernel), codeAny_builtin F.entry_type_call ?_⟩; rw [Around.under_plain (weight_type_call_type "set" [.ref l] []) rfl]
  have n1 := F.called_set.notType; have n2 := F.called_set.canCreate; have n3 := F.typeCall_set_1 (.ref l)
  repeat (any_goals (first | assumption | wp_step))
  refine codeAny_mono (code_set_led1 (A := A.in1) (.ref l) (E := E) (Q₁ := fun ob s₁ => ob = .ref s.heap.objs.size ∧ s₁ = { s with heap := s.heap.push (newS w) }) ⟨rfl, rfl⟩) fun r s₁ hr => ?_
  cases r with
  | error e => exact hr
  | ok fl =>
    cases fl with
    | next => exact hr.elim
    | brk => exact hr.elim
    | cont => exact hr.elim
    | ret ob =>
      obtain ⟨rfl, rfl⟩ := hr
      have hS : (s.heap.push (newS w)).get? s.heap.objs.size = some (newS w) := Heap.get?_push_size _ rfl
      have hT : Shared.TypeIs { s with heap := s.heap.push (newS w) } (.ref s.heap.objs.size) "set" := ⟨_, hS, rfl⟩
      have hli := F.called_set.init.lookup; have hbi := F.called_set.init.bind (.ref s.heap.objs.size)
      repeat (any_goals (first | assumption | wp_step))
      refine codeAny_mono (codeAny_call_builtin (R := wants (fun rr s₂ => rr = .none ∧ ∃ h' tk c, s₂ = { s with heap := h', toks := tk } ∧ SetR w h' s.heap.objs.size (fun j => decide (j ∈ ks)) c ∧ c ≤ ks.length ∧ (∀ b o, s.heap.get? b = some o → h'.get? b = some o)) E)
        F.called_set.init.plain F.entry_set_init (check_set_init_1 hT ?_)) fun r2 s2 hr2 => ?_
      · obtain ⟨⟨lc, ld, lt, ls⟩, hol, hcl, nl, hdl⟩ := hl
        simp only at hcl hdl; subst hcl; subst hdl
        have hol' : (s.heap.push (newS w)).get? l = some { cls := .type "list", dict := ld, data := .seq xs nl, slots := ls } := Heap.get?_push_of_some _ hol
        have b1 := F.sub_list_set; have b2 := F.sub_list_frozenset
        have b3 : (Value.type "list" == Value.type "dict") = false := by decide
        have hl1 : (s.heap.push (newS w)).IsList l xs := ⟨_, hol', rfl, nl, rfl⟩
        unfold Builtin.«set.__init__» noKeywords Builtin.Frozenset.updateFrom; generalize hPI : pyIter = PI
        wp_walk
        subst hPI; refine wpAny_pyIter_list hl1 ?_
        refine wpAny_bind (wpAny_runValue ?_); have lS : l < s.heap.objs.size := Heap.lt_size hol
        have hh3 : A.in1.in1.in1.handled = none := by simp [hh]
        have lI : l ≠ (s.heap.push (newS w)).objs.size := by rw [Heap.size_push]; exact Nat.ne_of_lt (Nat.lt_succ_of_lt lS)
        have sI : s.heap.objs.size ∉ [(s.heap.push (newS w)).objs.size, l] := by
          rw [Heap.size_push]
          intro z
          rcases List.mem_cons.mp z with z | z
          · exact absurd z (Nat.ne_of_lt (Nat.lt_succ_self _))
          · exact absurd (List.mem_singleton.mp z) (Nat.ne_of_gt lS)
        have each : ∀ (i : Nat) (v : Value), xs[i]? = some v → ∃ k t, ks[i]? = some k ∧ v = .int k t := fun i v hv => by
          have hi : i < ks.length := by rw [← hsz]; exact (Array.getElem?_eq_some_iff.mp hv).1
          obtain ⟨t, e⟩ := PyProof.Rows.IntsAre.int_at hk i v (by rw [Array.getElem?_toList]; exact hv)
          exact ⟨ks[i], t, List.getElem?_eq_getElem hi, by rw [e, List.getD_eq_getElem?_getD, List.getElem?_eq_getElem hi]; rfl⟩
        refine set_update_ints ((Walks.list hh3 _ l lI xs).toS) s.heap.objs.size sI ks hsz hb each (xs.size - 0) 0 _ (by omega) (Nat.zero_le _) ⟨⟨_, Heap.get?_push_size _ rfl, rfl, rfl⟩, (hl1.push _)⟩ ⟨0, Nat.le_refl 0, setR_new_at (Heap.get?_push_of_some _ hS)⟩ (fun s' c' hm hc' hS' => ?_)
        obtain ⟨h', g2, d', tk', os'⟩ := s'
        have eg : g2 = s.gens := hm.gens; have ed : d' = s.drawn := hm.drawn
        have eo : os' = s.os := hm.os; subst eg; subst ed; subst eo
        show wpAny _ _ _ _ _ _; refine wpAny_pure ?_
        show wpAny _ _ (ret Value.none) _ _ _; rw [hsz] at hc'
        refine wpAny_pure ⟨rfl, h', tk', c', rfl, hS', hc', fun b o e => ?_⟩
        have m0 : b < s.heap.objs.size := Heap.lt_size e
        refine hm.heap b o (fun z => ?_) (Heap.get?_push_of_some _ (Heap.get?_push_of_some _ e))
        rcases List.mem_cons.mp z with z | z
        · exact absurd z (Nat.ne_of_lt m0)
        · have z := List.mem_singleton.mp z
          rw [Heap.size_push] at z
          exact absurd z (Nat.ne_of_lt (Nat.lt_succ_of_lt m0))
      · cases r2 with
        | error e => exact hr2
        | ok fl2 =>
          cases fl2 with
          | next => exact hr2.elim
          | brk => exact hr2.elim
          | cont => exact hr2.elim
          | ret rr =>
            obtain ⟨rfl, h', tk, c, rfl, hS', hc', hk'⟩ := hr2
            repeat (any_goals (first | assumption | wp_step))
            exact hq _ _ _ hS' hc' hk'
end
end G
/-! My base, part 11: the set sorted. -/
namespace G
open PySem PySem.Spec PyProof.Rows L2 TL
section
variable {P : Program} {w : World} {A : Around} {E : Value → Shared → Prop} {s : Shared} {a : Addr}
theorem set_sorted {S : Int → Bool} {n : Nat} {Q : Value → Shared → Prop} (R : SetR w s.heap a S n) (hh : A.handled = none)
    (hq : ∀ s' p (out : List Value) (c : Nat) (ns : List Int), (∀ b o, s.heap.get? b = some o → s'.heap.get? b = some o) → s'.gens = s.gens → s'.os = s.os → s.heap.objs.size ≤ p →
      s'.heap.get? p = some (seqObj "list" out.toArray c) → IntsAre out ns → ns.Pairwise (· < ·) → (∀ k, k ∈ ns ↔ S k = true) → ns.length ≤ n → Q (.ref p) s') :
    wpAny (model P w) A (call (.builtin "sorted") [.ref a]) Q E s := by
  obtain ⟨o, es, ep, t, ho, hex, hd, good, nd, hm, hb, hf, hn, hr, hl⟩ := R
  refine Calls.call_function_entry kind_sorted plain_sorted entry_sorted (args_sorted1 _) ?_; unfold Builtin.«sorted»
  refine wpAny_bind (m := checkCount "sorted" 1 1 _) (wpAny_pure ?_)
  refine wpAny_bind (collect_set (A := A.in1) hh ⟨o, ho, hex.1, hd⟩ hf hb hr hl fun s1 vs k1 hz g1 o1 pm => ?_)
  have hvl : vs.length = n := by rw [pm.length_eq, List.length_map, Array.length_toList]; exact hn
  have hI : IntsAre vs (vs.map Builtin.Re.reRawOf) := ints_of vs fun v hv => by
    obtain ⟨e, he, q⟩ := List.mem_map.mp (pm.mem_iff.mp hv)
    obtain ⟨k, tk, h1, _⟩ := good e he
    exact ⟨k, tk, q ▸ h1⟩
  have pk : (vs.map Builtin.Re.reRawOf).Perm (es.toList.map keyOf) := by
    have q := pm.map Builtin.Re.reRawOf
    rwa [List.map_map] at q
  have hsl : vs.length ≤ sizeLine := by
    rw [hvl, ← hn, sizeLine_eq]
    have := hb
    unfold scanBound at this
    omega
  refine wpAny_bind (wpAny_newList ?_ hsl)
  have hoL : (s1.heap.push (seqObj "list" vs.toArray 0)).get? s1.heap.objs.size = some (seqObj "list" vs.toArray 0) := Heap.get?_push_size _ rfl
  refine wpAny_bind (wpAny_holding (wpAny_call_entry slot_list_sort ⟨_, hoL, rfl⟩ entry_list_sort (SrtO.list_sort_ord SrtO.swo_int hoL hsl (fun h2 => SrtO.ints_sortable hI h2) fun out h1 h2 => ⟨_, rfl, ?_⟩) (args_list_sort _)))
  obtain ⟨z1, z2, z3⟩ := SrtO.ints_out hI h1 h2
  obtain ⟨c, hc⟩ := sortedHeap_at (vs := vs) (out := out.toArray) hoL
  have pn := z2.trans pk
  refine wpAny_pure ⟨_, rfl, hq _ s1.heap.objs.size out c _ (fun b u e => ?_) g1 o1 hz hc z1 (lt_of_le_nodup _ z3 (pn.nodup_iff.mpr nd)) (fun k => by rw [pn.mem_iff, ← hm k]) (by rw [pn.length_eq, List.length_map, Array.length_toList, hn]; exact Nat.le_refl _)⟩
  have q := k1 b u e
  have hlt := Heap.lt_size q
  show (sortedHeap (s1.heap.push (seqObj "list" vs.toArray 0)) s1.heap.objs.size vs out.toArray).get? b = some u
  rw [sortedHeap_old (Nat.ne_of_lt hlt) (by rw [Heap.size_push]; exact Nat.lt_succ_of_lt hlt)]
  exact Heap.get?_push_of_some _ q
end
end G
/-! My base, part 12: the rule. -/
namespace G
open PySem PySem.Spec PyProof.Rows L2 TL
section
variable {X : Cx}
/-- sorted(set(a list of whole numbers)) -/
def tSSet (K : PySem.W.Frag) (ta : TE) : TE := fun σ H Q => ta σ H fun x H1 => ∃ (l : Addr) (ks : List Int), x = V.ref l ∧ SqL K H1 l (ks.map V.int) ∧ ks.length < 4000 ∧
  ∀ (ns : List Int) (p : Addr), ns.Pairwise (· < ·) → (∀ k, k ∈ ns ↔ k ∈ ks) → ns.length ≤ ks.length → H1 p = none → Q (.ref p) (upd H1 p (.lst (ns.map V.int)))
theorem pe_sset {a : Expr} {ta : TE} {p p2 q pos : Pos} (hc : X.calm = true) (hg : Gl X "sorted") (hm : X.mg "sorted" = none) (hg2 : Gl X "set") (hm2 : X.mg "set" = none) (ha : PE X a ta)
    (na : starEach [a] X.env = (false, eval a X.env) :: starEach [] X.env := by rfl) : PE X (.Call (.Name "sorted" p) [.Call (.Name "set" p2) [a] [] q] [] pos) (tSSet X.K ta) := by
  refine ⟨fun pins s σ H Q I h => ?_⟩
  refine Call_ (ld_blt I hg hm (u := .builtin "sorted") (by decide +kernel) ?_)
  refine PyProof.Rows.callWith_builtin1 (PyProof.Rows.args_cons ?_ rfl) rfl rfl
  refine Call_ (ld_blt I hg2 hm2 PyProof.Rows.boot_set ?_)
  refine PyProof.Rows.callWith_type1 (PyProof.Rows.args_cons (thn (ha.run pins s σ H _ I h) fun v s1 ⟨x, H1, I1, r1, q1⟩ => PyProof.Rows.args_nil ?_) na) na rfl
  obtain ⟨l, ks, rfl, hq, h4, q1⟩ := q1
  cases r1
  obtain ⟨its, r, pl, hz⟩ := I1.list hq
  refine set_of_list ks (I1.ok.hd hc) pl.isList (by simpa using r.ints) (by unfold scanBound; omega) fun h' tk c hS hck hk => ?_
  refine PyProof.Rows.args_nil ?_
  have I2 : Inv X pins σ H1 { s1 with heap := h', toks := tk } := I1.kept fun b o e => hk b o e
  refine set_sorted hS (I2.ok.hd hc) fun s' p out c2 ns k g o hp hgt hi hs hmem hlen => ?_
  have hlen2 : ns.length ≤ ks.length := Nat.le_trans hlen hck
  have hlz : (ns.map V.int).length ≤ sizeLine := by rw [List.length_map, sizeLine_eq]; omega
  have hn : H1 p = none := I2.hok.fresh hp
  have J : Inv X pins σ (upd H1 p (.lst (ns.map V.int))) s' := Inv.call' (ch := []) I2 o (Un.laid k hp hn) (I2.hok.laid k hp ⟨hlz, out, c2, vals_of_ints hi, hgt⟩) (by rw [g]; exact I2.bare) (fun _ z => nomatch z)
  exact ⟨.ref p, _, J, rfl, q1 ns p hs (fun k => by rw [hmem k, decide_eq_true_iff]) hlen2 hn⟩
end
end G
/-! My base, part 13: what sorted(set(..)) comes to. -/
namespace G
open PySem PySem.Spec PyProof.Rows L2 TL
/-- x put into a rising list, once -/
def ins (x : Int) : List Int → List Int
  | [] => [x]
  | y :: ys => if x < y then x :: y :: ys else if x = y then y :: ys else y :: ins x ys
def ssort (xs : List Int) : List Int := xs.foldr ins []
theorem ins_mem {x k : Int} : ∀ {l : List Int}, k ∈ ins x l ↔ k = x ∨ k ∈ l
  | [] => by simp [ins]
  | y :: ys => by
    unfold ins
    split
    · simp
    · split
      · rename_i h
        subst h
        simp
      · rw [List.mem_cons, ins_mem, List.mem_cons]
        constructor
        · rintro (h | h | h)
          · exact .inr (.inl h)
          · exact .inl h
          · exact .inr (.inr h)
        · rintro (h | h | h)
          · exact .inr (.inl h)
          · exact .inl h
          · exact .inr (.inr h)
theorem ins_sorted {x : Int} : ∀ {l : List Int}, l.Pairwise (· < ·) → (ins x l).Pairwise (· < ·)
  | [], _ => List.pairwise_singleton _ _
  | y :: ys, h => by
    obtain ⟨h1, h2⟩ := List.pairwise_cons.mp h
    unfold ins
    split
    · rename_i hx
      exact List.pairwise_cons.mpr ⟨fun z hz => by
        rcases List.mem_cons.mp hz with rfl | hz
        · exact hx
        · exact Int.lt_trans hx (h1 z hz), h⟩
    · split
      · exact h
      · refine List.pairwise_cons.mpr ⟨fun z hz => ?_, ins_sorted h2⟩
        rcases ins_mem.mp hz with rfl | hz
        · omega
        · exact h1 z hz
theorem ssort_mem {k : Int} : ∀ {l : List Int}, k ∈ ssort l ↔ k ∈ l
  | [] => Iff.rfl
  | x :: l => by
    show k ∈ ins x (ssort l) ↔ _
    rw [ins_mem, ssort_mem, List.mem_cons]
theorem ssort_sorted : ∀ l : List Int, (ssort l).Pairwise (· < ·)
  | [] => List.Pairwise.nil
  | x :: l => ins_sorted (ssort_sorted l)
theorem rise_uniq : ∀ {a b : List Int}, a.Pairwise (· < ·) → b.Pairwise (· < ·) → (∀ k, k ∈ a ↔ k ∈ b) → a = b
  | [], [], _, _, _ => rfl
  | [], y :: _, _, _, h => absurd ((h y).mpr (List.mem_cons_self ..)) (fun z => nomatch z)
  | x :: _, [], _, _, h => absurd ((h x).mp (List.mem_cons_self ..)) (fun z => nomatch z)
  | x :: a, y :: b, ha, hb, h => by
    obtain ⟨a1, a2⟩ := List.pairwise_cons.mp ha
    obtain ⟨b1, b2⟩ := List.pairwise_cons.mp hb
    have e : x = y := by
      rcases List.mem_cons.mp ((h x).mp (List.mem_cons_self ..)) with z | z
      · exact z
      · rcases List.mem_cons.mp ((h y).mpr (List.mem_cons_self ..)) with z2 | z2
        · exact z2.symm
        · have := b1 x z
          have := a1 y z2
          omega
    subst e
    rw [rise_uniq a2 b2 fun k => ?_]
    constructor
    · intro hk
      rcases List.mem_cons.mp ((h k).mp (List.mem_cons_of_mem _ hk)) with z | z
      · have := a1 k hk; omega
      · exact z
    · intro hk
      rcases List.mem_cons.mp ((h k).mpr (List.mem_cons_of_mem _ hk)) with z | z
      · have := b1 k hk; omega
      · exact z
theorem ssort_uniq {xs ns : List Int} (h1 : ns.Pairwise (· < ·)) (h2 : ∀ k, k ∈ ns ↔ k ∈ xs) : ssort xs = ns :=
  rise_uniq (ssort_sorted xs) h1 fun k => by rw [ssort_mem, h2]
def ssetO (xs : List Int) : Option (List Int) := if xs.length < 4000 then some (ssort xs) else none
theorem ssetO_ok {xs r : List Int} (h : ssetO xs = some r) : xs.length < 4000 ∧ ssort xs = r := by
  unfold ssetO at h
  split at h
  · exact ⟨by assumption, Option.some.inj h⟩
  · cases h
end G
/-! My base, part 14: list(zip(two lists)). -/
namespace G
open PySem PySem.Spec PyProof.Rows L2 TL
theorem zip_nolen : typeLookup (.type "zip") "__len__" = pure none := by rw [typeLookup_type, builtinLookup_eq_fast]; kernel_rfl
theorem zip_nohint : typeLookup (.type "zip") "__length_hint__" = pure none := by rw [typeLookup_type, builtinLookup_eq_fast]; kernel_rfl
/-- where the gathering of a zip stands: Ts are the pairs handed out, all of them still there -/
structure ZSt (z TI TO i1 i2 l1 l2 : Addr) (lo : Nat) (xs ys : Array Value) (h : Heap) (Ts : List Addr) : Prop where
  ti : IsPair h TI (.ref i1) (.ref i2)
  z : (Ts = [] ∧ IsZip h z TI TO .none ∧ ∃ a b, IsPair h TO a b) ∨ ∃ T f, T ∈ Ts ∧ IsZipHeld h z TI TO T f
  a1 : h.IsListIter i1 l1 Ts.length
  a2 : h.IsListIter i2 l2 Ts.length
  b1 : h.IsList l1 xs
  b2 : h.IsList l2 ys
  prs : ∀ (j : Nat) (T : Addr), Ts[j]? = some T → ∃ x y, xs[j]? = some x ∧ ys[j]? = some y ∧ IsPair h T x y
  fr : ∀ T ∈ Ts, lo ≤ T
  nd : Ts.Nodup
theorem ne_lo {a b lo : Nat} (h : a < lo) (h2 : lo ≤ b) : b ≠ a := fun e => absurd (e ▸ h2) (Nat.not_le_of_lt h)
section
variable {P : Program} {w : World} {A : Around} {E : Value → Shared → Prop} {s : Shared} {z TI TO i1 i2 l1 l2 S : Addr} {lo : Nat} {xs ys : Array Value} {h h' : Heap} {Ts : List Addr}
theorem ZSt.at_T (Z : ZSt z TI TO i1 i2 l1 l2 lo xs ys h Ts) {T : Addr} (hT : T ∈ Ts) : ∃ o, h.get? T = some o := by
  obtain ⟨j, hj⟩ := List.getElem?_of_mem hT
  obtain ⟨x, y, _, _, p⟩ := Z.prs j T hj
  exact ⟨_, p⟩
/-- what is kept of it by a write elsewhere -/
theorem ZSt.keep (Z : ZSt z TI TO i1 i2 l1 l2 lo xs ys h Ts) (hS : S < lo) (S1 : S ≠ z) (S2 : S ≠ TI) (S3 : S ≠ TO) (S4 : S ≠ i1) (S5 : S ≠ i2) (S6 : S ≠ l1) (S7 : S ≠ l2) (k : ∀ b o, b ≠ S → h.get? b = some o → h'.get? b = some o) : ZSt z TI TO i1 i2 l1 l2 lo xs ys h' Ts := by
  refine ⟨k _ _ S2.symm Z.ti, ?_, Z.a1.at fun o e => k _ o S4.symm e, Z.a2.at fun o e => k _ o S5.symm e, Z.b1.at fun o e => k _ o S6.symm e, Z.b2.at fun o e => k _ o S7.symm e, fun j T hj => ?_, Z.fr, Z.nd⟩
  · rcases Z.z with ⟨e, q, a, b, r⟩ | ⟨T, f, hT, q⟩
    · exact .inl ⟨e, k _ _ S1.symm q, a, b, k _ _ S3.symm r⟩
    · exact .inr ⟨T, f, hT, k _ _ S1.symm q⟩
  · obtain ⟨x, y, e1, e2, p⟩ := Z.prs j T hj
    have hT := Z.fr T (List.mem_of_getElem? hj)
    exact ⟨x, y, e1, e2, k _ _ (ne_lo hS hT) p⟩
/-- one pair more -/
theorem ZSt.more (Z : ZSt z TI TO i1 i2 l1 l2 lo xs ys h Ts) (D : ZipApart z TI TO i1 i2 l1 l2) (hlo : lo ≤ h.objs.size) (hl : z < lo ∧ TO < lo ∧ i1 < lo ∧ i2 < lo) {f : Bool} {x y : Value} (c1 : IsZipHeld h' z TI TO h.objs.size f ∨ ∃ T, T ∈ Ts ∧ IsZipHeld h' z TI TO T f)
    (c2 : h'.IsListIter i1 l1 (Ts.length + 1)) (c3 : h'.IsListIter i2 l2 (Ts.length + 1)) (c4 : IsPair h' h.objs.size x y) (e1 : xs[Ts.length]? = some x) (e2 : ys[Ts.length]? = some y)
    (k : ∀ c o, c ≠ z → c ≠ TO → c ≠ i1 → c ≠ i2 → h.get? c = some o → h'.get? c = some o) : ZSt z TI TO i1 i2 l1 l2 lo xs ys h' (Ts ++ [h.objs.size]) := by
  have hn : h.objs.size ∉ Ts := fun m => by
    obtain ⟨o, e⟩ := Z.at_T m
    exact absurd (Heap.lt_size e) (Nat.lt_irrefl _)
  refine ⟨k _ _ D.TIz D.TITO D.TIi1 D.TIi2 Z.ti, .inr ?_, ?_, ?_, Z.b1.at fun o e => k _ o D.l1z D.l1TO D.l1i1 D.l1i2 e, Z.b2.at fun o e => k _ o D.l2z D.l2TO D.l2i1 D.l2i2 e, fun j T hj => ?_, fun T hT => ?_, ?_⟩
  · rcases c1 with c1 | ⟨T, hT, c1⟩
    · exact ⟨_, f, List.mem_append.mpr (.inr (List.mem_singleton.mpr rfl)), c1⟩
    · exact ⟨T, f, List.mem_append.mpr (.inl hT), c1⟩
  · rw [List.length_append]; exact c2
  · rw [List.length_append]; exact c3
  · by_cases hjl : j < Ts.length
    · rw [List.getElem?_append_left hjl] at hj
      obtain ⟨x', y', f1, f2, p⟩ := Z.prs j T hj
      have hT := Z.fr T (List.mem_of_getElem? hj)
      exact ⟨x', y', f1, f2, k _ _ (ne_lo hl.1 hT) (ne_lo hl.2.1 hT) (ne_lo hl.2.2.1 hT) (ne_lo hl.2.2.2 hT) p⟩
    · rw [List.getElem?_append_right (by omega)] at hj
      have hj0 : j - Ts.length = 0 := by
        cases q : j - Ts.length with
        | zero => rfl
        | succ m => rw [q] at hj; simp at hj
      rw [hj0] at hj
      have eT : h.objs.size = T := Option.some.inj hj
      have ej : j = Ts.length := by omega
      subst ej
      subst eT
      exact ⟨x, y, e1, e2, c4⟩
  · rcases List.mem_append.mp hT with m | m
    · exact Z.fr T m
    · rw [List.mem_singleton.mp m]; exact hlo
  · exact List.nodup_append.mpr ⟨Z.nd, by simp, fun a ha b hb => by
      rw [List.mem_singleton.mp hb]
      intro e
      rw [e] at ha
      exact hn ha⟩
theorem zip_gather {R : Result → Shared → Prop} (hh : A.in1.handled = none) (D : ZipApart z TI TO i1 i2 l1 l2) (hl : z < lo ∧ TO < lo ∧ i1 < lo ∧ i2 < lo) (hS : S < lo) (S1 : S ≠ z) (S2 : S ≠ TI) (S3 : S ≠ TO) (S4 : S ≠ i1) (S5 : S ≠ i2) (S6 : S ≠ l1) (S7 : S ≠ l2) (hn : min xs.size ys.size ≤ sizeLine) (res : Value) :
    ∀ (k : Nat) (s : Shared) (Ts : List Addr) (c : Nat), min xs.size ys.size - Ts.length = k → Ts.length ≤ min xs.size ys.size → lo ≤ s.heap.objs.size → ZSt z TI TO i1 i2 l1 l2 lo xs ys s.heap Ts →
    s.heap.get? S = some { cls := .type "list", dict := none, data := .seq (Ts.map Value.ref).toArray c, slots := #[] } →
    (∀ (s' : Shared) (Ts' : List Addr) (c' : Nat), s'.gens = s.gens → s'.os = s.os → (∀ (j : Nat) (T : Addr), Ts'[j]? = some T → ∃ x y, xs[j]? = some x ∧ ys[j]? = some y ∧ IsPair s'.heap T x y) → (∀ T ∈ Ts', lo ≤ T) → Ts'.Nodup → Ts'.length = min xs.size ys.size → s'.heap.get? S = some { cls := .type "list", dict := none, data := .seq (Ts'.map Value.ref).toArray c', slots := #[] } →
      (∀ b o, b ≠ S → b ≠ z → b ≠ TO → b ≠ i1 → b ≠ i2 → s.heap.get? b = some o → s'.heap.get? b = some o) → R (.ok (.ret res)) s') →
    codeAny (model P w) A (.builtin "list.extend.loop" ⟨[.ref S, .ref z, res], []⟩) R s := by
  intro k
  induction k with
  | zero =>
    intro s Ts c hk hle hlo Z hSo hR
    have hlen : Ts.length = min xs.size ys.size := by omega
    refine codeAny_builtin F.entry_extend_loop ?_; rw [Around.under_plainId F.plain_extend_loop _]
    show wpAny _ A.in1 (pyNext (.ref z) >>= _) _ _ s
    have hend : xs[Ts.length]? = none ∨ ys[Ts.length]? = none := by
      rcases Nat.le_total xs.size ys.size with q | q
      · exact .inl (Array.getElem?_eq_none (by omega))
      · exact .inr (Array.getElem?_eq_none (by omega))
    have fin : ∀ h' : Heap, (∀ c o, c ≠ z → c ≠ TO → c ≠ i1 → c ≠ i2 → s.heap.get? c = some o → h'.get? c = some o) → R (.ok (.ret res)) { s with heap := h' } := fun h' kk => by
      refine hR { s with heap := h' } Ts c rfl rfl (fun j T hj => ?_) Z.fr Z.nd hlen (kk _ _ S1 S3 S4 S5 hSo) (fun b o _ b2 b3 b4 b5 e => kk b o b2 b3 b4 b5 e)
      obtain ⟨x, y, e1, e2, p⟩ := Z.prs j T hj
      have hT := Z.fr T (List.mem_of_getElem? hj)
      exact ⟨x, y, e1, e2, kk _ _ (ne_lo hl.1 hT) (ne_lo hl.2.1 hT) (ne_lo hl.2.2.1 hT) (ne_lo hl.2.2.2 hT) p⟩
    rcases Z.z with ⟨e, q, a, b, r⟩ | ⟨T, f, hT, q⟩
    · refine wpAny_bind (wpAny_pyNext_zip_end hh D q Z.ti r Z.a1 Z.a2 Z.b1 Z.b2 hend fun h' kk => ?_)
      exact wpAny_pure (fin h' kk)
    · obtain ⟨oT, eT⟩ := Z.at_T hT
      refine wpAny_bind (wpAny_pyNext_zip_end_held hh D q eT Z.ti Z.a1 Z.a2 Z.b1 Z.b2 hend fun h' kk => ?_)
      exact wpAny_pure (fin h' fun c o c1 _ c3 c4 e => kk c o c1 c3 c4 e)
  | succ k ih =>
    intro s Ts c hk hle hlo Z hSo hR
    have hlt : Ts.length < min xs.size ys.size := by omega
    have hx : Ts.length < xs.size := by omega
    have hy : Ts.length < ys.size := by omega
    have e1 : xs[Ts.length]? = some xs[Ts.length] := Array.getElem?_eq_getElem hx
    have e2 : ys[Ts.length]? = some ys[Ts.length] := Array.getElem?_eq_getElem hy
    refine codeAny_builtin F.entry_extend_loop ?_; rw [Around.under_plainId F.plain_extend_loop _]
    show wpAny _ A.in1 (pyNext (.ref z) >>= _) _ _ s
    have go : ∀ h' : Heap, h'.objs.size = s.heap.objs.size + 1 → ZSt z TI TO i1 i2 l1 l2 lo xs ys h' (Ts ++ [s.heap.objs.size]) → (∀ c o, c ≠ z → c ≠ TO → c ≠ i1 → c ≠ i2 → s.heap.get? c = some o → h'.get? c = some o) →
        wpAny (model P w) A.in1 (updateSeq S (·.push (Value.ref s.heap.objs.size)) >>= fun _ => again (.builtin "list.extend.loop" ⟨[.ref S, .ref z, res], []⟩)) (fun fin s' => match fin with | .done f => R (.ok f) s' | .again c' => c'.quiet = true ∧ codeAny (model P w) A c' R s') (fun e s' => R (.error e) s') { s with heap := h' } := fun h' hsz Z' kk => by
      have hS' : h'.get? S = some { cls := .type "list", dict := none, data := .seq (Ts.map Value.ref).toArray c, slots := #[] } := kk _ _ S1 S3 S4 S5 hSo
      have hlen1 : ((Ts.map Value.ref).toArray).size = Ts.length := by simp
      refine wpAny_bind ?_
      refine wpAny_updateSeq (s := { s with heap := h' }) hS' rfl (wpAny_pure ⟨plainId_quiet F.plain_extend_loop _, ?_⟩) (by rw [hlen1]; omega) (by show ((Ts.map Value.ref).toArray.push _).size ≤ sizeLine + 1; rw [Array.size_push, hlen1]; omega)
      have hS2 := Heap.get?_update_self (Obj.mapSeq (·.push (Value.ref s.heap.objs.size))) hS' rfl
      have kS : ∀ b o, b ≠ S → h'.get? b = some o → (h'.update S (Obj.mapSeq (·.push (Value.ref s.heap.objs.size)))).get? b = some o := fun b o hb e => (Heap.get?_update_other _ _ (Ne.symm hb)).trans e
      have eA : (Ts.map Value.ref).toArray.push (Value.ref s.heap.objs.size) = ((Ts ++ [s.heap.objs.size]).map Value.ref).toArray := by simp
      refine ih _ (Ts ++ [s.heap.objs.size]) _ (by rw [List.length_append]; show _ - (Ts.length + 1) = k; omega) (by rw [List.length_append]; show Ts.length + 1 ≤ _; omega) ?_ (Z'.keep hS S1 S2 S3 S4 S5 S6 S7 kS) (by rw [← eA]; exact hS2) (fun s' Ts' c' g1 g2 g3 g4 g5 g6 g7 g8 => ?_)
      · show lo ≤ (h'.update S _).objs.size
        rw [(Heap.SameBut.update h' S _).1, hsz]
        omega
      · exact hR s' Ts' c' g1 g2 g3 g4 g5 g6 g7 fun b o b1 b2 b3 b4 b5 e => g8 b o b1 b2 b3 b4 b5 (kS b o b1 (kk b o b2 b3 b4 b5 e))
    rcases Z.z with ⟨e, q, a, b, r⟩ | ⟨T, f, hT, q⟩
    · refine wpAny_bind (wpAny_pyNext_zip_item D q Z.ti r Z.a1 Z.a2 Z.b1 Z.b2 e1 e2 fun h' d1 d2 d3 d4 d5 d6 kk => ?_)
      exact go h' d6 (Z.more D hlo hl (f := false) (.inl d1) d3 d4 d5 e1 e2 kk) kk
    · obtain ⟨oT, eT⟩ := Z.at_T hT
      refine wpAny_bind (wpAny_pyNext_zip_item_held D q eT Z.ti Z.a1 Z.a2 Z.b1 Z.b2 e1 e2 fun h' d1 d3 d4 d5 d6 kk => ?_)
      exact go h' d6 (Z.more D hlo hl (f := true) (.inr ⟨T, hT, d1⟩) d3 d4 d5 e1 e2 fun c o c1 _ c3 c4 e => kk c o c1 c3 c4 e) fun c o c1 _ c3 c4 e => kk c o c1 c3 c4 e
end
end G
/-! My base, part 15: list(zip(..)), the call. -/
namespace G
open PySem PySem.Spec PyProof.Rows L2 TL
section
variable {P : Program} {w : World} {A : Around} {E : Value → Shared → Prop} {s : Shared} {z TI TO i1 i2 l1 l2 S : Addr} {lo : Nat} {xs ys : Array Value}
theorem zip_extend {R : Result → Shared → Prop} (hh : A.handled = none) (D : ZipApart z TI TO i1 i2 l1 l2) (hl : z < lo ∧ TO < lo ∧ i1 < lo ∧ i2 < lo) (hS : S < lo) (S1 : S ≠ z) (S2 : S ≠ TI) (S3 : S ≠ TO) (S4 : S ≠ i1) (S5 : S ≠ i2) (S6 : S ≠ l1) (S7 : S ≠ l2) (hn : min xs.size ys.size ≤ sizeLine) (res : Value)
    (c0 : Nat) (hlo : lo ≤ s.heap.objs.size) (Z : ZSt z TI TO i1 i2 l1 l2 lo xs ys s.heap []) (hSo : s.heap.get? S = some { cls := .type "list", dict := none, data := .seq #[] c0, slots := #[] })
    (hR : ∀ (s' : Shared) (Ts' : List Addr) (c' : Nat), s'.gens = s.gens → s'.os = s.os → (∀ (j : Nat) (T : Addr), Ts'[j]? = some T → ∃ x y, xs[j]? = some x ∧ ys[j]? = some y ∧ IsPair s'.heap T x y) → (∀ T ∈ Ts', lo ≤ T) → Ts'.Nodup → Ts'.length = min xs.size ys.size → s'.heap.get? S = some { cls := .type "list", dict := none, data := .seq (Ts'.map Value.ref).toArray c', slots := #[] } →
      (∀ b o, b ≠ S → b ≠ z → b ≠ TO → b ≠ i1 → b ≠ i2 → s.heap.get? b = some o → s'.heap.get? b = some o) → R (.ok (.ret res)) s') :
    wpAny (model P w) A.in1 (Builtin.List.listExtendWith (.ref S) (.ref z) res) (fun fin s' => match fin with | .done f => R (.ok f) s' | .again c' => c'.quiet = true ∧ codeAny (model P w) A c' R s') (fun e s' => R (.error e) s') s := by
  have hh1 : A.in1.handled = none := by simp [hh]
  obtain ⟨q0, q, ta, tb, tr⟩ : ([] : List Addr) = [] ∧ IsZip s.heap z TI TO .none ∧ ∃ a b, IsPair s.heap TO a b := by
    rcases Z.z with h | ⟨T, f, hT, _⟩
    · exact h
    · exact nomatch hT
  have hT : s.TypeIs (.ref z) "zip" := ⟨_, q, rfl⟩
  unfold Builtin.List.listExtendWith; refine wpAny_bind (wpAny_typeOf hT ?_)
  have m1 : Builtin.List.listSameRef (.ref S) (.ref z) = false := by simp [Builtin.List.listSameRef, S1]
  have m2 : (Value.type "zip" == Value.type "list") = false := by decide
  have m3 : (Value.type "zip" == Value.type "tuple") = false := by decide
  simp only [m1, m2, m3, Bool.or_false, Bool.false_eq_true, if_false]
  refine wpAny_bind (wpAny_pyIter_zip q ?_)
  refine wpAny_bind (wpAny_holding ?_); unfold Builtin.List.listLengthHint
  refine wpAny_bind (wpAny_specialOf hT zip_nolen ?_)
  show wpAny _ A.in1 (specialOf (Value.ref z) (Str.ofString "__length_hint__") >>= _) _ _ _
  refine wpAny_bind (wpAny_specialOf hT zip_nohint ?_); refine wpAny_pure ?_
  show wpAny _ A.in1 (rule "list.extend.makes-room" >>= fun _ => Builtin.List.listTouch (.ref S) >>= fun _ => again (.builtin "list.extend.loop" ⟨[.ref S, .ref z, res], []⟩)) _ _ _
  refine wpAny_bind (wpAny_rule ?_); refine wpAny_bind ?_
  show wpAny _ A.in1 (updateSeq S (·.push .none) >>= fun _ => updateSeq S (·.pop)) _ _ _
  refine wpAny_bind (wpAny_updateSeq hSo rfl ?_)
  have hS2 := Heap.get?_update_self (Obj.mapSeq (·.push Value.none)) hSo rfl
  refine wpAny_updateSeq (hz := by seq_fits) hS2 rfl ?_
  have hS3 := Heap.get?_update_self (Obj.mapSeq (·.pop)) hS2 rfl
  have oth : ∀ b o, b ≠ S → s.heap.get? b = some o → ((s.heap.update S (Obj.mapSeq (·.push Value.none))).update S (Obj.mapSeq (·.pop))).get? b = some o := fun b o hb e => (Heap.get?_update_other _ _ (Ne.symm hb)).trans ((Heap.get?_update_other _ _ (Ne.symm hb)).trans e)
  refine wpAny_pure ⟨plainId_quiet F.plain_extend_loop _, zip_gather hh1 D hl hS S1 S2 S3 S4 S5 S6 S7 hn res (min xs.size ys.size) _ [] _ rfl (Nat.zero_le _) ?_ (Z.keep hS S1 S2 S3 S4 S5 S6 S7 oth) hS3 fun s' Ts' c' g1 g2 g3 g4 g5 g6 g7 g8 => ?_⟩
  · show lo ≤ ((s.heap.update S _).update S _).objs.size
    rw [(Heap.SameBut.update _ S _).1, (Heap.SameBut.update _ S _).1]
    exact hlo
  · exact hR s' Ts' c' g1 g2 g3 g4 g5 g6 g7 fun b o b1 b2 b3 b4 b5 e => g8 b o b1 b2 b3 b4 b5 (oth b o b1 e)
theorem list_zip {Q : Value → Shared → Prop} (hh : A.handled = none) (D : ZipApart z TI TO i1 i2 l1 l2) (hl : z < s.heap.objs.size ∧ TO < s.heap.objs.size ∧ i1 < s.heap.objs.size ∧ i2 < s.heap.objs.size ∧ TI < s.heap.objs.size ∧ l1 < s.heap.objs.size ∧ l2 < s.heap.objs.size) (hn : min xs.size ys.size ≤ sizeLine)
    (hz : IsZip s.heap z TI TO .none) (hTI : IsPair s.heap TI (.ref i1) (.ref i2)) {a b : Value} (hTO : IsPair s.heap TO a b) (a1 : s.heap.IsListIter i1 l1 0) (a2 : s.heap.IsListIter i2 l2 0) (b1 : s.heap.IsList l1 xs) (b2 : s.heap.IsList l2 ys)
    (hq : ∀ (s' : Shared) (Ts' : List Addr) (c' : Nat), s'.gens = s.gens → s'.os = s.os → (∀ (j : Nat) (T : Addr), Ts'[j]? = some T → ∃ x y, xs[j]? = some x ∧ ys[j]? = some y ∧ IsPair s'.heap T x y) → (∀ T ∈ Ts', s.heap.objs.size + 1 ≤ T) → Ts'.Nodup → Ts'.length = min xs.size ys.size → s'.heap.get? s.heap.objs.size = some { cls := .type "list", dict := none, data := .seq (Ts'.map Value.ref).toArray c', slots := #[] } →
      (∀ b o, b ≠ z → b ≠ TO → b ≠ i1 → b ≠ i2 → s.heap.get? b = some o → s'.heap.get? b = some o) → Q (.ref s.heap.objs.size) s') :
    wpAny (model P w) A (call (.type "list") [.ref z]) Q E s := by
  obtain ⟨z1, z2, z3, z4, z5, z6, z7⟩ := hl
  refine callType_codes (Q₁ := fun ob s₁ => ob = .ref s.heap.objs.size ∧ s₁ = { s with heap := s.heap.push { cls := .type "list", data := .seq #[] } }) F.called_list (F.typeCall_list_1 _) F.entry_list_init (code_list_new _ ⟨rfl, rfl⟩) fun ob s₁ h₁ => ?_
  obtain ⟨rfl, rfl⟩ := h₁
  have hSo : (s.heap.push { cls := .type "list", data := .seq #[] }).get? s.heap.objs.size = some { cls := .type "list", data := .seq #[] } := Heap.get?_push_size _ rfl
  have hsz : (s.heap.push { cls := .type "list", data := .seq #[] }).objs.size = s.heap.objs.size + 1 := Heap.size_push ..
  have up : ∀ b o, s.heap.get? b = some o → (s.heap.push { cls := .type "list", data := .seq #[] }).get? b = some o := fun b o e => Heap.get?_push_of_some _ e
  refine ⟨⟨_, hSo, rfl⟩, F.args_list_init_2 _ _, ?_⟩
  show wpAny _ _ (do let old ← Builtin.List.listItems (.ref s.heap.objs.size); Builtin.List.listUpdate (.ref s.heap.objs.size) (fun _ => #[]); letGo old.toList.reverse; Builtin.List.listExtendWith (.ref s.heap.objs.size) (.ref z) .none) _ _ _
  refine wpAny_bind ?_; unfold Builtin.List.listItems
  refine wpAny_bind (wpAny_seqItems hSo rfl (wpAny_pure ?_))
  show wpAny _ _ (updateSeq s.heap.objs.size (fun _ => #[]) >>= fun _ => letGo (#[] : Array Value).toList.reverse >>= fun _ => Builtin.List.listExtendWith (.ref s.heap.objs.size) (.ref z) .none) _ _ _
  refine wpAny_bind (wpAny_updateSeq hSo rfl ?_)
  have hS2 := Heap.get?_update_self (Obj.mapSeq (fun _ => (#[] : Array Value))) hSo rfl
  have oth : ∀ b o, b ≠ s.heap.objs.size → s.heap.get? b = some o → ((s.heap.push { cls := .type "list", data := .seq #[] }).update s.heap.objs.size (Obj.mapSeq (fun _ => (#[] : Array Value)))).get? b = some o := fun b o hb e => (Heap.get?_update_other _ _ (Ne.symm hb)).trans (up b o e)
  refine wpAny_bind (wpAny_letGo ?_)
  have ne : ∀ {b : Addr}, b < s.heap.objs.size → b ≠ s.heap.objs.size := fun hb => Nat.ne_of_lt hb
  refine zip_extend (lo := s.heap.objs.size + 1) (by simp [hh]) D ⟨Nat.lt_succ_of_lt z1, Nat.lt_succ_of_lt z2, Nat.lt_succ_of_lt z3, Nat.lt_succ_of_lt z4⟩ (Nat.lt_succ_self _) (ne z1).symm (ne z5).symm (ne z2).symm (ne z3).symm (ne z4).symm (ne z6).symm (ne z7).symm hn .none _ ?_
    ⟨oth _ _ (ne z5) hTI, .inl ⟨rfl, oth _ _ (ne z1) hz, a, b, oth _ _ (ne z2) hTO⟩, a1.at fun o e => oth _ o (ne z3) e, a2.at fun o e => oth _ o (ne z4) e, b1.at fun o e => oth _ o (ne z6) e, b2.at fun o e => oth _ o (ne z7) e, (fun j T hj => by simp at hj), (fun T hT => nomatch hT), List.nodup_nil⟩ hS2 (fun s' Ts' c' g1 g2 g3 g4 g5 g6 g7 g8 => ?_)
  · show _ ≤ ((s.heap.push _).update _ _).objs.size
    rw [(Heap.SameBut.update _ _ _).1, hsz]
    exact Nat.le_refl _
  · exact ⟨rfl, hq s' Ts' c' g1 g2 g3 g4 g5 g6 g7 fun b o b2 b3 b4 b5 e => g8 b o (Nat.ne_of_lt (Heap.lt_size e)) b2 b3 b4 b5 (oth b o (Nat.ne_of_lt (Heap.lt_size e)) e)⟩
end
end G
/-! My base, part 16: list(zip(..)), the rule; many new pairs. -/
namespace G
open PySem PySem.Spec PyProof.Rows L2 TL
/-- pairs that are laid, one behind another -/
def tupsU (H : Hp) : List (Addr × V × V) → Hp
  | [] => H
  | q :: l => tupsU (upd H q.1 (.tup [q.2.1, q.2.2])) l
structure NewP (H : Hp) (l : List (Addr × V × V)) : Prop where
  none : ∀ q ∈ l, H q.1 = none
  nd : (l.map (·.1)).Nodup
theorem NewP.tail {H : Hp} {q : Addr × V × V} {l : List (Addr × V × V)} (n : NewP H (q :: l)) {o : HO} : NewP (upd H q.1 o) l := by
  have hd := List.nodup_cons.mp (show (q.1 :: l.map (·.1)).Nodup from n.nd)
  refine ⟨fun r hr => ?_, hd.2⟩
  rw [upd_ne (fun e => hd.1 (by rw [← e]; exact List.mem_map.mpr ⟨r, hr, rfl⟩))]
  exact n.none r (List.mem_cons_of_mem _ hr)
theorem tupsU_at : ∀ {l : List (Addr × V × V)} {H : Hp} {a : Addr}, (∀ q ∈ l, q.1 ≠ a) → tupsU H l a = H a
  | [], _, _, _ => rfl
  | q :: l, H, a, h => by
    show tupsU _ l a = _
    rw [tupsU_at fun r hr => h r (List.mem_cons_of_mem _ hr), upd_ne (h q (List.mem_cons_self ..)).symm]
theorem tupsU_in : ∀ {l : List (Addr × V × V)} {H : Hp} {q : Addr × V × V}, (l.map (·.1)).Nodup → q ∈ l → tupsU H l q.1 = some (.tup [q.2.1, q.2.2])
  | r :: l, H, q, hn, hq => by
    have hd := List.nodup_cons.mp (show (r.1 :: l.map (·.1)).Nodup from hn)
    show tupsU _ l q.1 = _
    rcases List.mem_cons.mp hq with rfl | hq
    · rw [tupsU_at fun z hz e => hd.1 (by rw [← e]; exact List.mem_map.mpr ⟨z, hz, rfl⟩), upd_same]
    · exact tupsU_in hd.2 hq
theorem tupsU_gr {M : Addr → Prop} : ∀ {l : List (Addr × V × V)} {F0 H0 F H : Hp}, Gr M F0 H0 F H → NewP H l → Gr M F0 H0 (tupsU F l) (tupsU H l)
  | [], _, _, _, _, g, _ => g
  | q :: l, F0, H0, F, H, g, n => by
    show Gr M F0 H0 (tupsU (upd F q.1 (.tup [q.2.1, q.2.2])) l) (tupsU (upd H q.1 (.tup [q.2.1, q.2.2])) l)
    exact tupsU_gr (g.frz (n.none q (List.mem_cons_self ..))) n.tail
theorem tupsU_RL {α β : Type} [Enc α] [Enc β] {K : PySem.W.Frag} {F : Hp} : ∀ {l : List (Addr × V × V)} {xs : List α} {ys : List β}, (l.map (·.1)).Nodup → (∀ q ∈ l, F q.1 = some (.tup [q.2.1, q.2.2])) → RL K F (l.map (·.2.1)) xs → RL K F (l.map (·.2.2)) ys →
    RL K F (l.map fun q => V.ref q.1) (xs.zip ys)
  | [], _, _, _, _, h1, h2 => by
    have e1 := RL.len h1
    have e3 : ∀ {γ : Type} (z : List γ), ([] : List V).length = z.length → z = [] := fun z h => List.eq_nil_of_length_eq_zero h.symm
    rw [e3 _ e1]
    exact RpA.nil
  | q :: l, [], _, _, _, h1, _ => by cases h1
  | q :: l, _ :: _, [], _, _, _, h2 => by cases h2
  | q :: l, x :: xs, y :: ys, hn, hF, h1, h2 => by
    cases h1 with
    | cons r1 h1 =>
      cases h2 with
      | cons r2 h2 =>
        have hd := List.nodup_cons.mp (show (q.1 :: l.map (·.1)).Nodup from hn)
        exact RL.cons (R.mk2 (.inl (.inl (hF q (List.mem_cons_self ..)))) r1 r2) (tupsU_RL hd.2 (fun z hz => hF z (List.mem_cons_of_mem _ hz)) h1 h2)
theorem HOk.track {P : Program} {w : World} {H : Hp} {h : Heap} {a : Addr} {o : HO} (x : HOk P w H h) (hn : H a = none) (new : ObjOk P w (upd H a o) h a o) : HOk P w (upd H a o) h := fun b u e => by
  by_cases hb : b = a
  · subst hb; rw [upd_same] at e; cases e; exact new
  · rw [upd_ne hb] at e
    exact (x b u e).stay (fun c v _ q => q) (fun c q => by rw [upd_ne (ne_of_none q hn)]; exact q) fun c zs q => by rw [upd_ne (ne_of_none q hn)]; exact q
theorem HOk.tracks {P : Program} {w : World} {h : Heap} : ∀ {l : List (Addr × V × V)} {H : Hp}, HOk P w H h → NewP H l → (∀ q ∈ l, ∃ x y, IsPair h q.1 x y ∧ RelV q.2.1 x ∧ RelV q.2.2 y) → HOk P w (tupsU H l) h
  | [], _, x, _, _ => x
  | q :: l, H, x, n, hp => by
    obtain ⟨a, b, p, r1, r2⟩ := hp q (List.mem_cons_self ..)
    refine HOk.tracks (l := l) (H := upd H q.1 (.tup [q.2.1, q.2.2])) (HOk.track x (n.none q (List.mem_cons_self ..)) ⟨by show 2 ≤ sizeLine; decide, [a, b], .cons r1 (.cons r2 .nil), ⟨_, p, rfl, _, rfl⟩⟩) n.tail fun z hz => hp z (List.mem_cons_of_mem _ hz)
theorem vals_refs : ∀ Ts : List Addr, Vals (Ts.map V.ref) (Ts.map Value.ref)
  | [] => .nil
  | _ :: Ts => .cons rfl (vals_refs Ts)
section
variable {X : Cx}
/-- list(zip(xs, ys)) of two lists -/
def tLZip (K : PySem.W.Frag) (ta : TA) : TE := fun σ H Q => ta σ H fun vs H1 => ∃ (a b : Addr) (xs ys : List V), vs = [.ref a, .ref b] ∧ SqL K H1 a xs ∧ SqL K H1 b ys ∧
  ∀ (l : List (Addr × V × V)) (p : Addr), NewP H1 l → l.map (·.2.1) = xs.take (min xs.length ys.length) → l.map (·.2.2) = ys.take (min xs.length ys.length) → tupsU H1 l p = none → Q (.ref p) (upd (tupsU H1 l) p (.lst (l.map fun q => V.ref q.1)))
theorem pe_lzip {e e2 : Expr} {ta : TA} {p p2 q pos : Pos} (hc : X.calm = true) (hg : Gl X "list") (hm : X.mg "list" = none) (hg2 : Gl X "zip") (hm2 : X.mg "zip" = none) (ha : PA X [e, e2] ta)
    (hs : starEach [e, e2] X.env = (false, eval e X.env) :: starEach [e2] X.env := by rfl) (hpl : (backTo q (starEach [e2] X.env)).any (·.1) = false := by rfl) :
    PE X (.Call (.Name "list" p) [.Call (.Name "zip" p2) [e, e2] [] q] [] pos) (tLZip X.K ta) := by
  refine ⟨fun pins s σ H Q I h => ?_⟩
  refine Call_ (ld_blt I hg hm (u := .type "list") (by decide +kernel) ?_)
  refine PyProof.Rows.callWith_type1 (PyProof.Rows.args_cons ?_ rfl) rfl rfl
  refine Call_ (ld_blt I hg2 hm2 PyProof.Rows.boot_zip (PyProof.Rows.callWith_type1 (thn (ha.run q pins s σ H _ I h) fun us s1 ⟨vs, H1, I1, r1, q1⟩ => ?_) hs hpl))
  obtain ⟨a, b, xs, ys, ex, hqx, hqy, q1⟩ := q1
  subst ex
  obtain ⟨u1, u2, rfl, ra, rb⟩ := vals2 r1
  cases (show u1 = Value.ref a from ra)
  cases (show u2 = Value.ref b from rb)
  obtain ⟨its, rv, p1, hz1⟩ := I1.list hqx
  obtain ⟨its2, rv2, pq2, hz2⟩ := I1.list hqy
  have la : a < s1.heap.objs.size := p1.lt
  have lb : b < s1.heap.objs.size := pq2.lt
  refine call_zip_2 p1.isList pq2.isList fun h' hz hTI hTO h1 h2 hsz hk => ?_
  refine PyProof.Rows.args_nil ?_
  have hmin : min its.toArray.size its2.toArray.size = min xs.length ys.length := by simp [← rv.length, ← rv2.length]
  refine list_zip (s := { s1 with heap := h' }) (I1.ok.hd hc) (PySem.W.ktu_apart s1.heap.objs.size a b la lb) ?_ (by rw [hmin]; exact Nat.le_trans (Nat.min_le_left _ _) hz1) hz hTI hTO h1 h2 (p1.isList.at fun o e => hk a o e) (pq2.isList.at fun o e => hk b o e) fun s' Ts c g1 g2 g3 g4 g5 g6 g7 g8 => ?_
  · show _ < h'.objs.size ∧ _ < h'.objs.size ∧ _ < h'.objs.size ∧ _ < h'.objs.size ∧ _ < h'.objs.size ∧ a < h'.objs.size ∧ b < h'.objs.size
    rw [hsz]
    have la' : (a : Nat) < s1.heap.objs.size := la
    have lb' : (b : Nat) < s1.heap.objs.size := lb
    refine ⟨?_, ?_, ?_, ?_, ?_, ?_, ?_⟩ <;> (first | exact Nat.lt_succ_self _ | exact Nat.add_lt_add_left (by decide) _ | exact Nat.lt_of_lt_of_le la (Nat.le_add_right _ _) | exact Nat.lt_of_lt_of_le lb (Nat.le_add_right _ _) | exact Nat.lt_add_of_pos_right (by decide))
  · have hsz' : h'.objs.size = s1.heap.objs.size + 5 := hsz
    have kept : ∀ b o, s1.heap.get? b = some o → s'.heap.get? b = some o := fun b o e => by
      have hb := Heap.lt_size e
      exact g8 b o (Nat.ne_of_lt (Nat.lt_of_lt_of_le hb (Nat.le_add_right _ _))) (Nat.ne_of_lt (Nat.lt_of_lt_of_le hb (Nat.le_add_right _ _))) (Nat.ne_of_lt hb) (Nat.ne_of_lt (Nat.lt_of_lt_of_le hb (Nat.le_add_right _ _))) (hk b o e)
    generalize hn : min xs.length ys.length = n at hmin
    have hl1 : (xs.take n).length = n := by rw [List.length_take]; omega
    have hl2 : (ys.take n).length = n := by rw [List.length_take]; omega
    have hT : Ts.length = n := g6.trans hmin
    have hz2' : ((xs.take n).zip (ys.take n)).length = n := by rw [List.length_zip, hl1, hl2, Nat.min_self]
    obtain ⟨l, hl⟩ : ∃ l, l = Ts.zip ((xs.take n).zip (ys.take n)) := ⟨_, rfl⟩
    have m1 : l.map (·.1) = Ts := by rw [hl]; exact List.map_fst_zip (by rw [hT, hz2']; exact Nat.le_refl _)
    have m2 : l.map (·.2) = (xs.take n).zip (ys.take n) := by rw [hl]; exact List.map_snd_zip (by rw [hT, hz2']; exact Nat.le_refl _)
    have m3 : l.map (·.2.1) = xs.take n := by
      have : (l.map (·.2)).map (·.1) = xs.take n := by rw [m2]; exact List.map_fst_zip (by rw [hl1, hl2]; exact Nat.le_refl _)
      rwa [List.map_map] at this
    have m4 : l.map (·.2.2) = ys.take n := by
      have : (l.map (·.2)).map (·.2) = ys.take n := by rw [m2]; exact List.map_snd_zip (by rw [hl1, hl2]; exact Nat.le_refl _)
      rwa [List.map_map] at this
    have m5 : (l.map fun q => V.ref q.1) = Ts.map V.ref := by rw [← m1, List.map_map]; rfl
    have hTlo : ∀ T ∈ Ts, s1.heap.objs.size + 6 ≤ T := fun T hm => by
      have := g4 T hm
      have e : h'.objs.size + 1 = s1.heap.objs.size + 6 := by rw [hsz']
      rw [← e]
      exact this
    have newp : NewP H1 l := ⟨fun q hq => I1.hok.fresh (Nat.le_trans (Nat.le_add_right _ 6) (hTlo q.1 (by rw [← m1]; exact List.mem_map.mpr ⟨q, hq, rfl⟩))), by rw [m1]; exact g5⟩
    have hp0 : ∀ q ∈ l, q.1 ≠ h'.objs.size := fun q hq e => by
      have := g4 q.1 (by rw [← m1]; exact List.mem_map.mpr ⟨q, hq, rfl⟩)
      rw [e] at this
      exact absurd this (Nat.not_succ_le_self _)
    have hpn : tupsU H1 l h'.objs.size = none := by
      rw [tupsU_at hp0]
      exact I1.hok.fresh (by rw [hsz']; exact Nat.le_add_right _ _)
    have prs : ∀ q ∈ l, ∃ x y, IsPair s'.heap q.1 x y ∧ RelV q.2.1 x ∧ RelV q.2.2 y := fun q hq => by
      obtain ⟨j, hj⟩ := List.getElem?_of_mem hq
      have j1 : Ts[j]? = some q.1 := by rw [← m1, List.getElem?_map, hj]; rfl
      have j2 : (xs.take n)[j]? = some q.2.1 := by rw [← m3, List.getElem?_map, hj]; rfl
      have j3 : (ys.take n)[j]? = some q.2.2 := by rw [← m4, List.getElem?_map, hj]; rfl
      obtain ⟨x, y, e1, e2, pr⟩ := g3 j q.1 j1
      have k2 : xs[j]? = some q.2.1 := by
        have := List.getElem?_take_of_lt (l := xs) (show j < n by rw [← hT]; exact (List.getElem?_eq_some_iff.mp j1).1)
        rw [← this]
        exact j2
      have k3 : ys[j]? = some q.2.2 := by
        have := List.getElem?_take_of_lt (l := ys) (show j < n by rw [← hT]; exact (List.getElem?_eq_some_iff.mp j1).1)
        rw [← this]
        exact j3
      obtain ⟨w1, f1, r1⟩ := rv.get k2
      obtain ⟨w2, f2, r2⟩ := rv2.get k3
      have x1 : w1 = x := by
        have : its[j]? = some x := by simpa using e1
        rw [f1] at this
        exact Option.some.inj this
      have x2 : w2 = y := by
        have : its2[j]? = some y := by simpa using e2
        rw [f2] at this
        exact Option.some.inj this
      exact ⟨x, y, pr, x1 ▸ r1, x2 ▸ r2⟩
    have old : ∀ b, b < s1.heap.objs.size → upd (tupsU H1 l) h'.objs.size (.lst (l.map fun q => V.ref q.1)) b = H1 b := fun b hb => by
      rw [upd_ne (Nat.ne_of_lt (Nat.lt_of_lt_of_le hb (by rw [hsz']; exact Nat.le_add_right _ _)))]
      refine tupsU_at fun q hq e => ?_
      have := hTlo q.1 (by rw [← m1]; exact List.mem_map.mpr ⟨q, hq, rfl⟩)
      rw [e] at this
      exact absurd (Nat.lt_of_lt_of_le hb (Nat.le_trans (Nat.le_add_right _ 6) this)) (Nat.lt_irrefl _)
    have oldS : ∀ {b : Addr} {o : HO}, H1 b = some o → upd (tupsU H1 l) h'.objs.size (.lst (l.map fun q => V.ref q.1)) b = some o := fun e => by rw [old _ (I1.hok.lt e)]; exact e
    have hok : HOk X.prog X.w (upd (tupsU H1 l) h'.objs.size (.lst (l.map fun q => V.ref q.1))) s'.heap :=
      HOk.track (HOk.tracks (I1.hok.kept kept) newp prs) hpn ⟨by rw [m5, List.length_map, hT, ← hn]; exact Nat.le_trans (Nat.min_le_left _ _) hz1, Ts.map Value.ref, c, by rw [m5]; exact vals_refs Ts, g7⟩
    have un : Un (frs X.stack) [] H1 (upd (tupsU H1 l) h'.objs.size (.lst (l.map fun q => V.ref q.1))) s1.heap s'.heap :=
      ⟨fun b o e _ _ _ => kept b o e, fun b o e _ _ _ => ⟨o.slots, kept b o e⟩, fun b o e n _ => by rw [old b (Heap.lt_size e)]; exact n, fun b o e _ => ⟨o, kept b o e⟩, fun b zs e => oldS e, fun b o u e => oldS e, fun b ps e => ⟨#[], by rw [oldS e]; simp⟩⟩
    have J : Inv X pins σ (upd (tupsU H1 l) h'.objs.size (.lst (l.map fun q => V.ref q.1))) s' := Inv.call' (ch := []) I1 g2 un hok (by rw [g1]; exact I1.bare) (fun _ z => nomatch z)
    exact ⟨.ref h'.objs.size, _, J, rfl, q1 l h'.objs.size newp (by rw [m3, hn]) (by rw [m4, hn]) hpn⟩
end
end G
/-! My base, part 17: xs.extend(a tuple). -/
namespace G
open PySem PySem.Spec PyProof.Rows L2 TL
theorem ext_tup (l : Addr) (xs : Array Value) (n : Nat) (b : Addr) (ys : Array Value) (n2 : Nat) (dd : Option Addr) (sl : Array (Option Value)) (h0 : ¬(!xs.isEmpty && Builtin.List.listTooLong (xs.size + ys.size)) = true) (h1 : xs.size ≤ sizeLine) (h2 : xs.size + ys.size ≤ sizeLine + 1) :
    Meets (Builtin.«list.extend» ⟨[.ref l, .ref b], []⟩) (fun _ R s => s.heap.get? l = some { cls := .type "list", dict := none, data := .seq xs n, slots := #[] } ∧ s.heap.get? b = some { cls := .type "tuple", dict := dd, data := .seq ys n2, slots := sl } ∧ R (.ok (.ret Value.none)) { s with heap := s.heap.update l (Obj.mapSeq fun x => x ++ ys), toks := s.toks }) :=
  .of_wp fun prog w A R s h => by
    obtain ⟨hp, g, d, tk, os⟩ := s; obtain ⟨hl, hb, h⟩ := h; have q1 := AutoSeq1.idx_int; have q2 := AutoSeq1.sub_tuple_tuple; have q3 := AutoSeq1.sub_list_list; have q4 := AutoSeq1.sub_tuple_list; have q5 := AutoSeq1.sub_list_tuple
    have hz : (xs ++ ys).size ≤ sizeLine + 1 := by rw [Array.size_append]; exact h2
    wp_walk using (wpAny_updateSeq hl rfl (hz := h1) (_hz' := hz)), AutoSeq1.wpAny_loadPart' hl, AutoSeq1.wpAny_loadPart' hb; exact ⟨_, rfl, h⟩
section
variable {X : Cx}
def rExtT (K : PySem.W.Frag) : V → List V → Hp → VK → Prop := fun x vs H Q => ∃ l b xs zs, x = .ref l ∧ vs = [.ref b] ∧ H l = some (.lst xs) ∧ SqT K H b zs ∧ xs.length + zs.length ≤ sizeLine ∧ Q .non (upd H l (.lst (xs ++ zs)))
theorem mt_extT : MtM X "list.extend" (rExtT X.K) := by
  intro pins s σ H x vs v us Q I rx rv h
  obtain ⟨l, b, xs, zs, rfl, rfl, hH, hB, hz, q⟩ := h
  cases rx
  obtain ⟨u, rfl, ru⟩ := rv.one
  cases ru
  obtain ⟨z, its, n, r, hl, e⟩ := I.lstM hH
  obtain ⟨its2, r2, ⟨⟨oc, od, dt, sl⟩, ho, hc, n2, hd⟩, hz2⟩ := I.tuple hB
  simp only at hc hd
  subst hc; subst hd
  have hl2 := r2.length
  have hsz : its.toArray.size + its2.toArray.size ≤ sizeLine := by rw [List.size_toArray, List.size_toArray]; omega
  have hlong : ¬ (!its.toArray.isEmpty && Builtin.List.listTooLong (its.toArray.size + its2.toArray.size)) = true := by rw [notLongL hsz, Bool.and_false]; exact Bool.false_ne_true
  refine call_meets F.slot_list_extend ⟨_, e, rfl⟩ F.entry_list_extend (F.args_list_extend_2 _ _) (ext_tup l its.toArray n b its2.toArray n2 od sl hlong (by rw [List.size_toArray]; omega) (by omega)) ⟨e, ho, ?_⟩
  exact ⟨.non, _, I.lset (its' := its ++ its2) hH e (by simp) (r.append r2) (by rw [List.length_append]; omega), rfl, q⟩
end
end G
/-! My base, part 18: what list(zip(..)) stands for; extend. -/
namespace G
open PySem PySem.Spec PyProof.Rows L2 TL
theorem zip_tk {α β : Type} : ∀ (xs : List α) (ys : List β) (n : Nat), n = min xs.length ys.length → (xs.take n).zip (ys.take n) = xs.zip ys
  | [], ys, n, h => by simp
  | x :: xs, [], n, h => by simp
  | x :: xs, y :: ys, n, h => by
    have e : n = min xs.length ys.length + 1 := by rw [h, List.length_cons, List.length_cons]; omega
    subst e
    rw [List.take_succ_cons, List.take_succ_cons, List.zip_cons_cons, List.zip_cons_cons, zip_tk xs ys _ rfl]
section
variable {α β : Type} [Enc α] [Enc β] {K : PySem.W.Frag} {F H : Hp} {l : List (Addr × V × V)} {ws ws2 : List V} {xs : List α} {ys : List β}
theorem RL.tk (n : Nat) (h : RL K F ws xs) : RL K F (ws.take n) (xs.take n) := by
  show RpA K F _ _
  rw [List.map_take]
  exact RpA.take n h
theorem lz_RL (nw : NewP H l) (sm : Same F (tupsU F l)) (e1 : l.map (·.2.1) = ws.take (min ws.length ws2.length)) (e2 : l.map (·.2.2) = ws2.take (min ws.length ws2.length)) (h1 : RL K F ws xs) (h2 : RL K F ws2 ys) :
    RL K (tupsU F l) (l.map fun q => V.ref q.1) (List.zip xs ys) := by
  rw [← zip_tk xs ys (min ws.length ws2.length) (by rw [h1.len, h2.len])]
  refine tupsU_RL nw.nd (fun q hq => tupsU_in nw.nd hq) ?_ ?_
  · rw [e1]
    exact RpA.up (RL.tk _ h1) sm
  · rw [e2]
    exact RpA.up (RL.tk _ h2) sm
theorem lz_len (e1 : l.map (·.2.1) = ws.take (min ws.length ws2.length)) (hl : ws.length ≤ sizeLine) : (l.map fun q => V.ref q.1).length ≤ sizeLine := by
  have h := congrArg List.length e1
  rw [List.length_map, List.length_take] at h
  rw [List.length_map, h]
  exact Nat.le_trans (Nat.min_le_right _ _) hl
end
def extL {α : Type} (xs ys : List α) : Option (List α) := conL xs ys
end G
/-! My base, part 19: rules that name K. -/
namespace G
open PySem PySem.Spec PyProof.Rows L2 TL
theorem RL.re {α : Type} [Enc α] {K : PySem.W.Frag} {F : Hp} {ws : List V} {x y : List α} (h : x = y) (r : RL K F ws x) : RL K F ws y := h ▸ r
section
variable {X : Cx} {K : PySem.W.Frag}
theorem ix_listK (h : X.K = K := by rfl) : IxR X (rIxL K) := h ▸ ix_list
theorem ix_tupK (h : X.K = K := by rfl) : IxR X (rIxT K) := h ▸ ix_tup
theorem sl_listK (h : X.K = K := by rfl) : SlR X (rSlL K) := h ▸ sl_list
theorem call_lenLK (h : X.K = K := by rfl) : CallR X (.builtin "len") (fun xs H Q => ∃ p ys n, xs = [.ref p] ∧ (SqL K H p ys ∨ SqT K H p ys) ∧ ys.length = n ∧ Q (.int (n : Nat)) H) := by subst h; exact call_lenL
theorem call_isi_ (h : X.K = K := by rfl) : CallR X (.builtin "isinstance") (rIsi K) := by subst h; exact call_isi
theorem call_list_of_ (h : X.K = K := by rfl) : CallR X (.type "list") (fun xs H Q => ∃ p ys, xs = [.ref p] ∧ (SqL K H p ys ∨ SqT K H p ys) ∧ ∀ l, H l = none → Q (.ref l) (upd H l (.lst ys))) := by subst h; exact call_list_of
theorem cr_all_ (hc : X.calm = true) (h : X.K = K := by rfl) : CallR X (.builtin "all") (rAll K) := by subst h; exact cr_all hc
theorem cr_any_ (hc : X.calm = true) (h : X.K = K := by rfl) : CallR X (.builtin "any") (rAny K) := by subst h; exact cr_any hc
theorem cr_sortedI_ (h : X.K = K := by rfl) : CallR X (.builtin "sorted") (rSortedI K) := by subst h; exact cr_sortedI
theorem op_catLK (h : X.K = K := by rfl) : OpR X (binaryOp .Add) (rCatL K) := by subst h; exact op_catL
theorem op_eqDK (hu : X.A.units + 64 < cLine) (h : X.K = K := by rfl) : OpR X (compareOp .Eq) (rEqD K) := by subst h; exact op_eqD hu
theorem op_neDK (hu : X.A.units + 64 < cLine) (h : X.K = K := by rfl) : OpR X (compareOp .NotEq) (rNeD K) := by subst h; exact op_neD hu
theorem pi_listK {tg l : Expr} {tl : TE} (hl : PE X l tl) (h : X.K = K := by rfl) : PI X tg l (iList K tl) := by subst h; exact pi_list hl
theorem pi_tupK {tg l : Expr} {tl : TE} (hl : PE X l tl) (h : X.K = K := by rfl) : PI X tg l (iTup K tl) := by subst h; exact pi_tup hl
theorem pg_tupK {es : List Expr} {k : Nat} {pos : Pos} {t : TGs} (n : Nat) (hc : X.calm = true) (ht : PGs X es t) (h : X.K = K := by rfl)
    (hn : (assignEach es X.env).length = n := by rfl) (hst : (assignEach es X.env).findIdx? (·.1) = none := by rfl) : PG X (.Tuple es k pos) (gTup K n t) := by subst h; exact pg_tup hc ht hn hst
theorem pe_bmK {o e : Expr} {es : List Expr} {to : TE} {t : TA} {name : Str} {apos cpos : Pos} {T id : String} {r : V → List V → Hp → VK → Prop} (pa : PlainAttrs T) (slot : Slot T name id) (hty : typeOf (.builtin id) = pure (.type "method_descriptor")) (hm : MtR X id r) (ho : PE X o to) (ha : PA X (e :: es) t) (h : X.K = K := by rfl)
    (hbase : attributeBase o name X.env (eval o X.env) = eval o X.env := by rfl)
    (hfew : ((backTo cpos (starEach (e :: es) X.env)).all (fun x => !x.1) && (backToKw cpos (keywordEach [] X.env)).all (fun x => x.1.isSome) && decide ((e :: es).length + ([] : List Keyword).length + (if ([] : List Keyword).isEmpty then 0 else 1) < 30)) = true := by rfl)
    (hline : (apos.endLine == cpos.line) = true := by rfl) (hs : starEach (e :: es) X.env = (false, eval e X.env) :: starEach es X.env := by rfl) (hplain : (backTo cpos (starEach es X.env)).any (·.1) = false := by rfl) :
    PE X (.Call (.Attribute o name apos) (e :: es) [] cpos) (tBM K T r to t) := by subst h; exact pe_bm pa slot hty hm ho ha hbase hfew hline hs hplain
theorem pe_bm0K {o : Expr} {to : TE} {name : Str} {apos cpos : Pos} {T id : String} {r : V → List V → Hp → VK → Prop} (pa : PlainAttrs T) (slot : Slot T name id) (hty : typeOf (.builtin id) = pure (.type "method_descriptor")) (hm : MtR X id r) (ho : PE X o to) (h : X.K = K := by rfl)
    (hbase : attributeBase o name X.env (eval o X.env) = eval o X.env := by rfl) (hline : (apos.endLine == cpos.line) = true := by rfl) : PE X (.Call (.Attribute o name apos) [] [] cpos) (tBM0 K T r to) := by subst h; exact pe_bm0 pa slot hty hm ho hbase hline
def rJoin (K : PySem.W.Frag) : V → List V → Hp → VK → Prop := fun x xs H Q => ∃ a p, ∃ ys : List Str, x = .str a ∧ xs = [.ref p] ∧ (SqL K H p (ys.map V.str) ∨ SqT K H p (ys.map V.str)) ∧
  (ys.map (·.length)).sum + ys.length * a.length ≤ 16777216 ∧ Q (.str (Txt.join a ys)) H
theorem pe_joinK {o e : Expr} {to te : TE} {apos pos : Pos} (ho : PE X o to) (he : PE X e te) (h : X.K = K := by rfl) (hs : starEach [e] X.env = [(false, eval e X.env)] := by rfl) (hbase : attributeBase o "join" X.env (eval o X.env) = eval o X.env := by rfl) (hline : (apos.endLine == pos.line) = true := by rfl) :
    PE X (.Call (.Attribute o "join" apos) [e] [] pos) (tM1 (rJoin K) to te) := by subst h; exact pe_join ho he hs hbase hline
theorem pe_revLK {e : Expr} {te : TE} {k : Nat} {p1 p2 p3 pos : Pos} (he : PE X e te) (h : X.K = K := by rfl) : PE X (.Subscript e (.Slice none none (some (.UnaryOp .USub (.Constant (.int 1) k p1) p2)) p3) pos) (tRevL K te) := by subst h; exact pe_revL he
theorem pe_ssetK {a : Expr} {ta : TE} {p p2 q pos : Pos} (hc : X.calm = true) (hg : Gl X "sorted") (hm : X.mg "sorted" = none) (hg2 : Gl X "set") (hm2 : X.mg "set" = none) (ha : PE X a ta) (h : X.K = K := by rfl)
    (na : starEach [a] X.env = (false, eval a X.env) :: starEach [] X.env := by rfl) : PE X (.Call (.Name "sorted" p) [.Call (.Name "set" p2) [a] [] q] [] pos) (tSSet K ta) := by subst h; exact pe_sset hc hg hm hg2 hm2 ha na
theorem pe_lzipK {e e2 : Expr} {ta : TA} {p p2 q pos : Pos} (hc : X.calm = true) (hg : Gl X "list") (hm : X.mg "list" = none) (hg2 : Gl X "zip") (hm2 : X.mg "zip" = none) (ha : PA X [e, e2] ta) (h : X.K = K := by rfl)
    (hs : starEach [e, e2] X.env = (false, eval e X.env) :: starEach [e2] X.env := by rfl) (hpl : (backTo q (starEach [e2] X.env)).any (·.1) = false := by rfl) :
    PE X (.Call (.Name "list" p) [.Call (.Name "zip" p2) [e, e2] [] q] [] pos) (tLZip K ta) := by subst h; exact pe_lzip hc hg hm hg2 hm2 ha hs hpl
theorem mt_extTK (h : X.K = K := by rfl) : MtM X "list.extend" (rExtT K) := by subst h; exact mt_extT
end
end G
/-! sorted(texts), any number; sorted(pairs of ints), any number. -/
namespace G
open PySem PySem.Spec PyProof.Rows L2 TL
def leT (a b : Str) : Bool := decide (tl a ≤ tl b)
def sortT (xs : List Str) : List Str := xs.mergeSort leT
theorem leT_trans (a b c : Str) (h1 : leT a b = true) (h2 : leT b c = true) : leT a c = true := decide_eq_true (List.le_trans (of_decide_eq_true h1) (of_decide_eq_true h2))
theorem leT_total (a b : Str) : (leT a b || leT b a) = true := by
  unfold leT
  rcases List.le_total (tl a) (tl b) with h | h
  · rw [decide_eq_true h]; rfl
  · rw [decide_eq_true h, Bool.or_true]
theorem sortT_perm (xs : List Str) : (sortT xs).Perm xs := List.mergeSort_perm _ _
theorem sortT_sorted (xs : List Str) : (sortT xs).Pairwise fun a b => leT a b = true := List.pairwise_mergeSort leT_trans leT_total xs
theorem sortT_len (xs : List Str) : (sortT xs).length = xs.length := (sortT_perm xs).length_eq
theorem tl_eq {x y : Str} (h : tl x = tl y) : x = y := by
  cases x; cases y
  simp only [tl] at h
  congr
  exact Array.toList_inj.mp h
theorem rising_pw : ∀ (r : List Str) (p : Str), risingS p r = true → (p :: r).Pairwise fun a b => leT a b = true
  | [], p, _ => List.pairwise_singleton _ _
  | x :: r, p, h => by
    have h' : (!ltCps x.cps.toList p.cps.toList && risingS x r) = true := h
    rw [Bool.and_eq_true, ltCps_eq, Bool.not_eq_true', decide_eq_false_iff_not] at h'
    have ih := rising_pw r x h'.2
    have hx : leT p x = true := decide_eq_true h'.1
    refine List.pairwise_cons.mpr ⟨fun z hz => ?_, ih⟩
    rcases List.mem_cons.mp hz with rfl | hz
    · exact hx
    · exact leT_trans _ _ _ hx ((List.pairwise_cons.mp ih).1 z hz)
theorem sortedS_pw : ∀ l : List Str, sortedS l = true → l.Pairwise fun a b => leT a b = true
  | [], _ => List.Pairwise.nil
  | x :: r, h => rising_pw r x h
theorem sortT_uniq {xs ys : List Str} (h : ys.Perm xs) (h2 : sortedS ys = true) : sortT xs = ys :=
  ((sortT_perm xs).trans h.symm).eq_of_pairwise (le := fun a b => leT a b = true) (fun a b _ _ h3 h4 => tl_eq (List.le_antisymm (of_decide_eq_true h3) (of_decide_eq_true h4))) (sortT_sorted xs) (sortedS_pw ys h2)
def rSortedSA (K : PySem.W.Frag) : List V → Hp → VK → Prop := fun vs H Q => ∃ (a : Addr) (xs : List Str), vs = [V.ref a] ∧ SqL K H a (xs.map V.str) ∧
  ∀ (p : Addr), H p = none → Q (.ref p) (upd H p (.lst ((sortT xs).map V.str)))
section
variable {X : Cx} {K : PySem.W.Frag}
theorem cr_sortedSA : CallR X (.builtin "sorted") (rSortedSA X.K) := by
  intro pins s σ H vs us Q I r h
  obtain ⟨a, xs, rfl, hs, q⟩ := h
  obtain ⟨its, rv, hl, hz⟩ := I.list hs
  rw [Vals.ref1 r]
  have hlen0 := rv.length
  refine PyProof.Rows.sorted_strsAny hl.isList rv.strs (by rw [← hlen0]; exact hz) fun out ys h1 h2 h3 => ?_
  obtain rfl := sortT_uniq h2 h3
  obtain ⟨ep, he'⟩ := PyProof.Rows.sortedAll_at s.heap its out
  have hlen : ((sortT xs).map V.str).length ≤ sizeLine := by rw [List.length_map, sortT_len]; rw [List.length_map] at hz; exact hz
  exact ⟨.ref _, upd H (s.heap.objs.size + 1) (.lst ((sortT xs).map V.str)), I.laid (t' := s.toks) (fun _ _ => PyProof.Rows.sortedAll_old) (Nat.le_succ _) ⟨hlen, out.toList, ep, vals_of_strs h1, he'⟩, rfl, q _ (I.hok.fresh (Nat.le_succ _))⟩
theorem cr_sortedSA_ (h : X.K = K := by rfl) : CallR X (.builtin "sorted") (rSortedSA K) := by subst h; exact cr_sortedSA
end
/-! ### pairs -/
def leP (p q : Int × Int) : Bool := decide (p.1 < q.1 ∨ (p.1 = q.1 ∧ p.2 ≤ q.2))
def sortP (xs : List (Int × Int)) : List (Int × Int) := xs.mergeSort leP
theorem leP_trans (a b c : Int × Int) (h1 : leP a b = true) (h2 : leP b c = true) : leP a c = true := by
  have h1 := of_decide_eq_true h1
  have h2 := of_decide_eq_true h2
  exact decide_eq_true (by omega)
theorem leP_total (a b : Int × Int) : (leP a b || leP b a) = true := by
  unfold leP
  by_cases h : a.1 < b.1 ∨ (a.1 = b.1 ∧ a.2 ≤ b.2)
  · rw [decide_eq_true h]; rfl
  · rw [decide_eq_true (p := b.1 < a.1 ∨ (b.1 = a.1 ∧ b.2 ≤ a.2)) (by omega), Bool.or_true]
theorem sortP_perm (xs : List (Int × Int)) : (sortP xs).Perm xs := List.mergeSort_perm _ _
theorem sortP_sorted (xs : List (Int × Int)) : (sortP xs).Pairwise fun a b => leP a b = true := List.pairwise_mergeSort leP_trans leP_total xs
theorem sortP_len (xs : List (Int × Int)) : (sortP xs).length = xs.length := (sortP_perm xs).length_eq
theorem sortP_uniq {xs ys : List (Int × Int)} (h : ys.Perm xs) (h2 : ys.Pairwise fun a b => leP a b = true) : sortP xs = ys :=
  ((sortP_perm xs).trans h.symm).eq_of_pairwise (le := fun a b => leP a b = true) (fun a b _ _ h3 h4 => by
    have h3 := of_decide_eq_true h3
    have h4 := of_decide_eq_true h4
    exact Prod.ext (by omega) (by omega)) (sortP_sorted xs) h2
open Classical in
noncomputable def keyV (K : PySem.W.Frag) (H : Hp) (v : V) : Int × Int := if h : ∃ x : Int × Int, R K H v x then h.choose else (0, 0)
theorem keyV_spec {K : PySem.W.Frag} {H : Hp} {v : V} {x : Int × Int} (h : R K H v x) : R K H v (keyV K H v) := by
  unfold keyV
  rw [dif_pos ⟨x, h⟩]
  exact Exists.choose_spec (⟨x, h⟩ : ∃ x : Int × Int, R K H v x)
def rSortedPK (K : PySem.W.Frag) : List V → Hp → VK → Prop := fun vs H Q => ∃ (a : Addr) (xs : List V) (ds : List (Int × Int)), vs = [V.ref a] ∧ SqL K H a xs ∧ RL K H xs ds ∧
  ∀ (ys : List V) (p : Addr), ys.length = xs.length → (∀ F, RL K F xs ds → RL K F ys (sortP ds)) → H p = none → Q (.ref p) (upd H p (.lst ys))
section
variable {X : Cx} {K : PySem.W.Frag}
theorem cr_sortedPK : CallR X (.builtin "sorted") (rSortedPK X.K) := by
  intro pins s σ H vs us Q I r h
  obtain ⟨a, xs, ds, rfl, hs, hA, q⟩ := h
  have hkey : ∀ i v x, xs[i]? = some v → ds[i]? = some x → keyV X.K H v = x ∧ ∃ t, v = .ref t ∧ SqT X.K H t [.int x.1, .int x.2] := fun i v x hv hx => by
    obtain ⟨x', hx', r⟩ := RL.get hA hv
    rw [hx] at hx'
    cases hx'
    have r2 := keyV_spec r
    obtain ⟨p, v1, v2, e, h1, r3, r4⟩ := R.p2_v r
    obtain ⟨p', w1, w2, e', h2, r5, r6⟩ := R.p2_v r2
    subst e
    cases e'
    obtain rfl := R.int_v r3
    obtain rfl := R.int_v r4
    obtain rfl := R.int_v r5
    obtain rfl := R.int_v r6
    have := I.tuple_inj h1 h2
    simp only [List.cons.injEq, V.int.injEq, and_true] at this
    exact ⟨Prod.ext this.1.symm this.2.symm, p, rfl, h1⟩
  have hlen : xs.length = ds.length := RL.len hA
  have hmem : ∀ v ∈ xs, ∃ t, v = .ref t ∧ SqT X.K H t [.int (keyV X.K H v).1, .int (keyV X.K H v).2] := fun v hv => by
    obtain ⟨i, hi, rfl⟩ := List.getElem_of_mem hv
    obtain ⟨k1, k2⟩ := hkey i xs[i] (ds[i]'(by omega)) (List.getElem?_eq_getElem hi) (List.getElem?_eq_getElem (by omega))
    rw [k1]
    exact k2
  obtain ⟨its, rv, hl, hz⟩ := I.list hs
  obtain ⟨u, rfl, ru⟩ := vals1 r
  obtain rfl : u = Value.ref a := ru
  obtain ⟨e1, e2⟩ := refs_back rv fun x m => by
    obtain ⟨t, e, _⟩ := hmem x m
    exact ⟨t, e⟩
  refine SrtO.sorted_pairsO (k := fun u => keyV X.K H (backV u)) hl.isList (by rw [← rv.length]; exact hz) (fun v hv => ?_) fun h' d out h1 h2 kp hd hn => ?_
  · obtain ⟨t, rfl⟩ := e2 v hv
    have hm : V.ref t ∈ xs := by rw [e1]; exact List.mem_map.mpr ⟨_, hv, rfl⟩
    obtain ⟨t', e, ht⟩ := hmem _ hm
    cases e
    obtain ⟨its2, r2, ⟨o, ho, hc, n, hd⟩, _⟩ := I.tuple ht
    obtain ⟨u1, u2, rfl, ri, rj⟩ := vals2 r2
    obtain ⟨t1, rfl⟩ := ri
    obtain ⟨t2, rfl⟩ := rj
    exact ⟨t, o, t1, t2, n, rfl, ho, hc, hd⟩
  · have h3 : ∀ u ∈ out, ∃ a, u = Value.ref a := fun u hu => e2 u (h2.perm.mem_iff.mp hu)
    obtain ⟨n, hn⟩ := hn
    have hb : SrtO.Stb (ltP (keyV X.K H)) (out.map backV) xs := by
      rw [e1]
      exact SrtO.Stb.map (ltP_swo (keyV X.K H)) backV h2
    have hsr : SrtO.Srtd (ltP (keyV X.K H)) (out.map backV) := SrtO.srtd_map h1
    have hds : xs.map (keyV X.K H) = ds := List.ext_getElem? fun i => by
      rw [List.getElem?_map]
      by_cases hi : i < xs.length
      · rw [List.getElem?_eq_getElem hi, List.getElem?_eq_getElem (by omega)]
        exact congrArg some (hkey i xs[i] (ds[i]'(by omega)) (List.getElem?_eq_getElem hi) (List.getElem?_eq_getElem (by omega))).1
      · rw [List.getElem?_eq_none (by omega), List.getElem?_eq_none (by omega)]
        rfl
    have hso : sortP ds = (out.map backV).map (keyV X.K H) := by
      refine sortP_uniq (by rw [← hds]; exact hb.perm.map _) (List.pairwise_map.mpr (hsr.imp fun {x y} h => ?_))
      have := SrtO.lexB_no.mp h
      exact decide_eq_true (by omega)
    refine ⟨.ref d, upd H d (.lst (out.map backV)), I.laid (t' := s.toks) kp hd ⟨?_, out, n, vals_back h3, hn⟩, rfl, q _ d hb.len (fun F hF => ?_) (I.hok.fresh hd)⟩
    · rw [hb.len]
      exact hz
    · rw [hso]
      have hall : ∀ v ∈ out.map backV, R X.K F v (keyV X.K H v) := fun v hv => by
        obtain ⟨i, hi, rfl⟩ := List.getElem_of_mem (hb.perm.mem_iff.mp hv)
        obtain ⟨x, hx, rx⟩ := RL.get hF (List.getElem?_eq_getElem hi)
        rw [(hkey i xs[i] x (List.getElem?_eq_getElem hi) hx).1]
        exact rx
      have go : ∀ l : List V, (∀ v ∈ l, R X.K F v (keyV X.K H v)) → RL X.K F l (l.map (keyV X.K H)) := fun l => by
        induction l with
        | nil => exact fun _ => .nil
        | cons v l ih => exact fun h => .cons (h v (List.mem_cons_self ..)) (ih fun u hu => h u (List.mem_cons_of_mem _ hu))
      exact go _ hall
theorem cr_sortedPK_ (h : X.K = K := by rfl) : CallR X (.builtin "sorted") (rSortedPK K) := by subst h; exact cr_sortedPK
end
/-! ### lists lent, walked over -/
def Lent {α : Type} [Enc α] (K : PySem.W.Frag) (H F : Hp) (M : Addr → Prop) (v : V) (e : List α) : Prop := ∃ p ws, v = .ref p ∧ SqL K H p ws ∧ ws.length ≤ sizeLine ∧ RL K F ws e ∧ ¬ M p
inductive LentL {α : Type} [Enc α] (K : PySem.W.Frag) (H F : Hp) (M : Addr → Prop) : List V → List (List α) → Prop
  | nil : LentL K H F M [] []
  | cons {v e vs es} : Lent K H F M v e → LentL K H F M vs es → LentL K H F M (v :: vs) (e :: es)
theorem LentL.len {α : Type} [Enc α] {K : PySem.W.Frag} {H F : Hp} {M : Addr → Prop} : ∀ {vs : List V} {es : List (List α)}, LentL K H F M vs es → vs.length = es.length
  | _, _, .nil => rfl
  | _, _, .cons _ t => congrArg (· + 1) t.len
theorem LentL.get {α : Type} [Enc α] {K : PySem.W.Frag} {H F : Hp} {M : Addr → Prop} : ∀ {vs : List V} {es : List (List α)} {i : Nat} {v : V}, LentL K H F M vs es → vs[i]? = some v → ∃ e, es[i]? = some e ∧ Lent K H F M v e
  | _, _, _, _, .nil, h => by simp at h
  | _, _, 0, _, .cons r _, h => ⟨_, rfl, by simp at h; exact h ▸ r⟩
  | _, _, i + 1, _, .cons _ t, h => by
    obtain ⟨e, h1, h2⟩ := LentL.get t (i := i) (by simpa using h)
    exact ⟨e, by simpa using h1, h2⟩
end G
/-! zip and enumerate walked over; a text looked up in a written table. -/
namespace G
open PySem PySem.Spec PyProof.Rows L2 TL
section
variable {K : PySem.W.Frag}
theorem pi_zipK {X : Cx} {e e2 : Expr} {ta : TA} {p pos tpos : Pos} {elts : List Expr} {kk : Nat} (hg : Gl X "zip") (hm : X.mg "zip" = none) (ha : PA X [e, e2] ta) (h : X.K = K := by rfl)
    (hs : starEach [e, e2] X.env = (false, eval e X.env) :: starEach [e2] X.env := by rfl) (hpl : (backTo pos (starEach [e2] X.env)).any (·.1) = false := by rfl) :
    PI X (.Tuple elts kk tpos) (.Call (.Name "zip" p) [e, e2] [] pos) (iZip K ta) := by subst h; exact pi_zip hg hm ha hs hpl
theorem pi_enumK {X : Cx} {e : Expr} {ta : TA} {p pos tpos : Pos} {elts : List Expr} {kk : Nat} (hg : Gl X "enumerate") (hm : X.mg "enumerate" = none) (ha : PA X [e] ta) (h : X.K = K := by rfl) (hs : starEach [e] X.env = [(false, eval e X.env)] := by rfl) :
    PI X (.Tuple elts kk tpos) (.Call (.Name "enumerate" p) [e] [] pos) (iEnum K ta) := by subst h; exact pi_enum hg hm ha hs
theorem for_zip {a b : Addr} {xs ys : List V} {g : TG} {tb : TS} {D : Ends} {σ : L2.St} {H : Hp} (Pv : Nat → L2.St → Hp → Prop) (h0 : Pv 0 σ H)
    (hl : ∀ i σ H, i ≤ min xs.length ys.length → Pv i σ H → SqL K H a xs ∧ SqL K H b ys)
    (hs : ∀ i x y T σ H, xs[i]? = some x → ys[i]? = some y → H T = none → Pv i σ H → g (.ref T) σ (upd H T (.tup [x, y])) fun σ2 H2 => tb { D with nx := Pv (i + 1), ct := Pv (i + 1), bk := D.nx } σ2 H2) (hd : ∀ σ H, Pv (min xs.length ys.length) σ H → D.nx σ H) :
    ∃ W : Nat → Nat → L2.St → Hp → Prop, (∃ m, W 0 m σ H) ∧ ∀ i m σ H, W i m σ H →
      ((Itz K a b).stop i H ∧ D.nx σ H) ∨ ((Itz K a b).go i H ∧ ∃ N : L2.St → Hp → Prop, (∀ σ' H', N σ' H' → ∃ m', m' < m ∧ W (i + 1) m' σ' H') ∧ ∀ x H', (Itz K a b).yld i H x H' → g x σ H' fun σ2 H2 => tb { D with nx := N, ct := N, bk := D.nx } σ2 H2) :=
  for_it (walk_zip rfl) Pv h0 hl (fun i v σ H H' _ p ⟨T, x, y, e1, e2, e3, e4, e5⟩ => by subst e1 e3; exact hs i x y T σ H e4 e5 e2 p) hd
theorem for_enum {a : Addr} {xs : List V} {g : TG} {tb : TS} {D : Ends} {σ : L2.St} {H : Hp} (Pv : Nat → L2.St → Hp → Prop) (h0 : Pv 0 σ H)
    (hl : ∀ i σ H, i ≤ xs.length → Pv i σ H → SqL K H a xs)
    (hs : ∀ i x T σ H, xs[i]? = some x → H T = none → Pv i σ H → g (.ref T) σ (upd H T (.tup [.int (i : Nat), x])) fun σ2 H2 => tb { D with nx := Pv (i + 1), ct := Pv (i + 1), bk := D.nx } σ2 H2) (hd : ∀ σ H, Pv xs.length σ H → D.nx σ H) :
    ∃ W : Nat → Nat → L2.St → Hp → Prop, (∃ m, W 0 m σ H) ∧ ∀ i m σ H, W i m σ H →
      ((Ite K a).stop i H ∧ D.nx σ H) ∨ ((Ite K a).go i H ∧ ∃ N : L2.St → Hp → Prop, (∀ σ' H', N σ' H' → ∃ m', m' < m ∧ W (i + 1) m' σ' H') ∧ ∀ x H', (Ite K a).yld i H x H' → g x σ H' fun σ2 H2 => tb { D with nx := N, ct := N, bk := D.nx } σ2 H2) :=
  for_it walk_enum Pv h0 hl (fun i v σ H H' _ p ⟨T, x, y, e1, e2, e3, e4, e5⟩ => by
    subst e1 e3
    cases e4
    exact hs i y T σ H e5 e2 p) hd
theorem lc_zip {a b : Addr} {xs ys : List V} {g : TG} {tt : TT} {te : TE} {vs : List Nat} {σ : L2.St} {H1 : Hp} {D : Addr} {Qd : Hp → Prop} (Pv : Nat → Hp → Prop) (h0 : Pv 0 (upd H1 D (.lst [])))
    (hl : ∀ i H, i ≤ min xs.length ys.length → Pv i H → SqL K H a xs ∧ SqL K H b ys)
    (hs : ∀ i x y T H, xs[i]? = some x → ys[i]? = some y → H T = none → Pv i H → g (.ref T) (wipe σ vs) (upd H T (.tup [x, y])) fun σ2 H2 => wipe σ2 vs = wipe σ vs ∧ tt σ2 H2 fun b H3 =>
      if b = true then te σ2 H3 fun y H4 => ∃ acc, H4 D = some (.lst acc) ∧ acc.length < sizeLine ∧ Pv (i + 1) (upd H4 D (.lst (acc ++ [y]))) else Pv (i + 1) H3) (hd : ∀ H, Pv (min xs.length ys.length) H → Qd H) :
    ∃ W : Nat → Nat → Hp → Prop, (∃ m, W 0 m (upd H1 D (.lst []))) ∧ ∀ i m H, W i m H →
      ((Itz K a b).stop i H ∧ Qd H) ∨ ((Itz K a b).go i H ∧ ∃ Nx : Hp → Prop, (∀ H', Nx H' → ∃ m', m' < m ∧ W (i + 1) m' H') ∧ ∀ x H', (Itz K a b).yld i H x H' → g x (wipe σ vs) H' fun σ2 H2 => wipe σ2 vs = wipe σ vs ∧ tt σ2 H2 fun b H3 =>
        if b = true then te σ2 H3 fun y H4 => ∃ acc, H4 D = some (.lst acc) ∧ acc.length < sizeLine ∧ Nx (upd H4 D (.lst (acc ++ [y]))) else Nx H3) :=
  lc_it (walk_zip rfl) Pv h0 hl (fun i v H H' _ p ⟨T, x, y, e1, e2, e3, e4, e5⟩ => by subst e1 e3; exact hs i x y T H e4 e5 e2 p) hd
theorem lc_enum {a : Addr} {xs : List V} {g : TG} {tt : TT} {te : TE} {vs : List Nat} {σ : L2.St} {H1 : Hp} {D : Addr} {Qd : Hp → Prop} (Pv : Nat → Hp → Prop) (h0 : Pv 0 (upd H1 D (.lst [])))
    (hl : ∀ i H, i ≤ xs.length → Pv i H → SqL K H a xs)
    (hs : ∀ i x T H, xs[i]? = some x → H T = none → Pv i H → g (.ref T) (wipe σ vs) (upd H T (.tup [.int (i : Nat), x])) fun σ2 H2 => wipe σ2 vs = wipe σ vs ∧ tt σ2 H2 fun b H3 =>
      if b = true then te σ2 H3 fun y H4 => ∃ acc, H4 D = some (.lst acc) ∧ acc.length < sizeLine ∧ Pv (i + 1) (upd H4 D (.lst (acc ++ [y]))) else Pv (i + 1) H3) (hd : ∀ H, Pv xs.length H → Qd H) :
    ∃ W : Nat → Nat → Hp → Prop, (∃ m, W 0 m (upd H1 D (.lst []))) ∧ ∀ i m H, W i m H →
      ((Ite K a).stop i H ∧ Qd H) ∨ ((Ite K a).go i H ∧ ∃ Nx : Hp → Prop, (∀ H', Nx H' → ∃ m', m' < m ∧ W (i + 1) m' H') ∧ ∀ x H', (Ite K a).yld i H x H' → g x (wipe σ vs) H' fun σ2 H2 => wipe σ2 vs = wipe σ vs ∧ tt σ2 H2 fun b H3 =>
        if b = true then te σ2 H3 fun y H4 => ∃ acc, H4 D = some (.lst acc) ∧ acc.length < sizeLine ∧ Nx (upd H4 D (.lst (acc ++ [y]))) else Nx H3) :=
  lc_it walk_enum Pv h0 hl (fun i v H H' _ p ⟨T, x, y, e1, e2, e3, e4, e5⟩ => by
    subst e1 e3
    cases e4
    exact hs i y T H e5 e2 p) hd
theorem gzip_get {α β : Type} {xs : List α} {ys : List β} {i : Nat} {x : α} {y : β} (h1 : xs[i]? = some x) (h2 : ys[i]? = some y) : (List.zip xs ys)[i]? = some (x, y) := by
  rw [List.zip, List.getElem?_zipWith, h1, h2]
theorem enum_get {α : Type} {xs : List α} {i : Nat} {x : α} (h : xs[i]? = some x) : (List.zip (rangeL 0 xs.length) xs)[i]? = some (((i : Nat) : Int), x) := by
  have hi : i < xs.length := (List.getElem?_eq_some_iff.mp h).1
  have := rangeL_at (lo := 0) hi
  rw [Int.zero_add] at this
  exact gzip_get this h
theorem zip_lenV {α β γ δ : Type} {xs : List α} {ys : List β} {vs : List γ} {ws : List δ} (h1 : vs.length = xs.length) (h2 : ws.length = ys.length) : min vs.length ws.length = (List.zip xs ys).length := by rw [List.length_zip, h1, h2]
theorem enum_lenV {α γ : Type} {xs : List α} {vs : List γ} (h1 : vs.length = xs.length) : vs.length = (List.zip (rangeL 0 xs.length) xs).length := by rw [List.length_zip, rangeL_len, h1]; exact (Nat.min_self _).symm
end
/-! ### texts looked up in a written table -/
def dgetI (kvs : List (Str × Str)) (k : Str) : Option Str := (kvs.find? fun kv => decide (kv.1 = k)).map (·.2)
theorem rd_dgetI {ty : TE} {σ : L2.St} {H : Hp} {Q : VK} {k v : Str} (trs : List (TE × TE)) (kvs : List (Str × Str)) (he : trs = kvs.map fun kv => (tC (.str kv.1), tC (.str kv.2))) (h15 : kvs.length ≤ 15) (hm : mergeK [] (kvS kvs) = kvS kvs)
    (hk : dgetI kvs k = some v) (hy : ∀ H1 Q', Q' (.str k) H1 → ty σ H1 Q') (q : ∀ p, H p = none → Q (.str v) (upd H p (.dK (kvS kvs)))) : tDGet (tDisp trs) ty σ H Q := by
  intro p hp
  have walk : ∀ (l : List (Str × Str)) (R : List (V × V) → Hp → Prop) (H1 : Hp), R (l.map fun kv => (V.str kv.1, V.str kv.2)) H1 → tPairs (l.map fun kv => (tC (.str kv.1), tC (.str kv.2))) σ H1 R := by
    intro l
    induction l with
    | nil => intro R H1 h; exact h
    | cons kv l ih => intro R H1 h; exact ih (fun ps H3 => R ((V.str kv.1, V.str kv.2) :: ps) H3) H1 h
  rw [he]
  refine walk kvs _ _ ⟨upd_same, kvS kvs, ?_, ?_, ?_⟩
  · unfold kvS
    rw [List.map_map]
    rfl
  · unfold kvS
    rw [List.length_map]
    exact h15
  · rw [hm, upd_upd]
    have e : valV (kvS kvs) (Sum.inr k) = some (.str v) := by
      rw [valS]
      unfold dgetI at hk
      rw [hk]
      rfl
    exact hy _ _ ⟨p, .str v, rfl, e ▸ DGet.k (k := Sum.inr k) upd_same, q p hp⟩
theorem GS.di {kvs : List (Str × Str)} {k v : Str} (h : ∀ kv ∈ kvs, GS kv.2) (hk : dgetI kvs k = some v) : GS v := by
  unfold dgetI at hk
  cases e : (kvs.find? fun kv => decide (kv.1 = k)) with
  | none => rw [e] at hk; cases hk
  | some kv =>
    rw [e] at hk
    cases hk
    exact h kv (List.mem_of_find?_eq_some e)
end G
/-! tuples of one, things of either type; the bag of five; membership, pop, tuples. -/
namespace G
open PySem PySem.Spec PyProof.Rows L2 TL
structure T1 (α : Type) where
  a : α
  deriving DecidableEq
instance {α : Type} [Enc α] : Enc (T1 α) := ⟨fun p => .tuple [Enc.d p.a]⟩
instance {α : Type} [Enc α] [Dep α] : Dep (T1 α) := ⟨Dep.n α + 1, fun p => by
  have h1 := Dep.le p.a
  show PyData.depthAll [Enc.d p.a] + 1 ≤ _
  simp only [PyData.depthAll]
  omega⟩
instance {α : Type} [Enc α] : NN (T1 α) := ⟨fun _ => nofun⟩
instance {α β : Type} [Enc α] [Enc β] : Enc (α ⊕ β) := ⟨fun s => match s with | .inl x => Enc.d x | .inr y => Enc.d y⟩
instance {α β : Type} [Enc α] [Enc β] [Dep α] [Dep β] : Dep (α ⊕ β) := ⟨max (Dep.n α) (Dep.n β), fun s => match s with
  | .inl x => Nat.le_trans (Dep.le x) (Nat.le_max_left _ _)
  | .inr y => Nat.le_trans (Dep.le y) (Nat.le_max_right _ _)⟩
instance {α β : Type} [Enc α] [Enc β] [NN α] [NN β] : NN (α ⊕ β) := ⟨fun s => match s with
  | .inl x => NN.ne x
  | .inr y => NN.ne y⟩
section
variable {K : PySem.W.Frag} {F : Hp} {v : V} {p : Addr} {α β γ : Type} [Enc α] [Enc β] [Enc γ]
theorem R.p1_v {x : T1 α} (h : R K F v x) : ∃ p v1, v = .ref p ∧ SqT K F p [v1] ∧ R K F v1 x.a := by
  have h' : Rp K F v (.tuple [Enc.d x.a]) := h
  cases h' with
  | tup hs hl ha =>
    cases ha with
    | cons h1 h2 =>
      cases h2
      exact ⟨_, _, rfl, hs, h1⟩
theorem R.mk1 {v1 : V} {x : α} (h1 : SqT K F p [v1]) (r1 : R K F v1 x) : R K F (.ref p) (T1.mk x) := .tup h1 (by show 1 ≤ sizeLine; decide) (.cons r1 .nil)
theorem R.inl {x : α} (r : R K F v x) : R K F v (Sum.inl x : α ⊕ β) := r
theorem R.inr {y : β} (r : R K F v y) : R K F v (Sum.inr y : α ⊕ β) := r
theorem R.some_ {x : α} (r : R K F v x) : R K F v (some x) := r
theorem R.omap {x : Option α} {f : α → β} (h : ∀ a, (Enc.d (f a) : PyData) = Enc.d a) (r : R K F v x) : R K F v (x.map f) := by
  cases x with
  | none => exact r
  | some a => show Rp K F v (Enc.d (f a)); rw [h]; exact r
def getL {α β : Type} : α ⊕ β → Option α
  | .inl x => some x
  | .inr _ => none
def getR {α β : Type} : α ⊕ β → Option β
  | .inr y => some y
  | .inl _ => none
theorem getL_ok {s : α ⊕ β} {x : α} (h : getL s = some x) (r : R K F v s) : R K F v x := by
  cases s with
  | inl a => cases h; exact r
  | inr b => cases h
theorem getR_ok {s : α ⊕ β} {y : β} (h : getR s = some y) (r : R K F v s) : R K F v y := by
  cases s with
  | inr a => cases h; exact r
  | inl b => cases h
theorem getO_ok {s : Option α} {x : α} (h : s = some x) (r : R K F v s) : R K F v x := by subst h; exact r
end
/-- the bag of five: cells, which is next, what is left of the last, the stir, how many were stirred -/
structure Bag2 where
  cells : List Int
  at_ : Nat
  left : Int
  stir : Int
  cnt : Int
structure BagAt2 (F H : Hp) (B C : Addr) (b : Bag2) : Prop where
  hB : H B = some (.lst [.ref C, .int (b.at_ : Nat), .int b.left, .int b.stir, .int b.cnt])
  hC : H C = some (.lst (b.cells.map V.int))
  ne : B ≠ C
  fB : F B = none
  fC : F C = none
section
variable {M : Addr → Prop} {F0 H0 F H F' H' : Hp} {p q B C : Addr} {o : HO} {b b' : Bag2} {ws : List V}
theorem BagAt2.frz (a : BagAt2 F H B C b) (hq : H q = none) : BagAt2 (upd F q o) (upd H q o) B C b :=
  have n1 := ne_of_none a.hB hq
  have n2 := ne_of_none a.hC hq
  ⟨(upd_ne n1).trans a.hB, (upd_ne n2).trans a.hC, a.ne, (upd_ne n1).trans a.fB, (upd_ne n2).trans a.fC⟩
theorem BagAt2.own (a : BagAt2 F H B C b) (hq : H q = none) : BagAt2 F (upd H q o) B C b :=
  have n1 := ne_of_none a.hB hq
  have n2 := ne_of_none a.hC hq
  ⟨(upd_ne n1).trans a.hB, (upd_ne n2).trans a.hC, a.ne, a.fB, a.fC⟩
theorem BagAt2.nb (a : BagAt2 F H B C b) (hq : H q = none) : ¬ Bc B C q := fun z => by
  rcases z with z | z
  · exact ne_of_none a.hB hq z.symm
  · exact ne_of_none a.hC hq z.symm
theorem BagAt2.other (a : BagAt2 F H B C b) (m : ¬ Bc B C q) : BagAt2 F (upd H q o) B C b :=
  have n1 : B ≠ q := fun z => m (.inl z.symm)
  have n2 : C ≠ q := fun z => m (.inr z.symm)
  ⟨(upd_ne n1).trans a.hB, (upd_ne n2).trans a.hC, a.ne, a.fB, a.fC⟩
theorem BagAt2.fz (a : BagAt2 F H B C b) (m : ¬ Bc B C q) : BagAt2 (upd F q o) H B C b :=
  have n1 : B ≠ q := fun z => m (.inl z.symm)
  have n2 : C ≠ q := fun z => m (.inr z.symm)
  ⟨a.hB, a.hC, a.ne, (upd_ne n1).trans a.fB, (upd_ne n2).trans a.fC⟩
theorem BagAt2.gr0 (a : BagAt2 F H B C b) (g : Gr M0 F H F' H') : BagAt2 F' H' B C b :=
  ⟨g.keep _ _ id a.hB, g.keep _ _ id a.hC, a.ne, g.new _ (by rw [a.hB]; simp) a.fB, g.new _ (by rw [a.hC]; simp) a.fC⟩
theorem BagAt2.apart (a : BagAt2 F H B C b) (k : Gr M0 H H F' H') : BagAt2 F H' B C b := ⟨k.keep _ _ id a.hB, k.keep _ _ id a.hC, a.ne, a.fB, a.fC⟩
theorem BagAt2.put (a : BagAt2 F H B C b) (e : b'.cells = b.cells) : BagAt2 F (upd H B (.lst [.ref C, .int (b'.at_ : Nat), .int b'.left, .int b'.stir, .int b'.cnt])) B C b' :=
  ⟨upd_same, by rw [upd_ne a.ne.symm, a.hC, e], a.ne, a.fB, a.fC⟩
end
/-! ### membership -/
def rInI (K : PySem.W.Frag) : R2 := fun x y H Q => ∃ (k : Int) (p : Addr) (ns : List Int), x = .int k ∧ y = .ref p ∧ (SqL K H p (ns.map V.int) ∨ SqT K H p (ns.map V.int)) ∧ Q (.bl (decide (k ∈ ns))) H
def rNotInI (K : PySem.W.Frag) : R2 := fun x y H Q => ∃ (k : Int) (p : Addr) (ns : List Int), x = .int k ∧ y = .ref p ∧ (SqL K H p (ns.map V.int) ∨ SqT K H p (ns.map V.int)) ∧ Q (.bl (!decide (k ∈ ns))) H
theorem inV_ints (k : Int) (ns : List Int) : inV (.int k) (ns.map V.int) = decide (k ∈ ns) := by
  rw [Bool.eq_iff_iff, decide_eq_true_iff]
  unfold inV
  rw [List.any_map, List.any_eq_true]
  constructor
  · rintro ⟨x, hx, e⟩
    have e' : (x == k) = true := e
    rw [← beq_iff_eq.mp e']
    exact hx
  · intro h
    exact ⟨k, h, beq_iff_eq.mpr rfl⟩
theorem flat_ints (ns : List Int) : (ns.map V.int).all flatV = true := by
  rw [List.all_map, List.all_eq_true]
  intro x _
  rfl
section
variable {X : Cx} {K : PySem.W.Frag}
theorem op_inI (h : X.K = K := by rfl) : OpR X (compareOp .In) (rInI K) := by
  subst h
  intro pins s σ H x y v u Q I rx ry ⟨k, p, ns, e1, e2, hs, q⟩
  exact op_in_seq pins s σ H x y v u Q I rx ry ⟨p, _, e2, hs, by rw [e1]; rfl, flat_ints ns, by rw [e1, inV_ints]; exact q⟩
theorem op_notInI (h : X.K = K := by rfl) : OpR X (compareOp .NotIn) (rNotInI K) := by
  subst h
  intro pins s σ H x y v u Q I rx ry ⟨k, p, ns, e1, e2, hs, q⟩
  exact op_notIn_seq pins s σ H x y v u Q I rx ry ⟨p, _, e2, hs, by rw [e1]; rfl, flat_ints ns, by rw [e1, inV_ints]; exact q⟩
theorem op_inDK (hu : X.A.units + 65 < cLine) (h : X.K = K := by rfl) : OpR X (compareOp .In) (rInD K) := by subst h; exact op_inD hu
theorem op_notInDK (hu : X.A.units + 65 < cLine) (h : X.K = K := by rfl) : OpR X (compareOp .NotIn) (rNotInD K) := by subst h; exact op_notInD hu
theorem sl_tupK (h : X.K = K := by rfl) : SlR X (rSlA K) := by subst h; exact sl_tupA
theorem op_catTK (h : X.K = K := by rfl) : OpR X (binaryOp .Add) (rCatA K) := by subst h; exact op_catA
theorem cr_maxK (hc : X.calm = true) (h : X.K = K := by rfl) : CallR X (.builtin "max") (rMax K) := by subst h; exact cr_max hc
theorem cr_minK' (hc : X.calm = true) (h : X.K = K := by rfl) : CallR X (.builtin "min") (rMin K) := by subst h; exact cr_min hc
theorem pe_tupleOfK {a : Expr} {ta : TE} {p pos : Pos} (hg : Gl X "tuple") (hm : X.mg "tuple" = none) (ha : PE X a ta) (h : X.K = K := by rfl) (na : starEach [a] X.env = (false, eval a X.env) :: starEach [] X.env := by rfl) :
    PE X (.Call (.Name "tuple" p) [a] [] pos) (tThen ta (kTup K)) := by subst h; exact pe_tupleOf hg hm ha na
end
def inD {α : Type} [Enc α] (x : α) (xs : List α) : Bool := (xs.map Enc.d).any fun z => PyData.eqv z (Enc.d x)
/-! ### the least, the greatest -/
def maxO : List Int → Option Int
  | [] => none
  | x :: r => some (r.foldl max x)
def minO : List Int → Option Int
  | [] => none
  | x :: r => some (r.foldl min x)
theorem foldl_max (r : List Int) : ∀ x : Int, (r.foldl max x ∈ x :: r) ∧ ∀ y ∈ x :: r, y ≤ r.foldl max x := by
  induction r with
  | nil => intro x; exact ⟨List.mem_cons_self .., fun y hy => by rw [List.mem_singleton.mp hy]; exact Int.le_refl _⟩
  | cons z r ih =>
    intro x
    obtain ⟨h1, h2⟩ := ih (max x z)
    refine ⟨?_, fun y hy => ?_⟩
    · show List.foldl max (max x z) r ∈ _
      rcases List.mem_cons.mp h1 with e | e
      · rw [e]
        by_cases h : x ≤ z
        · rw [Int.max_eq_right h]; exact List.mem_cons_of_mem _ (List.mem_cons_self ..)
        · rw [Int.max_eq_left (by omega)]; exact List.mem_cons_self ..
      · exact List.mem_cons_of_mem _ (List.mem_cons_of_mem _ e)
    · show y ≤ List.foldl max (max x z) r
      have h3 := h2 (max x z) (List.mem_cons_self ..)
      rcases List.mem_cons.mp hy with e | hy
      · omega
      · rcases List.mem_cons.mp hy with e | hy
        · omega
        · exact h2 y (List.mem_cons_of_mem _ hy)
theorem foldl_min (r : List Int) : ∀ x : Int, (r.foldl min x ∈ x :: r) ∧ ∀ y ∈ x :: r, r.foldl min x ≤ y := by
  induction r with
  | nil => intro x; exact ⟨List.mem_cons_self .., fun y hy => by rw [List.mem_singleton.mp hy]; exact Int.le_refl _⟩
  | cons z r ih =>
    intro x
    obtain ⟨h1, h2⟩ := ih (min x z)
    refine ⟨?_, fun y hy => ?_⟩
    · show List.foldl min (min x z) r ∈ _
      rcases List.mem_cons.mp h1 with e | e
      · rw [e]
        by_cases h : x ≤ z
        · rw [Int.min_eq_left h]; exact List.mem_cons_self ..
        · rw [Int.min_eq_right (by omega)]; exact List.mem_cons_of_mem _ (List.mem_cons_self ..)
      · exact List.mem_cons_of_mem _ (List.mem_cons_of_mem _ e)
    · show List.foldl min (min x z) r ≤ y
      have h3 := h2 (min x z) (List.mem_cons_self ..)
      rcases List.mem_cons.mp hy with e | hy
      · omega
      · rcases List.mem_cons.mp hy with e | hy
        · omega
        · exact h2 y (List.mem_cons_of_mem _ hy)
theorem maxO_ok {xs : List Int} {m : Int} (h : maxO xs = some m) : 0 < xs.length ∧ m ∈ xs ∧ ∀ y ∈ xs, y ≤ m := by
  cases xs with
  | nil => cases h
  | cons x r =>
    cases h
    exact ⟨Nat.succ_pos _, (foldl_max r x).1, (foldl_max r x).2⟩
theorem minO_ok {xs : List Int} {m : Int} (h : minO xs = some m) : 0 < xs.length ∧ m ∈ xs ∧ ∀ y ∈ xs, m ≤ y := by
  cases xs with
  | nil => cases h
  | cons x r =>
    cases h
    exact ⟨Nat.succ_pos _, (foldl_min r x).1, (foldl_min r x).2⟩
theorem max_uniq {xs : List Int} {m k : Int} (h : maxO xs = some m) (hk : k ∈ xs) (hl : ∀ y, y ∈ xs → y ≤ k) : k = m := by
  obtain ⟨_, h1, h2⟩ := maxO_ok h
  have := h2 k hk
  have := hl m h1
  omega
theorem min_uniq {xs : List Int} {m k : Int} (h : minO xs = some m) (hk : k ∈ xs) (hl : ∀ y, y ∈ xs → k ≤ y) : k = m := by
  obtain ⟨_, h1, h2⟩ := minO_ok h
  have := h2 k hk
  have := hl m h1
  omega
/-! ### pop -/
def popI {α : Type} (xs : List α) (i : Int) : Option (α × List α) := (ixN xs.length i).bind fun j => xs[j]?.map fun x => (x, xs.eraseIdx j)
theorem popI_ok {α : Type} {xs r : List α} {i : Int} {x : α} (h : popI xs i = some (x, r)) : ∃ j, ixN xs.length i = some j ∧ xs[j]? = some x ∧ xs.eraseIdx j = r := by
  unfold popI at h
  obtain ⟨j, h1, h2⟩ := Option.bind_eq_some_iff.mp h
  obtain ⟨y, h3, h4⟩ := Option.map_eq_some_iff.mp h2
  cases h4
  exact ⟨j, h1, h3, rfl⟩
theorem popI_at {i : Int} {n j : Nat} (h : ixN n i = some j) (hn : n ≤ sizeLine) : (-(2 ^ 63) ≤ i ∧ i < 2 ^ 63) ∧ seqIndex? i n = some j := by
  obtain ⟨h1, h2, h3, h4⟩ := ixN_seq h
  rw [sizeLine_eq] at hn
  exact ⟨by omega, h1⟩
theorem RpA.erase {K : PySem.W.Frag} {F : Hp} : ∀ {vs : List V} {ds : List PyData} (j : Nat), RpA K F vs ds → RpA K F (vs.eraseIdx j) (ds.eraseIdx j)
  | _, _, _, .nil => .nil
  | _, _, 0, .cons _ t => t
  | _, _, j + 1, .cons h t => .cons h (RpA.erase j t)
theorem map_er {α β : Type} (f : α → β) : ∀ (l : List α) (j : Nat), (l.eraseIdx j).map f = (l.map f).eraseIdx j
  | [], _ => rfl
  | _ :: _, 0 => rfl
  | x :: l, j + 1 => congrArg (f x :: ·) (map_er f l j)
theorem RL.erase {α : Type} [Enc α] {K : PySem.W.Frag} {F : Hp} {vs : List V} {xs : List α} (j : Nat) (h : RL K F vs xs) : RL K F (vs.eraseIdx j) (xs.eraseIdx j) := by
  have := RpA.erase j h
  rw [← map_er] at this
  exact this
theorem erase_le {α : Type} {xs : List α} {j n : Nat} (h : xs.length ≤ n) : (xs.eraseIdx j).length ≤ n := Nat.le_trans (List.length_eraseIdx_le _ _) h
/-! ### a list so many times -/
def repL {α : Type} (xs : List α) (k : Int) : Option (List α) := if -(2 ^ 63) ≤ k ∧ k < 2 ^ 63 ∧ xs.length * k.toNat ≤ sizeLine then some (List.replicate k.toNat xs).flatten else none
theorem repL_ok {α : Type} {xs r : List α} {k : Int} (h : repL xs k = some r) : (-(2 ^ 63) ≤ k ∧ k < 2 ^ 63 ∧ xs.length * k.toNat ≤ sizeLine) ∧ (List.replicate k.toNat xs).flatten = r := by
  unfold repL at h
  split at h
  · exact ⟨by assumption, Option.some.inj h⟩
  · cases h
theorem RL.rep {α : Type} [Enc α] {K : PySem.W.Frag} {F : Hp} {vs : List V} {xs : List α} (h : RL K F vs xs) : ∀ n : Nat, RL K F (List.replicate n vs).flatten (List.replicate n xs).flatten
  | 0 => RpA.nil
  | n + 1 => by rw [List.replicate_succ, List.replicate_succ, List.flatten_cons, List.flatten_cons]; exact RL.app h (RL.rep h n)
theorem rep_len {α : Type} (xs : List α) (n : Nat) : (List.replicate n xs).flatten.length = xs.length * n := by
  rw [List.length_flatten, List.map_replicate, List.sum_replicate_nat, Nat.mul_comm]
theorem units65 {k : Nat} {A : Around} (r : Room k A) : A.units + 65 < cLine := by have := r.un; omega
def rSlF (K : PySem.W.Frag) : V → Option Int → Option Int → Hp → VK → Prop := fun x lo hi H Q => ∃ (F : Hp) (a : Addr) (xs : List V), x = .ref a ∧ SqT K F a xs ∧ Same F H ∧
  ∀ q F' H', Gr M0 F H F' H' → SqT K F' q (cutV xs lo hi) → Q (.ref q) H'
theorem sl_tupF {X : Cx} {K : PySem.W.Frag} (h : X.K = K := by rfl) : SlR X (rSlF K) := by
  subst h
  intro pins s σ H x v vl vu lo hi sl Q I rx hs pl pu ⟨F, a, xs, e, hx, hF, q⟩
  refine sl_tupA pins s σ H x v vl vu lo hi sl Q I rx hs pl pu ⟨a, xs, e, SqT_mono hF hx, fun hfull => ?_, fun _ p hp => ?_⟩
  · refine q a F H (Gr.refl hF) ?_
    unfold cutV
    rw [hfull.1, hfull.2, List.drop_zero, Nat.sub_zero, List.take_length]
    exact hx
  · exact q p _ _ ((Gr.refl hF).frz (o := .tup (cutV xs lo hi)) hp) fzT
def popL {α : Type} (xs : List α) : Option (α × List α) := xs[xs.length - 1]?.map fun x => (x, xs.dropLast)
theorem popL_ok {α : Type} {xs r : List α} {x : α} (h : popL xs = some (x, r)) : xs[xs.length - 1]? = some x ∧ xs.dropLast = r := by
  unfold popL at h
  obtain ⟨y, h3, h4⟩ := Option.map_eq_some_iff.mp h
  cases h4
  exact ⟨h3, rfl⟩
/-! ### how many unlike tuples of ints -/
class IK (α : Type) [Enc α] where
  ks : α → List Int
  enc : ∀ x, Enc.d x = .tuple ((ks x).map .int)
  few : ∀ x, (ks x).length ≤ 8
  inj : ∀ x y, ks x = ks y → x = y
instance : IK (Int × Int) := ⟨fun x => [x.1, x.2], fun _ => rfl, fun _ => by show 2 ≤ 8; decide, fun x y h => by
  obtain ⟨h1, h2⟩ := List.cons.inj h
  exact Prod.ext h1 (List.cons.inj h2).1⟩
instance : IK (T3 Int Int Int) := ⟨fun x => [x.a, x.b, x.c], fun _ => rfl, fun _ => by show 3 ≤ 8; decide, fun x y h => by
  obtain ⟨h1, h2⟩ := List.cons.inj h
  obtain ⟨h3, h4⟩ := List.cons.inj h2
  cases x
  cases y
  simp only at h1 h3 h4
  rw [h1, h3, (List.cons.inj h4).1]⟩
theorem rp_ints {K : PySem.W.Frag} {F : Hp} : ∀ {ns : List Int} {vs : List V}, RpA K F vs (ns.map .int) → vs = ns.map V.int
  | [], _, .nil => rfl
  | _ :: _, _, .cons h t => by
    cases h
    rw [rp_ints t]
    rfl
theorem ik_rows {α : Type} [Enc α] [IK α] {K : PySem.W.Frag} {F : Hp} : ∀ (ds : List α) {vs : List V}, RpA K F vs (ds.map Enc.d) → ∃ ks : List (Addr × List Int), vs = ks.map (fun p => V.ref p.1) ∧ ds.map IK.ks = ks.map (·.2) ∧ ∀ p ∈ ks, SqT K F p.1 (p.2.map V.int)
  | [], _, h => by cases h; exact ⟨[], rfl, rfl, fun _ h => nomatch h⟩
  | x :: ds, _, h => by
    cases h with
    | cons h t =>
      obtain ⟨ks, e1, e2, e3⟩ := ik_rows ds t
      rw [IK.enc x] at h
      cases h with
      | tup hs hl ha =>
        obtain rfl := rp_ints ha
        refine ⟨(_, IK.ks x) :: ks, by rw [e1]; rfl, by rw [List.map_cons, List.map_cons, e2], fun p hp => ?_⟩
        rcases List.mem_cons.mp hp with rfl | hp
        · exact hs
        · exact e3 p hp
theorem len_same {α : Type} [DecidableEq α] {a b : List α} (ha : a.Nodup) (hb : b.Nodup) (h : ∀ x, x ∈ a ↔ x ∈ b) : a.length = b.length := by
  refine Nat.le_antisymm ?_ ?_
  · exact go ha fun x hx => (h x).mp hx
  · exact go hb fun x hx => (h x).mpr hx
where
  go : ∀ {a b : List α}, a.Nodup → (∀ x ∈ a, x ∈ b) → a.length ≤ b.length
    | [], _, _, _ => Nat.zero_le _
    | x :: a, b, ha, h => by
      obtain ⟨h1, h2⟩ := List.nodup_cons.mp ha
      have hx := h x (List.mem_cons_self ..)
      have := go (a := a) (b := b.erase x) h2 fun y hy => (List.mem_erase_of_ne (fun e => by rw [e] at hy; exact h1 hy)).mpr (h y (List.mem_cons_of_mem _ hy))
      rw [List.length_erase_of_mem hx] at this
      have hp := List.length_pos_of_mem hx
      rw [List.length_cons]
      omega
def undup {α : Type} [DecidableEq α] : List α → List α
  | [] => []
  | x :: l => if x ∈ l then undup l else x :: undup l
theorem mem_undup {α : Type} [DecidableEq α] {x : α} : ∀ {l : List α}, x ∈ undup l ↔ x ∈ l
  | [] => Iff.rfl
  | y :: l => by
    unfold undup
    by_cases h : y ∈ l
    · rw [if_pos h, mem_undup, List.mem_cons]
      exact ⟨.inr, fun e => e.elim (fun e => e ▸ h) id⟩
    · rw [if_neg h, List.mem_cons, List.mem_cons, mem_undup]
theorem nodup_undup {α : Type} [DecidableEq α] : ∀ l : List α, (undup l).Nodup
  | [] => List.nodup_nil
  | y :: l => by
    unfold undup
    by_cases h : y ∈ l
    · rw [if_pos h]; exact nodup_undup l
    · rw [if_neg h]
      exact List.nodup_cons.mpr ⟨fun z => h (mem_undup.mp z), nodup_undup l⟩
def lsetT {α : Type} [DecidableEq α] (xs : List α) : Option Int := if xs.length < 64 then some (((undup xs).length : Nat) : Int) else none
theorem lsetT_ok {α : Type} [DecidableEq α] {xs : List α} {n : Int} (h : lsetT xs = some n) : xs.length < 64 ∧ (((undup xs).length : Nat) : Int) = n := by
  unfold lsetT at h
  split at h
  · exact ⟨by assumption, Option.some.inj h⟩
  · cases h
def tLenSetT (K : PySem.W.Frag) {α : Type} [Enc α] [IK α] [DecidableEq α] (ta : TE) : TE := fun σ H Q => ta σ H fun x H1 => ∃ (l : Addr) (vs : List V) (ds : List α), x = V.ref l ∧ SqL K H1 l vs ∧ RL K H1 vs ds ∧ ds.length < 64 ∧ Q (.int ((undup ds).length : Nat)) H1
theorem pe_lenSetT {X : Cx} {K : PySem.W.Frag} {α : Type} [Enc α] [IK α] [DecidableEq α] {a : Expr} {ta : TE} {p p2 q pos : Pos} (hc : X.calm = true) (hu : X.A.units + 64 < cLine) (hg : Gl X "len") (hm : X.mg "len" = none) (hg2 : Gl X "set") (hm2 : X.mg "set" = none) (ha : PE X a ta) (hK : X.K = K := by rfl)
    (na : starEach [a] X.env = (false, eval a X.env) :: starEach [] X.env := by rfl) : PE X (.Call (.Name "len" p) [.Call (.Name "set" p2) [a] [] q] [] pos) (tLenSetT (α := α) K ta) := by
  subst hK
  refine ⟨fun pins s σ H Q I h => ?_⟩
  refine Call_ (ld_blt I hg hm PySem.boot_len ?_)
  refine PyProof.Rows.callWith_builtin1 (PyProof.Rows.args_cons ?_ rfl) rfl rfl
  refine Call_ (ld_blt I hg2 hm2 PyProof.Rows.boot_set ?_)
  refine PyProof.Rows.callWith_type1 (PyProof.Rows.args_cons (thn (ha.run pins s σ H _ I h) fun v s1 ⟨x, H1, I1, r1, q1⟩ => PyProof.Rows.args_nil ?_) na) na rfl
  obtain ⟨l, vs, ds, rfl, hq, hA, h1, q1⟩ := q1
  cases r1
  obtain ⟨ks, rfl, e2, e3⟩ := ik_rows ds hA
  obtain ⟨its, rv, pl, hz⟩ := I1.list hq
  have hlen : ks.length = ds.length := by have := congrArg List.length e2; rwa [List.length_map, List.length_map, eq_comm] at this
  refine call_set_tups (P := X.prog) (w := X.w) ks (I1.ok.hd hc) pl.isList (by simpa using refs_of_vals rv) (fun p hp => I1.isT (e3 p hp)) (by omega) (by omega) fun h' tk L es ep t R g k => ?_
  have hL : L.length = (undup ds).length := by
    have k1 := R.nd
    have k2 : ((undup ds).map IK.ks).Nodup := by
      refine List.pairwise_map.mpr ((nodup_undup ds).imp fun {x y} hne e => hne (IK.inj x y e))
    have := len_same k1 k2 fun z => by
      constructor
      · intro hz
        obtain ⟨p, hp, rfl⟩ := List.mem_map.mp hz
        have hp2 := List.mem_of_mem_take (g.sub p hp)
        have : p.2 ∈ ds.map IK.ks := by rw [e2]; exact List.mem_map.mpr ⟨p, hp2, rfl⟩
        obtain ⟨x, hx, e⟩ := List.mem_map.mp this
        exact List.mem_map.mpr ⟨x, mem_undup.mpr hx, e⟩
      · intro hz
        obtain ⟨x, hx, rfl⟩ := List.mem_map.mp hz
        have : IK.ks x ∈ ks.map (·.2) := by rw [← e2]; exact List.mem_map.mpr ⟨x, mem_undup.mp hx, rfl⟩
        obtain ⟨p, hp, e⟩ := List.mem_map.mp this
        rw [← e]
        exact g.all p (by rw [List.take_length]; exact hp)
    rwa [List.length_map, List.length_map] at this
  refine PyProof.Rows.args_nil ?_
  obtain ⟨o, ho, hex, hd⟩ := R.ob
  have I2 : Inv X pins σ H1 { s1 with heap := h', toks := tk } := I1.kept fun b o e => k b o e
  have hsz : es.size = L.length := SetTR.size (s := { s1 with heap := h', toks := tk }) R
  have hfit : t.fits es.size = true := SetTR.fits (s := { s1 with heap := h', toks := tk }) R
  have hfew := R.few
  refine call_len_set (s := { s1 with heap := h', toks := tk }) ho hex hd hfit (by rw [hsz]; omega) ⟨.int ((undup ds).length : Nat), H1, I2.tok _, ⟨_, by rw [hsz, hL]⟩, q1⟩
end G
/-! Plain laws: how the makings come out. -/
namespace G
open PySem PySem.Spec PyProof.Rows L2 TL
section
variable {α β γ δ S : Type} {I : S → Prop}
def O1 (o : Option α) (P : α → Prop) : Prop := ∃ a, o = some a ∧ P a
def O2 (I : S → Prop) (o : Option (α × S)) (P : α → Prop) : Prop := ∃ a b, o = some (a, b) ∧ I b ∧ P a
theorem O1.ret {a : α} {P : α → Prop} (h : P a) : O1 (some a) P := ⟨a, rfl, h⟩
theorem O1.imp {o : Option α} {P Q : α → Prop} (h : O1 o P) (k : ∀ a, P a → Q a) : O1 o Q := let ⟨a, e, p⟩ := h; ⟨a, e, k a p⟩
theorem O1.bind {o : Option α} {f : α → Option β} {P : α → Prop} {Q : β → Prop} (h : O1 o P) (k : ∀ a, P a → O1 (f a) Q) : O1 (Option.bind o f) Q := by
  obtain ⟨a, rfl, p⟩ := h
  exact k a p
theorem O2.ret {a : α} {b : S} {P : α → Prop} (hb : I b) (h : P a) : O2 I (some (a, b)) P := ⟨a, b, rfl, hb, h⟩
theorem O2.imp {o : Option (α × S)} {P Q : α → Prop} (h : O2 I o P) (k : ∀ a, P a → Q a) : O2 I o Q := let ⟨a, b, e, i, p⟩ := h; ⟨a, b, e, i, k a p⟩
theorem O2.bind1 {o : Option α} {f : α → Option (β × S)} {P : α → Prop} {Q : β → Prop} (h : O1 o P) (k : ∀ a, P a → O2 I (f a) Q) : O2 I (Option.bind o f) Q := by
  obtain ⟨a, rfl, p⟩ := h
  exact k a p
theorem O2.ite {c : Bool} {x y : Option (α × S)} {P : α → Prop} (h1 : c = true → O2 I x P) (h2 : c = false → O2 I y P) : O2 I (if c = true then x else y) P := by
  cases c with
  | true => exact h1 rfl
  | false => exact h2 rfl
theorem O1.ite {c : Bool} {x y : Option α} {P : α → Prop} (h1 : c = true → O1 x P) (h2 : c = false → O1 y P) : O1 (if c = true then x else y) P := by
  cases c with
  | true => exact h1 rfl
  | false => exact h2 rfl
end
section
variable {α β : Type} {S : Type} {I : S → Prop}
theorem O2.bind {o : Option (α × S)} {f : α → S → Option (β × S)} {P : α → Prop} {Q : β → Prop} (h : O2 I o P) (k : ∀ a b, I b → P a → O2 I (f a b) Q) : O2 I (bind2 o f) Q := by
  obtain ⟨a, b, rfl, i, p⟩ := h
  exact k a b i p
end
section
variable {α β γ δ R T S : Type} {I : S → Prop} {Q : T → Prop} {g : R → Option (T × S)}
theorem O2.bL0 {o : Option (Lp Unit R)} {f : Option (T × S)} (e : o = some (.go ())) (k : O2 I f Q) : O2 I (bindL0 o f g) Q := by subst e; exact k
theorem O2.bL1 {o : Option (Lp α R)} {f : α → Option (T × S)} {a : α} (e : o = some (.go a)) (k : O2 I (f a) Q) : O2 I (bindL1 o f g) Q := by subst e; exact k
theorem O2.bL2 {o : Option (Lp (α × β) R)} {f : α → β → Option (T × S)} {a : α} {b : β} (e : o = some (.go (a, b))) (k : O2 I (f a b) Q) : O2 I (bindL2 o f g) Q := by subst e; exact k
theorem O2.bL3 {o : Option (Lp (α × β × γ) R)} {f : α → β → γ → Option (T × S)} {a : α} {b : β} {c : γ} (e : o = some (.go (a, b, c))) (k : O2 I (f a b c) Q) : O2 I (bindL3 o f g) Q := by subst e; exact k
end
theorem O2.true_ {S : Type} {I : S → Prop} {o : Option (Bool × S)} (h : O2 I o (fun r => r = true)) : ∃ b, o = some (true, b) := by
  obtain ⟨r, b, e, _, rfl⟩ := h
  exact ⟨b, e⟩
/-! ### lists and texts -/
theorem atI_O {α : Type} {xs : List α} {i : Int} {P : α → Prop} (h0 : 0 ≤ i) (h1 : i < xs.length) (h : ∀ x ∈ xs, P x) : O1 (atI xs i) P := by
  obtain ⟨n, rfl⟩ := Int.eq_ofNat_of_zero_le h0
  have hn : n < xs.length := by omega
  have e : xs[n]? = some xs[n] := List.getElem?_eq_getElem hn
  exact ⟨_, atI_nat e, h _ (List.getElem_mem hn)⟩
theorem tl_inj {x y : Str} (h : tl x = tl y) : x = y := by
  obtain ⟨⟨l⟩⟩ := x
  obtain ⟨⟨m⟩⟩ := y
  have h' : l = m := h
  rw [h']
theorem eqS_tl {x y : Str} : eqS x y = decide (tl x = tl y) := by
  rw [eqS_iff]
  exact decide_eq_decide.mpr ⟨fun h => by rw [h], tl_inj⟩
theorem tl_cut {z : Str} {lo hi : Option Int} : tl (cutS z lo hi) = ((tl z).drop (HT.sIx (tl z).length 0 lo)).take (HT.sIx (tl z).length (tl z).length hi - HT.sIx (tl z).length 0 lo) := by
  rw [← len_tl]
  unfold cutS tl
  rfl
theorem sIx_neg (n d : Nat) {k : Nat} (hk : 0 < k) : HT.sIx n d (some (-(k : Int))) = n - k := by
  show (if (-(k : Int)) < 0 then (-(k : Int) + (n : Int)).toNat else min (-(k : Int)).toNat n) = n - k
  rw [if_pos (by omega)]
  omega
theorem sIx_neg1 (n d : Nat) : HT.sIx n d (some (-1)) = n - 1 := sIx_neg n d (k := 1) (by decide)
theorem sIx_n (n d : Nat) : HT.sIx n d none = d := rfl
theorem tl_sgn (c : Nat) : tl (sgn c) = [c] := rfl
theorem catS_O {a b : Str} {P : Str → Prop} (h : (tl a).length + (tl b).length ≤ 16777216) (p : P (a ++ b)) : O1 (catS a b) P := by
  refine ⟨a ++ b, ?_, p⟩
  unfold catS
  rw [if_pos (by rw [len_tl, len_tl, sizeLine_eq]; exact h)]
theorem mulS_O {x : Str} {n : Int} {P : Str → Prop} (h1 : -(2 ^ 63 : Int) ≤ n) (h2 : n ≤ 16777216) (h3 : (tl x).length * n.toNat ≤ 16777216) (p : P (Txt.mul x n)) : O1 (mulS x n) P := by
  refine ⟨_, ?_, p⟩
  unfold mulS
  rw [if_pos ⟨h1, h2, by rw [len_tl]; exact h3⟩]
theorem codeAt_O {x : Str} {i : Int} {P : Nat → Prop} (h0 : 0 ≤ i) (h1 : i < (tl x).length) (h : ∀ c ∈ tl x, P c) : O1 (codeAt x i) P := atI_O h0 h1 h
theorem rangeO1_O {n : Int} {P : List Int → Prop} (h : n ≤ 16777216) (h0 : -(2 ^ 62) ≤ n) (p : P (rangeL 0 n.toNat)) : O1 (rangeO1 n) P := by
  refine ⟨_, ?_, p⟩
  unfold rangeO1
  rw [if_pos ⟨⟨h0, by omega⟩, by rw [sizeLine_eq]; omega⟩]
theorem joinS_O {sep : Str} {ys : List Str} {P : Str → Prop} (h : (ys.map fun y => (tl y).length).sum + ys.length * (tl sep).length ≤ 16777216) (p : P (Txt.join sep ys)) : O1 (joinS sep ys) P := by
  refine ⟨_, ?_, p⟩
  unfold joinS
  rw [if_pos]
  have e : (ys.map fun y => y.length) = ys.map fun y => (tl y).length := List.map_congr_left fun y _ => len_tl y
  show (ys.map fun y => y.length).sum + ys.length * sep.length ≤ _
  rw [e, len_tl]
  exact h
theorem tl_empty : tl ("" : Str) = [] := by decide +kernel
theorem joinL_nil : ∀ (ys : List (List Nat)), joinL [] ys = ys.flatten
  | [] => rfl
  | [y] => by show y = [y].flatten; simp
  | y :: z :: r => by
    show y ++ ([] ++ joinL [] (z :: r)) = _
    rw [joinL_nil (z :: r)]
    simp
theorem tl_join0 (ys : List Str) : tl (Txt.join ("" : Str) ys) = (ys.map tl).flatten := by rw [tl_joinS, tl_empty, joinL_nil]
/-- a text of no more than n signs -/
def Sh (n : Nat) (x : Str) : Prop := (tl x).length ≤ n
theorem Sh.mono {n m : Nat} {x : Str} (h : Sh n x) (k : n ≤ m) : Sh m x := Nat.le_trans h k
theorem Sh.cut {n : Nat} {x : Str} {lo hi : Option Int} (h : Sh n x) : Sh n (cutS x lo hi) := by
  unfold Sh at *
  rw [tl_cut, List.length_take, List.length_drop]
  omega
theorem Sh.sgn {c : Nat} : Sh 1 (sgn c) := Nat.le_refl 1
theorem Sh.rev {n : Nat} {x : Str} (h : Sh n x) : Sh n (revS x) := by
  unfold Sh at *
  rw [tl_revS, List.length_reverse]
  exact h
theorem Sh.cat {n m : Nat} {a b : Str} (ha : Sh n a) (hb : Sh m b) : Sh (n + m) (a ++ b) := by
  unfold Sh at *
  rw [tl_append, List.length_append]
  omega
theorem Sh.cat_O {n m : Nat} {a b : Str} (ha : Sh n a) (hb : Sh m b) (h : n + m ≤ 16777216 := by decide) : O1 (catS a b) (Sh (n + m)) :=
  catS_O (Nat.le_trans (Nat.add_le_add ha hb) h) (ha.cat hb)
theorem tl_mul_len (x : Str) (n : Int) : (tl (Txt.mul x n)).length = n.toNat * (tl x).length := by
  rw [tl_mul, List.length_flatten, List.map_replicate, List.sum_replicate_nat]
theorem Sh.mul_O {n m : Nat} {x : Str} {i : Int} (hx : Sh n x) (h0 : -1000000 ≤ i) (h1 : i ≤ (m : Nat)) (h2 : m * n ≤ 16777216) (h3 : m ≤ 16777216) : O1 (mulS x i) (Sh (m * n)) := by
  have h4 : i.toNat ≤ m := by omega
  have h5 : i.toNat * (tl x).length ≤ m * n := Nat.mul_le_mul h4 hx
  refine mulS_O (by omega) (by omega) (by rw [Nat.mul_comm]; omega) ?_
  unfold Sh
  rw [tl_mul_len]
  exact h5
theorem sh_sum {n : Nat} : ∀ {ys : List Str}, (∀ y ∈ ys, Sh n y) → (ys.map fun y => (tl y).length).sum ≤ ys.length * n
  | [], _ => by simp
  | y :: ys, h => by
    have h1 := sh_sum (n := n) (ys := ys) fun z hz => h z (List.mem_cons_of_mem _ hz)
    have h2 : (tl y).length ≤ n := h y (List.mem_cons_self ..)
    rw [List.map_cons, List.sum_cons, List.length_cons, Nat.add_mul, Nat.one_mul]
    omega
theorem Sh.join_O {n m : Nat} {ys : List Str} (h : ∀ y ∈ ys, Sh n y) (hm : ys.length ≤ m) (h2 : m * n ≤ 16777216) : O1 (joinS ("" : Str) ys) (Sh (m * n)) := by
  have h1 := sh_sum h
  have h3 : ys.length * n ≤ m * n := Nat.mul_le_mul_right n hm
  have e : (tl ("" : Str)).length = 0 := by rw [tl_empty]; rfl
  refine joinS_O (by rw [e]; omega) ?_
  unfold Sh
  rw [tl_join0, List.length_flatten, List.map_map]
  exact Nat.le_trans h1 h3
theorem rangeL_length {lo : Int} {n : Nat} : (rangeL lo n).length = n := rangeL_len lo n
/-! ### == of data -/
class EqvD (α : Type) [Enc α] : Prop where
  iff : ∀ x y : α, PyData.eqv (Enc.d x) (Enc.d y) = true ↔ x = y
instance : EqvD Int := ⟨fun x y => by show (x == y) = true ↔ _; exact beq_iff_eq⟩
instance : EqvD Bool := ⟨fun x y => by show (x == y) = true ↔ _; exact beq_iff_eq⟩
instance : EqvD Str := ⟨fun x y => by show (x == y) = true ↔ _; exact beq_iff_eq⟩
instance {α : Type} [Enc α] [EqvD α] [NN α] : EqvD (Option α) := ⟨fun x y => by
  cases x with
  | none =>
    cases y with
    | none => exact ⟨fun _ => rfl, fun _ => rfl⟩
    | some y =>
      have n := NN.ne y
      refine ⟨fun h => ?_, (fun h => nomatch h)⟩
      have h' : PyData.eqv .none (Enc.d y) = true := h
      revert h' n
      generalize Enc.d y = d
      intro n h'
      cases d <;> first | exact absurd rfl n | cases h'
  | some x =>
    cases y with
    | none =>
      have n := NN.ne x
      refine ⟨fun h => ?_, (fun h => nomatch h)⟩
      have h' : PyData.eqv (Enc.d x) .none = true := h
      revert h' n
      generalize Enc.d x = d
      intro n h'
      cases d <;> first | exact absurd rfl n | cases h'
    | some y => exact ⟨fun h => congrArg some ((EqvD.iff x y).mp h), fun h => (EqvD.iff x y).mpr (Option.some.inj h)⟩⟩
theorem eqvAll_iff {α : Type} [Enc α] [EqvD α] : ∀ xs ys : List α, PyData.eqvAll (xs.map Enc.d) (ys.map Enc.d) = true ↔ xs = ys
  | [], [] => ⟨fun _ => rfl, fun _ => rfl⟩
  | [], _ :: _ => ⟨(fun h => nomatch h), (fun h => nomatch h)⟩
  | _ :: _, [] => ⟨(fun h => nomatch h), (fun h => nomatch h)⟩
  | x :: xs, y :: ys => by
    show (PyData.eqv (Enc.d x) (Enc.d y) && PyData.eqvAll (xs.map Enc.d) (ys.map Enc.d)) = true ↔ _
    rw [Bool.and_eq_true, EqvD.iff, eqvAll_iff xs ys, List.cons.injEq]
instance {α : Type} [Enc α] [EqvD α] : EqvD (List α) := ⟨fun x y => eqvAll_iff x y⟩
instance {α : Type} [Enc α] [EqvD α] : EqvD (VT α) := ⟨fun x y => by
  obtain ⟨x⟩ := x
  obtain ⟨y⟩ := y
  rw [VT.mk.injEq]
  exact eqvAll_iff x y⟩
instance {α β : Type} [Enc α] [Enc β] [EqvD α] [EqvD β] : EqvD (α × β) := ⟨fun x y => by
  obtain ⟨a, b⟩ := x
  obtain ⟨c, d⟩ := y
  show (PyData.eqv (Enc.d a) (Enc.d c) && (PyData.eqv (Enc.d b) (Enc.d d) && true)) = true ↔ _
  rw [Bool.and_true, Bool.and_eq_true, EqvD.iff, EqvD.iff, Prod.mk.injEq]⟩
instance {α β γ : Type} [Enc α] [Enc β] [Enc γ] [EqvD α] [EqvD β] [EqvD γ] : EqvD (T3 α β γ) := ⟨fun x y => by
  obtain ⟨a, b, e⟩ := x
  obtain ⟨c, d, f⟩ := y
  show (PyData.eqv (Enc.d a) (Enc.d c) && (PyData.eqv (Enc.d b) (Enc.d d) && (PyData.eqv (Enc.d e) (Enc.d f) && true))) = true ↔ _
  rw [Bool.and_true, Bool.and_eq_true, Bool.and_eq_true, EqvD.iff, EqvD.iff, EqvD.iff, T3.mk.injEq]⟩
instance {α β γ δ : Type} [Enc α] [Enc β] [Enc γ] [Enc δ] [EqvD α] [EqvD β] [EqvD γ] [EqvD δ] : EqvD (T4 α β γ δ) := ⟨fun x y => by
  obtain ⟨a, b, e, g⟩ := x
  obtain ⟨c, d, f, h⟩ := y
  show (PyData.eqv (Enc.d a) (Enc.d c) && (PyData.eqv (Enc.d b) (Enc.d d) && (PyData.eqv (Enc.d e) (Enc.d f) && (PyData.eqv (Enc.d g) (Enc.d h) && true)))) = true ↔ _
  rw [Bool.and_true, Bool.and_eq_true, Bool.and_eq_true, Bool.and_eq_true, EqvD.iff, EqvD.iff, EqvD.iff, EqvD.iff, T4.mk.injEq]⟩
theorem eqD_iff {α : Type} [Enc α] [EqvD α] {x y : α} : eqD x y = true ↔ x = y := EqvD.iff x y
theorem eqD_dec {α : Type} [Enc α] [EqvD α] [DecidableEq α] {x y : α} : eqD x y = decide (x = y) := by
  rw [Bool.eq_iff_iff, eqD_iff, decide_eq_true_iff]
theorem eqD_refl {α : Type} [Enc α] [EqvD α] (x : α) : eqD x x = true := eqD_iff.mpr rfl
theorem eqD_false {α : Type} [Enc α] [EqvD α] {x y : α} (h : x ≠ y) : eqD x y = false := Bool.eq_false_iff.mpr fun e => h (eqD_iff.mp e)
theorem alike_self {α : Type} [DecidableEq α] (x : α) : m_l_alike x x = some true := by
  unfold m_l_alike
  rw [if_pos rfl]
theorem bind2_some {α β γ : Type} {a : α} {b : β} {f : α → β → Option γ} : bind2 (some (a, b)) f = f a b := rfl
theorem notT {α : Type} {a b : α} : (if (!true) = true then a else b) = b := rfl
theorem alike_O {α : Type} [DecidableEq α] {x y : α} {P : Bool → Prop} (h : x = y) (p : P true) : O1 (m_l_alike x y) P := by
  refine ⟨true, ?_, p⟩
  unfold m_l_alike
  rw [if_pos h]
end G
/-! Plain laws: patterns, their worth, addresses written. -/
namespace G
open PySem PySem.Spec PyProof.Rows L2 TL
/-- a sign of '01' -/
def isB (c : Nat) : Bool := decide (c ∈ [48, 49])
theorem isB_iff {c : Nat} : isB c = true ↔ c = 48 ∨ c = 49 := by unfold isB; simp
theorem tl01 : tl ("01" : Str) = [48, 49] := by decide +kernel
theorem tlStar : tl ("*" : Str) = [42] := by decide +kernel
theorem tl0 : tl ("0" : Str) = [48] := by decide +kernel
theorem tl1 : tl ("1" : Str) = [49] := by decide +kernel
def Bits (bs : List Nat) : Prop := ∀ c ∈ bs, isB c = true
theorem Bits.nil : Bits [] := fun _ h => nomatch h
theorem Bits.app {a b : List Nat} (ha : Bits a) (hb : Bits b) : Bits (a ++ b) := fun c h => (List.mem_append.mp h).elim (ha c) (hb c)
theorem Bits.take {a : List Nat} (n : Nat) (ha : Bits a) : Bits (a.take n) := fun c h => ha c (List.mem_of_mem_take h)
theorem Bits.drop {a : List Nat} (n : Nat) (ha : Bits a) : Bits (a.drop n) := fun c h => ha c (List.mem_of_mem_drop h)
theorem Bits.one {c : Nat} (h : isB c = true) : Bits [c] := fun d hd => by rw [List.mem_singleton.mp hd]; exact h
theorem Bits.mem01 {c : Nat} (h : c ∈ tl ("01" : Str)) : isB c = true := by rw [tl01] at h; exact decide_eq_true h
theorem Bits.no42 {a : List Nat} (ha : Bits a) : 42 ∉ a := fun h => absurd (ha 42 h) (by decide)
/-- the pattern of w signs that bits bs make -/
def patL (w : Nat) (bs : List Nat) : List Nat := bs ++ (if bs.length < w then [42] else [])
structure Pat (w : Nat) (bs : List Nat) (x : Str) : Prop where
  bits : Bits bs
  le : bs.length ≤ w
  eq : tl x = patL w bs
theorem tl_strip (x y : Str) : tl (Txt.stripChars x y) = ((tl x).take (stripHi y.cps.contains true x (stripLo y.cps.contains true x))).drop (stripLo y.cps.contains true x) := by
  unfold Txt.stripChars
  rw [stripBy_eq]
  show (x.cps.extract _ _).toList = _
  rw [List.drop_take]
  simp [tl]
theorem tw0 {p : Nat → Bool} : ∀ l : List Nat, (∀ c, l.head? = some c → p c = false) → l.takeWhile p = []
  | [], _ => rfl
  | c :: r, h => by rw [List.takeWhile_cons, if_neg (by rw [h c rfl]; exact Bool.false_ne_true)]
theorem strip_star {x : Str} {bs st : List Nat} (e : tl x = bs ++ st) (h : 42 ∉ bs) (hs : st = [] ∨ st = [42]) : tl (Txt.stripChars x ("*" : Str)) = bs := by
  have hc : ∀ c : Nat, (("*" : Str)).cps.contains c = decide (c = 42) := fun c => by
    have e1 : (("*" : Str)).cps = #[42] := by decide +kernel
    rw [e1]
    simp [Bool.beq_eq_decide_eq]
  rw [tl_strip]
  generalize hg : (("*" : Str)).cps.contains = g at *
  have hx : x.cps.toList = bs ++ st := e
  have hlen : x.length = bs.length + st.length := by rw [len_tl, e, List.length_append]
  cases bs with
  | nil =>
    rcases hs with rfl | rfl
    · rw [e]; simp
    · have h1 : stripLo g true x = 1 := by
        unfold stripLo
        rw [if_pos rfl, hx]
        show (List.takeWhile g [42]).length = 1
        rw [List.takeWhile_cons, if_pos (by rw [hc]; decide)]
        rfl
      rw [h1, e]
      rw [List.drop_eq_nil_iff, List.length_take]
      exact Nat.min_le_right _ _
  | cons c r =>
    have hc42 : g c = false := by rw [hc]; exact decide_eq_false fun z => h (by rw [z]; exact List.mem_cons_self ..)
    have h1 : stripLo g true x = 0 := by
      unfold stripLo
      rw [if_pos rfl, hx]
      show (List.takeWhile g (c :: (r ++ st))).length = 0
      rw [List.takeWhile_cons, if_neg (by rw [hc42]; decide)]
      rfl
    have hlast : ∀ l : List Nat, 42 ∉ l → l.reverse.takeWhile g = [] := fun l hl => tw0 _ fun d hd => by
      rw [hc]
      refine decide_eq_false fun z => hl ?_
      rw [← z]
      exact List.mem_reverse.mp (List.mem_of_mem_head? hd)
    have h2 : stripHi g true x 0 = (c :: r).length := by
      unfold stripHi
      rw [if_pos rfl, hx, List.drop_zero, hlen]
      rcases hs with rfl | rfl
      · rw [List.append_nil, hlast _ h]
        simp
      · rw [List.reverse_append]
        show _ - (List.takeWhile g (42 :: (c :: r).reverse)).length = _
        rw [List.takeWhile_cons, if_pos (by rw [hc]; decide), hlast _ h]
        simp
    rw [h1, h2, e, List.drop_zero, List.take_left]
theorem part_star {x : Str} {bs st : List Nat} (e : tl x = bs ++ st) (h : 42 ∉ bs) (hs : st = [] ∨ st = [42]) : tl (partS x ("*" : Str)).a = bs := by
  have ex : x = ⟨bs.toArray⟩ ++ (⟨st.toArray⟩ : Str) := tl_inj (by rw [tl_append, e])
  have hb : 42 ∉ tl (⟨bs.toArray⟩ : Str) := by simpa [tl] using h
  rcases hs with rfl | rfl
  · have e2 : x = ⟨bs.toArray⟩ := tl_inj (by rw [e]; simp [tl])
    show tl (Txt.partition x ("*" : Str)).1 = bs
    rw [e2, TL.partition_none tlStar hb]
  · have e2 : x = (⟨bs.toArray⟩ : Str) ++ ("*" : Str) ++ Str.empty := tl_inj (by rw [tl_append, tl_append, tlStar, e]; simp [tl, Str.empty])
    show tl (Txt.partition x ("*" : Str)).1 = bs
    rw [e2, TL.partition_app tlStar hb]
theorem Pat.strip {w : Nat} {bs : List Nat} {x : Str} (p : Pat w bs x) : tl (Txt.stripChars x ("*" : Str)) = bs := by
  refine strip_star (st := if bs.length < w then [42] else []) p.eq p.bits.no42 ?_
  split
  · exact .inr rfl
  · exact .inl rfl
theorem Pat.part {w : Nat} {bs : List Nat} {x : Str} (p : Pat w bs x) : tl (partS x ("*" : Str)).a = bs := by
  refine part_star (st := if bs.length < w then [42] else []) p.eq p.bits.no42 ?_
  split
  · exact .inr rfl
  · exact .inl rfl
theorem Pat.len {w : Nat} {bs : List Nat} {x : Str} (p : Pat w bs x) : (tl x).length ≤ w := by
  rw [p.eq, patL, List.length_append]
  have := p.le
  split
  · simp; omega
  · simp; omega
/-! ### worth -/
def wr (bs : List Nat) : Nat := bs.foldl (fun n c => 2 * n + (if c = 49 then 1 else 0)) 0
theorem wr_from (bs : List Nat) : ∀ a : Nat, bs.foldl (fun n c => 2 * n + (if c = 49 then 1 else 0)) a = a * 2 ^ bs.length + wr bs := by
  induction bs with
  | nil => intro a; simp [wr]
  | cons c bs ih =>
    intro a
    have h0 := ih (2 * 0 + (if c = 49 then 1 else 0))
    show List.foldl _ (2 * a + (if c = 49 then 1 else 0)) bs = _
    rw [ih]
    have h1 : wr (c :: bs) = (2 * 0 + (if c = 49 then 1 else 0)) * 2 ^ bs.length + wr bs := h0
    rw [h1, List.length_cons, Nat.pow_succ]
    generalize (if c = 49 then 1 else 0) = d
    generalize 2 ^ bs.length = p
    rw [Nat.add_mul, Nat.mul_zero, Nat.zero_add, Nat.add_assoc, Nat.mul_comm 2 a, Nat.mul_assoc, Nat.mul_comm 2 p]
theorem wr_app (a b : List Nat) : wr (a ++ b) = wr a * 2 ^ b.length + wr b := by
  unfold wr
  rw [List.foldl_append]
  exact wr_from b _
theorem wr_cons (c : Nat) (b : List Nat) : wr (c :: b) = (if c = 49 then 1 else 0) * 2 ^ b.length + wr b := by
  have := wr_app [c] b
  rw [List.singleton_append] at this
  rw [this]
  congr 2
  simp [wr]
theorem wr_snoc (a : List Nat) (c : Nat) : wr (a ++ [c]) = 2 * wr a + (if c = 49 then 1 else 0) := by
  unfold wr
  rw [List.foldl_append]
  rfl
theorem wr_lt : ∀ bs : List Nat, wr bs < 2 ^ bs.length
  | [] => by decide
  | c :: bs => by
    have := wr_lt bs
    rw [wr_cons, List.length_cons, Nat.pow_succ]
    split <;> omega
theorem wr_zeros (k : Nat) : wr (List.replicate k 48) = 0 := by
  induction k with
  | zero => rfl
  | succ k ih => rw [List.replicate_succ, wr_cons, ih]; simp
theorem wr_ones (k : Nat) : wr (List.replicate k 49) + 1 = 2 ^ k := by
  induction k with
  | zero => rfl
  | succ k ih =>
    rw [List.replicate_succ, wr_cons, List.length_replicate, Nat.pow_succ, if_pos rfl]
    omega
theorem wr_inj : ∀ {a b : List Nat}, Bits a → Bits b → a.length = b.length → wr a = wr b → a = b
  | [], [], _, _, _, _ => rfl
  | [], _ :: _, _, _, h, _ => nomatch h
  | _ :: _, [], _, _, h, _ => nomatch h
  | c :: a, d :: b, ha, hb, h, e => by
    have hl : a.length = b.length := Nat.succ.inj h
    rw [wr_cons, wr_cons, hl] at e
    have h1 := wr_lt a
    have h2 := wr_lt b
    rw [hl] at h1
    have hc := isB_iff.mp (ha c (List.mem_cons_self ..))
    have hd := isB_iff.mp (hb d (List.mem_cons_self ..))
    have he : c = d ∧ wr a = wr b := by
      rcases hc with rfl | rfl <;> rcases hd with rfl | rfl <;> simp at e ⊢ <;> omega
    rw [he.1, wr_inj (fun x hx => ha x (List.mem_cons_of_mem _ hx)) (fun x hx => hb x (List.mem_cons_of_mem _ hx)) hl he.2]
theorem toI_sgn1 (c : Nat) : toI (eqS (sgn c) ("1" : Str)) = ((if c = 49 then 1 else 0 : Nat) : Int) := by
  rw [eqS_tl, tl_sgn, tl1]
  by_cases h : c = 49
  · subst h; rfl
  · rw [decide_eq_false (fun e => h (List.cons.inj e).1), if_neg h]; rfl
theorem log2_lt64 {a : Nat} (h : a < 2 ^ 64) : a.log2 < 64 := by
  by_cases h0 : a = 0
  · subst h0; decide
  · exact (Nat.log2_lt h0).mpr h
theorem mulI_nat {a b : Nat} (ha : a < 2 ^ 64) (hb : b < 2 ^ 64) : mulI (a : Int) (b : Int) = some ((a * b : Nat) : Int) := by
  unfold mulI
  have h1 := log2_lt64 ha
  have h2 := log2_lt64 hb
  rw [if_pos (by rw [Int.natAbs_natCast, Int.natAbs_natCast]; omega)]
  rfl
theorem shlI_one {k : Nat} (h : k ≤ 1000000) : shlI 1 (k : Int) = some ((2 ^ k : Nat) : Int) := by
  unfold shlI
  rw [if_pos ⟨by omega, by omega, by decide⟩, Int.one_mul, Int.toNat_natCast]
  simp
theorem shrI_nat {n k : Nat} : shrI (n : Int) (k : Int) = some ((n / 2 ^ k : Nat) : Int) := by
  unfold shrI
  rw [if_pos (by omega), Int.toNat_natCast]
  simp
theorem and_one (n : Nat) : Builtin.bitAnd (n : Int) 1 = ((n % 2 : Nat) : Int) := by
  have := Bits.bitAnd_mask (x := (n : Int)) 1 (by omega)
  rw [show ((2 : Int) ^ 1 - 1) = 1 by decide] at this
  rw [this]
  simp
theorem pow_lt64 {k : Nat} (h : k < 64) : 2 ^ k < 2 ^ 64 := Nat.pow_lt_pow_right (by decide) h
/-! ### an address written with w signs -/
def bin : Nat → Nat → List Nat
  | 0, _ => []
  | w + 1, n => bin w (n / 2) ++ [48 + n % 2]
theorem bin_len : ∀ w n : Nat, (bin w n).length = w
  | 0, _ => rfl
  | w + 1, n => by rw [bin, List.length_append, bin_len w]; rfl
theorem bin_bits : ∀ w n : Nat, Bits (bin w n)
  | 0, _ => Bits.nil
  | w + 1, n => (bin_bits w _).app (Bits.one (isB_iff.mpr (by have := Nat.mod_two_eq_zero_or_one n; omega)))
theorem wr_bin : ∀ w n : Nat, wr (bin w n) = n % 2 ^ w
  | 0, n => by rw [Nat.pow_zero, Nat.mod_one]; rfl
  | w + 1, n => by
    rw [bin, wr_snoc, wr_bin w, Nat.pow_succ, Nat.mul_comm (2 ^ w) 2, Nat.mod_mul]
    have : (if 48 + n % 2 = 49 then 1 else 0) = n % 2 := by
      have := Nat.mod_two_eq_zero_or_one n
      split <;> omega
    rw [this]
    omega
theorem bin_take : ∀ (k j n : Nat), (bin (k + j) n).take k = bin k (n / 2 ^ j)
  | k, 0, n => by
    rw [Nat.add_zero, Nat.pow_zero, Nat.div_one]
    exact List.take_of_length_le (by rw [bin_len]; exact Nat.le_refl _)
  | k, j + 1, n => by
    show (bin (k + j) (n / 2) ++ [48 + n % 2]).take k = _
    rw [List.take_append_of_le_length (by rw [bin_len]; omega), bin_take k j, Nat.div_div_eq_div_mul, Nat.pow_succ, Nat.mul_comm 2]
theorem bin_top : ∀ k n : Nat, bin (k + 1) n = (48 + n / 2 ^ k % 2) :: bin k n
  | 0, n => by rw [Nat.pow_zero, Nat.div_one]; rfl
  | k + 1, n => by
    rw [bin, bin_top k (n / 2), Nat.div_div_eq_div_mul, Nat.mul_comm 2, ← Nat.pow_succ]
    rfl
theorem code01 {d : Nat} (h : d < 2) : codeAt ("01" : Str) (d : Nat) = some (48 + d) := by
  have : d = 0 ∨ d = 1 := by omega
  rcases this with rfl | rfl
  · exact atI_nat (by rw [tl01]; rfl)
  · exact atI_nat (by rw [tl01]; rfl)
end G
namespace G
open PySem PySem.Spec PyProof.Rows L2 TL
/-! ### addresses that spans have within a block -/
def cn1 (s : Int × Int) (a e : Int) : Int := max 0 (min e s.2 - max a s.1)
def ct (S : List (Int × Int)) (a e : Int) : Int := (S.map fun s => cn1 s a e).sum
theorem ct_nil (a e : Int) : ct [] a e = 0 := rfl
theorem ct_cons (s : Int × Int) (S : List (Int × Int)) (a e : Int) : ct (s :: S) a e = cn1 s a e + ct S a e := by unfold ct; rw [List.map_cons, List.sum_cons]
theorem ct_app (S T : List (Int × Int)) (a e : Int) : ct (S ++ T) a e = ct S a e + ct T a e := by
  induction S with
  | nil => rw [List.nil_append, ct_nil]; omega
  | cons s S ih => rw [List.cons_append, ct_cons, ct_cons, ih]; omega
theorem cn1_nn (s : Int × Int) (a e : Int) : 0 ≤ cn1 s a e := by unfold cn1; omega
theorem ct_nn (S : List (Int × Int)) (a e : Int) : 0 ≤ ct S a e := by
  induction S with
  | nil => exact Int.le_refl _
  | cons s S ih => rw [ct_cons]; have := cn1_nn s a e; omega
theorem cn1_cut {s : Int × Int} {a m e : Int} (h1 : a ≤ m) (h2 : m ≤ e) : cn1 s a e = cn1 s a m + cn1 s m e ∨ s.2 ≤ s.1 := by
  unfold cn1
  omega
/-- rising spans, that may touch -/
def Rise (S : List (Int × Int)) : Prop := (∀ s ∈ S, s.1 < s.2) ∧ S.Pairwise fun s t => s.2 ≤ t.1
/-- rising spans with gaps -/
def Gaps (S : List (Int × Int)) : Prop := (∀ s ∈ S, s.1 < s.2) ∧ S.Pairwise fun s t => s.2 < t.1
theorem Gaps.rise {S : List (Int × Int)} (h : Gaps S) : Rise S := ⟨h.1, h.2.imp fun h => Int.le_of_lt h⟩
theorem Rise.tail {s : Int × Int} {S : List (Int × Int)} (h : Rise (s :: S)) : Rise S := ⟨fun t ht => h.1 t (List.mem_cons_of_mem _ ht), (List.pairwise_cons.mp h.2).2⟩
theorem Gaps.tail {s : Int × Int} {S : List (Int × Int)} (h : Gaps (s :: S)) : Gaps S := ⟨fun t ht => h.1 t (List.mem_cons_of_mem _ ht), (List.pairwise_cons.mp h.2).2⟩
theorem ct_cut {S : List (Int × Int)} (h : Rise S) {a m e : Int} (h1 : a ≤ m) (h2 : m ≤ e) : ct S a e = ct S a m + ct S m e := by
  induction S with
  | nil => rfl
  | cons s S ih =>
    rw [ct_cons, ct_cons, ct_cons, ih h.tail]
    have := h.1 s (List.mem_cons_self ..)
    rcases cn1_cut (s := s) h1 h2 with e | e <;> omega
/-- what stands behind k alone has at most what is behind k -/
theorem ct_from {S : List (Int × Int)} (h : Rise S) {k a e : Int} (hk : ∀ s ∈ S, k ≤ s.1) : ct S a e ≤ max 0 (e - max a k) := by
  induction S generalizing k with
  | nil => rw [ct_nil]; omega
  | cons s S ih =>
    rw [ct_cons]
    have h1 := h.1 s (List.mem_cons_self ..)
    have h2 := hk s (List.mem_cons_self ..)
    have h3 := ih h.tail (k := s.2) fun t ht => (List.pairwise_cons.mp h.2).1 t ht
    unfold cn1
    omega
theorem ct_le {S : List (Int × Int)} (h : Rise S) {a e : Int} (hae : a ≤ e) : ct S a e ≤ e - a := by
  cases S with
  | nil => rw [ct_nil]; omega
  | cons s S =>
    have h3 := ct_from h.tail (k := s.2) (a := a) (e := e) fun t ht => (List.pairwise_cons.mp h.2).1 t ht
    have h1 := h.1 s (List.mem_cons_self ..)
    rw [ct_cons]
    unfold cn1
    omega
/-- a block that is had whole is had by one, where there are gaps -/
theorem ct_full {S : List (Int × Int)} (h : Gaps S) {a e : Int} (hae : a < e) (hc : ct S a e = e - a) : ∃ A s B, S = A ++ s :: B ∧ s.1 ≤ a ∧ e ≤ s.2 ∧ (∀ t ∈ A, cn1 t a e = 0) ∧ (∀ t ∈ B, cn1 t a e = 0) := by
  induction S with
  | nil => rw [ct_nil] at hc; omega
  | cons s S ih =>
    rw [ct_cons] at hc
    have h1 := h.1 s (List.mem_cons_self ..)
    have hp := (List.pairwise_cons.mp h.2).1
    by_cases hz : cn1 s a e = 0
    · obtain ⟨A, t, B, rfl, k1, k2, k3, k4⟩ := ih h.tail (by omega)
      refine ⟨s :: A, t, B, rfl, k1, k2, fun u hu => ?_, k4⟩
      rcases List.mem_cons.mp hu with rfl | hu
      · exact hz
      · exact k3 u hu
    · have h3 := ct_from h.tail.rise (k := s.2 + 1) (a := a) (e := e) fun t ht => hp t ht
      have hb : s.1 ≤ a ∧ e ≤ s.2 := by unfold cn1 at hz hc; omega
      refine ⟨[], s, S, rfl, hb.1, hb.2, (fun t ht => absurd ht (List.not_mem_nil)), fun t ht => ?_⟩
      have := hp t ht
      unfold cn1
      omega
def ends1 (s : Int × Int) (a e : Int) : Nat := (if a < s.1 ∧ s.1 < e then 1 else 0) + (if a < s.2 ∧ s.2 < e then 1 else 0)
def ends (S : List (Int × Int)) (a e : Int) : Nat := (S.map fun s => ends1 s a e).sum
theorem ends_cons (s : Int × Int) (S : List (Int × Int)) (a e : Int) : ends (s :: S) a e = ends1 s a e + ends S a e := by unfold ends; rw [List.map_cons, List.sum_cons]
theorem ends_le (S : List (Int × Int)) (a e : Int) : ends S a e ≤ 2 * S.length := by
  induction S with
  | nil => exact Nat.le_refl _
  | cons s S ih =>
    rw [ends_cons, List.length_cons]
    have : ends1 s a e ≤ 2 := by unfold ends1; split <;> split <;> omega
    omega
theorem ends_cut (S : List (Int × Int)) {a m e : Int} (h1 : a ≤ m) (h2 : m ≤ e) : ends S a m + ends S m e ≤ ends S a e := by
  induction S with
  | nil => exact Nat.le_refl _
  | cons s S ih =>
    rw [ends_cons, ends_cons, ends_cons]
    have : ends1 s a m + ends1 s m e ≤ ends1 s a e := by
      unfold ends1
      repeat' split
      all_goals omega
    omega
theorem ends_zero {S : List (Int × Int)} (h : Rise S) {a e : Int} (hae : a < e) (hz : ends S a e = 0) : ct S a e = 0 ∨ ct S a e = e - a := by
  induction S with
  | nil => exact .inl rfl
  | cons s S ih =>
    rw [ends_cons] at hz
    have hl := ct_le h (Int.le_of_lt hae)
    rw [ct_cons] at hl ⊢
    have h1 := h.1 s (List.mem_cons_self ..)
    have h0 : ends1 s a e = 0 := by omega
    have hs : cn1 s a e = 0 ∨ cn1 s a e = e - a := by
      unfold ends1 at h0
      unfold cn1
      split at h0 <;> split at h0 <;> omega
    have hn := ct_nn S a e
    rcases ih h.tail (by omega) with e1 | e1 <;> rcases hs with e2 | e2 <;> omega
/-! ### the leaves -/
abbrev H2 (j : Nat) : Int := ((2 ^ j : Nat) : Int)
theorem H2_succ (j : Nat) : H2 (j + 1) = 2 * H2 j := by show ((2 ^ (j + 1) : Nat) : Int) = 2 * ((2 ^ j : Nat) : Int); rw [Nat.pow_succ]; omega
theorem H2_pos (j : Nat) : 0 < H2 j := Int.ofNat_lt.mpr (Nat.two_pow_pos j)
theorem H2_zero : H2 0 = 1 := rfl
def can (S : List (Int × Int)) : Nat → Int → List Nat → List (List Nat)
  | 0, a, bs => if ct S a (a + H2 0) = 0 then [] else [bs]
  | j + 1, a, bs => if ct S a (a + H2 (j + 1)) = 0 then [] else if ct S a (a + H2 (j + 1)) = H2 (j + 1) then [bs ++ [42]] else can S j a (bs ++ [48]) ++ can S j (a + H2 j) (bs ++ [49])
/-- a leaf as it is written -/
def leaf (j : Nat) (bs : List Nat) : List Nat := if j = 0 then bs else bs ++ [42]
theorem can_none {S : List (Int × Int)} {j : Nat} {a : Int} {bs : List Nat} (h : ct S a (a + H2 j) = 0) : can S j a bs = [] := by
  cases j <;> (unfold can; rw [if_pos h])
theorem can_full {S : List (Int × Int)} {j : Nat} {a : Int} {bs : List Nat} (h : ct S a (a + H2 j) = H2 j) : can S j a bs = [leaf j bs] := by
  have := H2_pos j
  cases j with
  | zero => unfold can; rw [if_neg (by omega)]; rfl
  | succ j => unfold can; rw [if_neg (by omega), if_pos h]; rfl
theorem can_part {S : List (Int × Int)} {j : Nat} {a : Int} {bs : List Nat} (h1 : ct S a (a + H2 (j + 1)) ≠ 0) (h2 : ct S a (a + H2 (j + 1)) ≠ H2 (j + 1)) : can S (j + 1) a bs = can S j a (bs ++ [48]) ++ can S j (a + H2 j) (bs ++ [49]) := by
  conv => lhs; unfold can
  rw [if_neg h1, if_neg h2]
theorem can_len {S : List (Int × Int)} (h : Rise S) : ∀ (j : Nat) (a : Int) (bs : List Nat), (can S j a bs).length ≤ 1 + j * ends S a (a + H2 j)
  | 0, a, bs => by
    unfold can
    split
    · exact Nat.zero_le _
    · exact Nat.le_add_right _ _
  | j + 1, a, bs => by
    have hp := H2_pos (j + 1)
    have hj := H2_pos j
    have hs := H2_succ j
    by_cases h0 : ct S a (a + H2 (j + 1)) = 0
    · rw [can_none h0]; exact Nat.zero_le _
    · by_cases h1 : ct S a (a + H2 (j + 1)) = H2 (j + 1)
      · rw [can_full h1]; exact Nat.le_add_right _ _
      · rw [can_part h0 h1, List.length_append]
        have l := can_len h j a (bs ++ [48])
        have r := can_len h j (a + H2 j) (bs ++ [49])
        have he : a + H2 j + H2 j = a + H2 (j + 1) := by omega
        rw [he] at r
        have hc := ends_cut S (a := a) (m := a + H2 j) (e := a + H2 (j + 1)) (by omega) (by omega)
        have hz : ends S a (a + H2 (j + 1)) ≠ 0 := fun e => by
          rcases ends_zero h (by omega) e with e | e <;> omega
        generalize ends S a (a + H2 (j + 1)) = x at *
        generalize ends S a (a + H2 j) = y at *
        generalize ends S (a + H2 j) (a + H2 (j + 1)) = z at *
        have : j * y + j * z ≤ j * x := by rw [← Nat.mul_add]; exact Nat.mul_le_mul_left _ hc
        have : (j + 1) * x = j * x + x := Nat.succ_mul j x
        omega
theorem can_congr {S T : List (Int × Int)} : ∀ (j : Nat) (a : Int) (bs : List Nat), (∀ f b, a ≤ f → b ≤ a + H2 j → ct S f b = ct T f b) → can S j a bs = can T j a bs
  | 0, a, bs, h => by
    unfold can
    rw [h a (a + H2 0) (Int.le_refl _) (Int.le_refl _)]
  | j + 1, a, bs, h => by
    have hj := H2_pos j
    have hs := H2_succ j
    unfold can
    rw [h a _ (Int.le_refl _) (Int.le_refl _), can_congr j a _ fun f b h1 h2 => h f b h1 (by omega), can_congr j (a + H2 j) _ fun f b h1 h2 => h f b (by omega) (by omega)]
theorem flat_nil {α β : Type} {f : α → List β} : ∀ {l : List α}, (∀ x ∈ l, f x = []) → l.flatMap f = []
  | [], _ => rfl
  | x :: l, h => by rw [List.flatMap_cons, h x (List.mem_cons_self ..), flat_nil fun y hy => h y (List.mem_cons_of_mem _ hy)]; rfl
theorem ct_zero {S : List (Int × Int)} {a e : Int} : ct S a e = 0 ↔ ∀ s ∈ S, cn1 s a e = 0 := by
  induction S with
  | nil => exact ⟨fun _ t h => absurd h (List.not_mem_nil), fun _ => rfl⟩
  | cons s S ih =>
    rw [ct_cons]
    have h1 := cn1_nn s a e
    have h2 := ct_nn S a e
    constructor
    · intro h t ht
      rcases List.mem_cons.mp ht with rfl | ht
      · omega
      · exact ih.mp (by omega) t ht
    · intro h
      have h3 := h s (List.mem_cons_self ..)
      have h4 := ih.mpr fun t ht => h t (List.mem_cons_of_mem _ ht)
      omega
theorem ct_one (s : Int × Int) (a e : Int) : ct [s] a e = cn1 s a e := by rw [ct_cons, ct_nil]; omega
/-- the leaves of spans with gaps are those of each -/
theorem can_each {S : List (Int × Int)} (h : Gaps S) : ∀ (j : Nat) (a : Int) (bs : List Nat), can S j a bs = S.flatMap fun s => can [s] j a bs := fun j => by
  induction j with
  | zero =>
    intro a bs
    by_cases h0 : ct S a (a + H2 0) = 0
    · rw [can_none h0, flat_nil fun s hs => can_none (by rw [ct_one]; exact ct_zero.mp h0 s hs)]
    · have hl := ct_le h.rise (a := a) (e := a + H2 0) (by rw [H2_zero]; omega)
      have hn := ct_nn S a (a + H2 0)
      exact full h 0 a bs (by rw [H2_zero] at *; omega)
  | succ j ih =>
    intro a bs
    have hj := H2_pos j
    have hs := H2_succ j
    by_cases h0 : ct S a (a + H2 (j + 1)) = 0
    · rw [can_none h0, flat_nil fun s hs => can_none (by rw [ct_one]; exact ct_zero.mp h0 s hs)]
    · by_cases h1 : ct S a (a + H2 (j + 1)) = H2 (j + 1)
      · exact full h (j + 1) a bs h1
      · rw [can_part h0 h1, ih, ih]
        have e1 : S.flatMap (fun s => can [s] (j + 1) a bs) = S.flatMap fun s => can [s] j a (bs ++ [48]) ++ can [s] j (a + H2 j) (bs ++ [49]) := by
          have hle : ∀ T : List (Int × Int), (∀ t ∈ T, t.1 < t.2) → ct T a (a + H2 (j + 1)) < H2 (j + 1) → (T.flatMap fun s => can [s] (j + 1) a bs) = T.flatMap fun s => can [s] j a (bs ++ [48]) ++ can [s] j (a + H2 j) (bs ++ [49]) := fun T => by
            induction T with
            | nil => exact fun _ _ => rfl
            | cons t T ihT =>
              intro ht hc
              rw [ct_cons] at hc
              have n1 := cn1_nn t a (a + H2 (j + 1))
              have n2 := ct_nn T a (a + H2 (j + 1))
              rw [List.flatMap_cons, List.flatMap_cons, ihT (fun u hu => ht u (List.mem_cons_of_mem _ hu)) (by omega)]
              congr 1
              have ht1 := ht t (List.mem_cons_self ..)
              by_cases hz : ct [t] a (a + H2 (j + 1)) = 0
              · rw [can_none hz]
                have hcut := ct_cut (S := [t]) ⟨fun u hu => by rw [List.mem_singleton.mp hu]; exact ht1, List.pairwise_singleton _ _⟩ (a := a) (m := a + H2 j) (e := a + H2 (j + 1)) (by omega) (by omega)
                have m1 := ct_nn [t] a (a + H2 j)
                have m2 := ct_nn [t] (a + H2 j) (a + H2 (j + 1))
                have he : a + H2 j + H2 j = a + H2 (j + 1) := by omega
                rw [can_none (by omega : ct [t] a (a + H2 j) = 0), can_none (by rw [he]; omega)]
                rfl
              · exact can_part hz (by rw [ct_one]; omega)
          have hl := ct_le h.rise (a := a) (e := a + H2 (j + 1)) (by omega)
          exact hle S h.1 (by omega)
        rw [e1]
        exact (inter h (m := a + H2 j) (L := fun s => can [s] j a (bs ++ [48])) (R := fun s => can [s] j (a + H2 j) (bs ++ [49])) (fun s hs => can_none (by rw [ct_one]; unfold cn1; omega)) (fun s hs => can_none (by rw [ct_one]; unfold cn1; omega)))
where
  full {S : List (Int × Int)} (h : Gaps S) (j : Nat) (a : Int) (bs : List Nat) (h1 : ct S a (a + H2 j) = H2 j) : can S j a bs = S.flatMap fun s => can [s] j a bs := by
    have hj := H2_pos j
    obtain ⟨A, s, B, rfl, k1, k2, k3, k4⟩ := ct_full h (a := a) (e := a + H2 j) (by omega) (by omega)
    rw [can_full h1, List.flatMap_append, List.flatMap_cons, flat_nil fun t ht => can_none (by rw [ct_one]; exact k3 t ht), flat_nil fun t ht => can_none (by rw [ct_one]; exact k4 t ht), can_full (by rw [ct_one]; unfold cn1; omega)]
    rfl
  inter {S : List (Int × Int)} {m : Int} {L R : Int × Int → List (List Nat)} (h : Gaps S) (hL : ∀ s, m ≤ s.1 → L s = []) (hR : ∀ s, s.2 ≤ m → R s = []) : S.flatMap L ++ S.flatMap R = S.flatMap fun s => L s ++ R s := by
    induction S with
    | nil => rfl
    | cons s S ih =>
      rw [List.flatMap_cons, List.flatMap_cons, List.flatMap_cons, ← ih h.tail]
      by_cases hs : s.2 ≤ m
      · rw [hR s hs]; simp
      · have : S.flatMap L = [] := flat_nil fun t ht => hL t (by have := (List.pairwise_cons.mp h.2).1 t ht; omega)
        rw [this]; simp
end G
namespace G
open PySem PySem.Spec PyProof.Rows L2 TL
/-! ### the address at which a block begins -/
abbrev beg (bs : List Nat) (j : Nat) : Int := ((wr bs * 2 ^ j : Nat) : Int)
theorem beg0 (bs : List Nat) (j : Nat) : beg (bs ++ [48]) j = beg bs (j + 1) := by
  unfold beg
  rw [wr_snoc, if_neg (by decide), Nat.pow_succ, Nat.add_zero, Nat.mul_comm 2, Nat.mul_assoc, Nat.mul_comm 2]
theorem beg1 (bs : List Nat) (j : Nat) : beg (bs ++ [49]) j = beg bs (j + 1) + H2 j := by
  unfold beg
  rw [wr_snoc, if_pos rfl, Nat.pow_succ, Nat.add_mul, Nat.one_mul, Nat.mul_comm 2, Nat.mul_assoc, Nat.mul_comm 2, Int.natCast_add]
theorem beg_nil (j : Nat) : beg [] j = 0 := by unfold beg; rw [show wr [] = 0 from rfl, Nat.zero_mul]; rfl
/-! ### the leaves without their stars -/
def canB (S : List (Int × Int)) : Nat → Int → List Nat → List (List Nat)
  | 0, a, bs => if ct S a (a + H2 0) = 0 then [] else [bs]
  | j + 1, a, bs => if ct S a (a + H2 (j + 1)) = 0 then [] else if ct S a (a + H2 (j + 1)) = H2 (j + 1) then [bs] else canB S j a (bs ++ [48]) ++ canB S j (a + H2 j) (bs ++ [49])
theorem canB_none {S : List (Int × Int)} {j : Nat} {a : Int} {bs : List Nat} (h : ct S a (a + H2 j) = 0) : canB S j a bs = [] := by
  cases j <;> (unfold canB; rw [if_pos h])
theorem canB_full {S : List (Int × Int)} {j : Nat} {a : Int} {bs : List Nat} (h : ct S a (a + H2 j) = H2 j) : canB S j a bs = [bs] := by
  have := H2_pos j
  cases j with
  | zero => unfold canB; rw [if_neg (by omega)]
  | succ j => unfold canB; rw [if_neg (by omega), if_pos h]
theorem canB_part {S : List (Int × Int)} {j : Nat} {a : Int} {bs : List Nat} (h1 : ct S a (a + H2 (j + 1)) ≠ 0) (h2 : ct S a (a + H2 (j + 1)) ≠ H2 (j + 1)) : canB S (j + 1) a bs = canB S j a (bs ++ [48]) ++ canB S j (a + H2 j) (bs ++ [49]) := by
  conv => lhs; unfold canB
  rw [if_neg h1, if_neg h2]
/-- which of the three -/
theorem can_cases {S : List (Int × Int)} (h : Rise S) {P : Nat → Int → List Nat → Prop} (j : Nat) (a : Int) (bs : List Nat)
    (h0 : ∀ j a bs, ct S a (a + H2 j) = 0 → P j a bs) (h1 : ∀ j a bs, ct S a (a + H2 j) = H2 j → P j a bs)
    (h2 : ∀ j a bs, ct S a (a + H2 (j + 1)) ≠ 0 → ct S a (a + H2 (j + 1)) ≠ H2 (j + 1) → P j a (bs ++ [48]) → P j (a + H2 j) (bs ++ [49]) → P (j + 1) a bs) : P j a bs := by
  induction j generalizing a bs with
  | zero =>
    by_cases e : ct S a (a + H2 0) = 0
    · exact h0 _ _ _ e
    · have l := ct_le h (a := a) (e := a + H2 0) (by rw [H2_zero]; omega)
      have n := ct_nn S a (a + H2 0)
      exact h1 _ _ _ (by have := H2_zero; omega)
  | succ j ih =>
    by_cases e : ct S a (a + H2 (j + 1)) = 0
    · exact h0 _ _ _ e
    · by_cases e2 : ct S a (a + H2 (j + 1)) = H2 (j + 1)
      · exact h1 _ _ _ e2
      · exact h2 _ _ _ e e2 (ih _ _) (ih _ _)
theorem patL_leaf {w j : Nat} {bs : List Nat} (h : bs.length + j = w) : patL w bs = leaf j bs := by
  unfold patL leaf
  by_cases e : j = 0
  · rw [if_neg (by omega), if_pos e, List.append_nil]
  · rw [if_pos (by omega), if_neg e]
theorem can_canB {S : List (Int × Int)} (h : Rise S) {w : Nat} (j : Nat) (a : Int) (bs : List Nat) : bs.length + j = w → can S j a bs = (canB S j a bs).map (patL w) :=
  can_cases h (P := fun j a bs => bs.length + j = w → can S j a bs = (canB S j a bs).map (patL w)) j a bs
    (fun j a bs e _ => by rw [can_none e, canB_none e]; rfl)
    (fun j a bs e hl => by rw [can_full e, canB_full e, List.map_cons, patL_leaf hl]; rfl)
    (fun j a bs e1 e2 i1 i2 hl => by
      rw [can_part e1 e2, canB_part e1 e2, List.map_append, i1 (by rw [List.length_append]; show _ + 1 + _ = _; omega), i2 (by rw [List.length_append]; show _ + 1 + _ = _; omega)])
theorem canB_pre {S : List (Int × Int)} (h : Rise S) (j : Nat) (a : Int) (bs : List Nat) : ∀ x ∈ canB S j a bs, ∃ u, x = bs ++ u ∧ u.length ≤ j ∧ Bits u ∧ (u = [] → ct S a (a + H2 j) = H2 j) :=
  can_cases h (P := fun j a bs => ∀ x ∈ canB S j a bs, ∃ u, x = bs ++ u ∧ u.length ≤ j ∧ Bits u ∧ (u = [] → ct S a (a + H2 j) = H2 j)) j a bs
    (fun j a bs e x hx => by rw [canB_none e] at hx; exact (List.not_mem_nil hx).elim)
    (fun j a bs e x hx => by
      rw [canB_full e] at hx
      rw [List.mem_singleton.mp hx]
      exact ⟨[], (List.append_nil _).symm, Nat.zero_le _, Bits.nil, fun _ => e⟩)
    (fun j a bs e1 e2 i1 i2 x hx => by
      rw [canB_part e1 e2] at hx
      rcases List.mem_append.mp hx with hx | hx
      · obtain ⟨u, rfl, hl, hb, _⟩ := i1 x hx
        exact ⟨48 :: u, by simp, Nat.succ_le_succ hl, (Bits.one (by decide)).app hb, fun z => nomatch z⟩
      · obtain ⟨u, rfl, hl, hb, _⟩ := i2 x hx
        exact ⟨49 :: u, by simp, Nat.succ_le_succ hl, (Bits.one (by decide)).app hb, fun z => nomatch z⟩)
/-- not the two halves of one -/
def NoSib (x y : List Nat) : Prop := ¬ (x.length = y.length ∧ x.dropLast = y.dropLast)
theorem canB_sib {S : List (Int × Int)} (h : Rise S) (j : Nat) (a : Int) (bs : List Nat) : (canB S j a bs).Pairwise NoSib :=
  can_cases h (P := fun j a bs => (canB S j a bs).Pairwise NoSib) j a bs
    (fun j a bs e => by rw [canB_none e]; exact List.Pairwise.nil)
    (fun j a bs e => by rw [canB_full e]; exact List.pairwise_singleton _ _)
    (fun j a bs e1 e2 i1 i2 => by
      rw [canB_part e1 e2]
      refine List.pairwise_append.mpr ⟨i1, i2, fun x hx y hy => ?_⟩
      obtain ⟨u, rfl, hl, _, hu⟩ := canB_pre h _ _ _ x hx
      obtain ⟨v, rfl, hl2, _, hv⟩ := canB_pre h _ _ _ y hy
      rintro ⟨z1, z2⟩
      have hlen : u.length = v.length := by simp at z1; exact z1
      cases u with
      | nil =>
        cases v with
        | nil =>
          have a1 := hu rfl
          have a2 := hv rfl
          have hj := H2_pos j
          have hs := H2_succ j
          have hc := ct_cut h (a := a) (m := a + H2 j) (e := a + H2 (j + 1)) (by omega) (by omega)
          rw [show a + H2 j + H2 j = a + H2 (j + 1) by omega] at a2
          omega
        | cons _ _ => simp at hlen
      | cons c u =>
        cases v with
        | nil => simp at hlen
        | cons d v =>
          rw [List.append_assoc, List.append_assoc, List.dropLast_append_of_ne_nil (by simp), List.dropLast_append_of_ne_nil (by simp), List.dropLast_append_of_ne_nil (by simp)] at z2
          have := List.append_cancel_left z2
          simp at this)
/-! ### the spans of leaves -/
def spB (w : Nat) (x : List Nat) : Int × Int := (beg x (w - x.length), beg x (w - x.length) + H2 (w - x.length))
theorem spB_at {w j : Nat} {bs : List Nat} (h : bs.length + j = w) : spB w bs = (beg bs j, beg bs j + H2 j) := by
  unfold spB
  rw [show w - bs.length = j by omega]
theorem ct_sub {S : List (Int × Int)} (h : Rise S) {a e x y : Int} (h1 : a ≤ x) (h2 : x ≤ y) (h3 : y ≤ e) : ct S a e = ct S a x + ct S x y + ct S y e := by
  rw [ct_cut h (a := a) (m := x) (e := e) h1 (by omega), ct_cut h (a := x) (m := y) (e := e) h2 h3]
  omega
theorem ct_rev {S : List (Int × Int)} {x y : Int} (h : y ≤ x) : ct S x y = 0 := ct_zero.mpr fun s _ => by unfold cn1; omega
theorem ct_canB {S : List (Int × Int)} (h : Rise S) {w : Nat} (j : Nat) (a : Int) (bs : List Nat) : bs.length + j = w → a = beg bs j → ∀ f b, ct ((canB S j a bs).map (spB w)) f b = ct S (max f a) (min b (a + H2 j)) :=
  can_cases h (P := fun j a bs => bs.length + j = w → a = beg bs j → ∀ f b, ct ((canB S j a bs).map (spB w)) f b = ct S (max f a) (min b (a + H2 j))) j a bs
    (fun j a bs e _ _ f b => by
      have hj := H2_pos j
      rw [canB_none e, List.map_nil, ct_nil]
      by_cases hh : max f a ≤ min b (a + H2 j)
      · have := ct_sub h (a := a) (e := a + H2 j) (x := max f a) (y := min b (a + H2 j)) (by omega) hh (by omega)
        have n1 := ct_nn S a (max f a)
        have n2 := ct_nn S (max f a) (min b (a + H2 j))
        have n3 := ct_nn S (min b (a + H2 j)) (a + H2 j)
        omega
      · rw [ct_rev (by omega)])
    (fun j a bs e hl ha f b => by
      have hj := H2_pos j
      rw [canB_full e, List.map_cons, List.map_nil, ct_one, spB_at hl, ← ha]
      unfold cn1
      show max 0 (min b (a + H2 j) - max f a) = _
      by_cases hh : max f a ≤ min b (a + H2 j)
      · have := ct_sub h (a := a) (e := a + H2 j) (x := max f a) (y := min b (a + H2 j)) (by omega) hh (by omega)
        have n1 := ct_le h (a := a) (e := max f a) (by omega)
        have n2 := ct_le h (a := max f a) (e := min b (a + H2 j)) hh
        have n3 := ct_le h (a := min b (a + H2 j)) (e := a + H2 j) (by omega)
        omega
      · rw [ct_rev (by omega)]; omega)
    (fun j a bs e1 e2 i1 i2 hl ha f b => by
      have hj := H2_pos j
      have hs := H2_succ j
      rw [canB_part e1 e2, List.map_append, ct_app, i1 (by rw [List.length_append]; show _ + 1 + _ = _; omega) (by rw [beg0]; exact ha), i2 (by rw [List.length_append]; show _ + 1 + _ = _; omega) (by rw [beg1, ha])]
      rw [show a + H2 j + H2 j = a + H2 (j + 1) by omega]
      by_cases k1 : max f a ≤ min b (a + H2 (j + 1))
      · by_cases k2 : max f a ≤ a + H2 j
        · by_cases k3 : a + H2 j ≤ min b (a + H2 (j + 1))
          · rw [ct_cut h (a := max f a) (m := a + H2 j) (e := min b (a + H2 (j + 1))) k2 k3, show min b (a + H2 j) = a + H2 j by omega, show max f (a + H2 j) = a + H2 j by omega]
          · rw [ct_rev (x := max f (a + H2 j)) (by omega), show min b (a + H2 j) = min b (a + H2 (j + 1)) by omega]
            omega
        · rw [ct_rev (x := max f a) (y := min b (a + H2 j)) (by omega), show max f (a + H2 j) = max f a by omega]
          omega
      · rw [ct_rev (x := max f a) (y := min b (a + H2 j)) (by omega), ct_rev (x := max f (a + H2 j)) (by omega), ct_rev (by omega)]
        omega)
theorem spB_in {S : List (Int × Int)} (h : Rise S) {w : Nat} (j : Nat) (a : Int) (bs : List Nat) : bs.length + j = w → a = beg bs j → ∀ s ∈ (canB S j a bs).map (spB w), a ≤ s.1 ∧ s.1 < s.2 ∧ s.2 ≤ a + H2 j :=
  can_cases h (P := fun j a bs => bs.length + j = w → a = beg bs j → ∀ s ∈ (canB S j a bs).map (spB w), a ≤ s.1 ∧ s.1 < s.2 ∧ s.2 ≤ a + H2 j) j a bs
    (fun j a bs e _ _ s hs => by rw [canB_none e] at hs; exact (List.not_mem_nil hs).elim)
    (fun j a bs e hl ha s hs => by
      have hj := H2_pos j
      rw [canB_full e, List.map_cons, List.map_nil] at hs
      rw [List.mem_singleton.mp hs, spB_at hl, ← ha]
      exact ⟨Int.le_refl _, by show a < a + H2 j; omega, Int.le_refl _⟩)
    (fun j a bs e1 e2 i1 i2 hl ha s hs => by
      have hj := H2_pos j
      have hs2 := H2_succ j
      rw [canB_part e1 e2, List.map_append] at hs
      rcases List.mem_append.mp hs with hs | hs
      · have := i1 (by rw [List.length_append]; show _ + 1 + _ = _; omega) (by rw [beg0]; exact ha) s hs
        omega
      · have := i2 (by rw [List.length_append]; show _ + 1 + _ = _; omega) (by rw [beg1, ha]) s hs
        omega)
theorem spB_rise {S : List (Int × Int)} (h : Rise S) {w : Nat} (j : Nat) (a : Int) (bs : List Nat) : bs.length + j = w → a = beg bs j → Rise ((canB S j a bs).map (spB w)) := fun hl ha =>
  ⟨fun s hs => (spB_in h j a bs hl ha s hs).2.1, can_cases h (P := fun j a bs => bs.length + j = w → a = beg bs j → ((canB S j a bs).map (spB w)).Pairwise fun s t => s.2 ≤ t.1) j a bs
    (fun j a bs e _ _ => by rw [canB_none e]; exact List.Pairwise.nil)
    (fun j a bs e _ _ => by rw [canB_full e]; exact List.pairwise_singleton _ _)
    (fun j a bs e1 e2 i1 i2 hl ha => by
      rw [canB_part e1 e2, List.map_append]
      have l1 : (bs ++ [48]).length + j = w := by rw [List.length_append]; show _ + 1 + _ = _; omega
      have l2 : (bs ++ [49]).length + j = w := by rw [List.length_append]; show _ + 1 + _ = _; omega
      have b1 : a = beg (bs ++ [48]) j := by rw [beg0]; exact ha
      have b2 : a + H2 j = beg (bs ++ [49]) j := by rw [beg1, ha]
      refine List.pairwise_append.mpr ⟨i1 l1 b1, i2 l2 b2, fun s hs t ht => ?_⟩
      have := spB_in h j a _ l1 b1 s hs
      have := spB_in h j _ _ l2 b2 t ht
      omega) hl ha⟩
/-! ### the leaves of both -/
def canM (S : List (Int × Int)) : Nat → Int → List Nat → List (List Nat)
  | 0, _, bs => [bs]
  | j + 1, a, bs => if ct S a (a + H2 (j + 1)) = 0 ∨ ct S a (a + H2 (j + 1)) = H2 (j + 1) then [bs] else canM S j a (bs ++ [48]) ++ canM S j (a + H2 j) (bs ++ [49])
theorem canM_one {S : List (Int × Int)} {j : Nat} {a : Int} {bs : List Nat} (h : ct S a (a + H2 j) = 0 ∨ ct S a (a + H2 j) = H2 j) : canM S j a bs = [bs] := by
  cases j with
  | zero => rfl
  | succ j => unfold canM; rw [if_pos h]
theorem canM_part {S : List (Int × Int)} {j : Nat} {a : Int} {bs : List Nat} (h1 : ct S a (a + H2 (j + 1)) ≠ 0) (h2 : ct S a (a + H2 (j + 1)) ≠ H2 (j + 1)) : canM S (j + 1) a bs = canM S j a (bs ++ [48]) ++ canM S j (a + H2 j) (bs ++ [49]) := by
  conv => lhs; unfold canM
  rw [if_neg (by rintro (h | h); exact h1 h; exact h2 h)]
theorem canM_perm {S R : List (Int × Int)} (h : Rise S) (j : Nat) (a : Int) (bs : List Nat) : (∀ x y, a ≤ x → x ≤ y → y ≤ a + H2 j → ct S x y + ct R x y = y - x) → (canM S j a bs).Perm (canB S j a bs ++ canB R j a bs) :=
  can_cases h (P := fun j a bs => (∀ x y, a ≤ x → x ≤ y → y ≤ a + H2 j → ct S x y + ct R x y = y - x) → (canM S j a bs).Perm (canB S j a bs ++ canB R j a bs)) j a bs
    (fun j a bs e hc => by
      have hj := H2_pos j
      have := hc a (a + H2 j) (Int.le_refl _) (by omega) (Int.le_refl _)
      rw [canM_one (.inl e), canB_none e, canB_full (by omega : ct R a (a + H2 j) = H2 j)]
      exact List.Perm.refl _)
    (fun j a bs e hc => by
      have hj := H2_pos j
      have := hc a (a + H2 j) (Int.le_refl _) (by omega) (Int.le_refl _)
      rw [canM_one (.inr e), canB_full e, canB_none (by omega : ct R a (a + H2 j) = 0)]
      exact List.Perm.refl _)
    (fun j a bs e1 e2 i1 i2 hc => by
      have hj := H2_pos j
      have hs := H2_succ j
      have := hc a (a + H2 (j + 1)) (Int.le_refl _) (by omega) (Int.le_refl _)
      rw [canM_part e1 e2, canB_part e1 e2, canB_part (by omega : ct R a (a + H2 (j + 1)) ≠ 0) (by omega)]
      refine ((i1 fun x y h1 h2 h3 => hc x y h1 h2 (by omega)).append (i2 fun x y h1 h2 h3 => hc x y (by omega) h2 (by omega))).trans ?_
      rw [List.append_assoc, List.append_assoc]
      refine List.Perm.append_left _ ?_
      rw [← List.append_assoc, ← List.append_assoc]
      exact List.Perm.append_right _ List.perm_append_comm)
/-- the one has a 0 where the other has a 1, all alike ahead of it -/
def Apart (x y : List Nat) : Prop := ∃ c u v, x = c ++ 48 :: u ∧ y = c ++ 49 :: v
theorem canM_pre {S : List (Int × Int)} (h : Rise S) (j : Nat) (a : Int) (bs : List Nat) : ∀ x ∈ canM S j a bs, ∃ u, x = bs ++ u ∧ u.length ≤ j ∧ Bits u :=
  can_cases h (P := fun j a bs => ∀ x ∈ canM S j a bs, ∃ u, x = bs ++ u ∧ u.length ≤ j ∧ Bits u) j a bs
    (fun j a bs e x hx => by
      rw [canM_one (.inl e)] at hx
      exact ⟨[], by rw [List.mem_singleton.mp hx, List.append_nil], Nat.zero_le _, Bits.nil⟩)
    (fun j a bs e x hx => by
      rw [canM_one (.inr e)] at hx
      exact ⟨[], by rw [List.mem_singleton.mp hx, List.append_nil], Nat.zero_le _, Bits.nil⟩)
    (fun j a bs e1 e2 i1 i2 x hx => by
      rw [canM_part e1 e2] at hx
      rcases List.mem_append.mp hx with hx | hx
      · obtain ⟨u, rfl, hl, hb⟩ := i1 x hx
        exact ⟨48 :: u, by simp, Nat.succ_le_succ hl, (Bits.one (by decide)).app hb⟩
      · obtain ⟨u, rfl, hl, hb⟩ := i2 x hx
        exact ⟨49 :: u, by simp, Nat.succ_le_succ hl, (Bits.one (by decide)).app hb⟩)
theorem canM_apart {S : List (Int × Int)} (h : Rise S) (j : Nat) (a : Int) (bs : List Nat) : (canM S j a bs).Pairwise Apart :=
  can_cases h (P := fun j a bs => (canM S j a bs).Pairwise Apart) j a bs
    (fun j a bs e => by rw [canM_one (.inl e)]; exact List.pairwise_singleton _ _)
    (fun j a bs e => by rw [canM_one (.inr e)]; exact List.pairwise_singleton _ _)
    (fun j a bs e1 e2 i1 i2 => by
      rw [canM_part e1 e2]
      refine List.pairwise_append.mpr ⟨i1, i2, fun x hx y hy => ?_⟩
      obtain ⟨u, rfl, _⟩ := canM_pre h _ _ _ x hx
      obtain ⟨v, rfl, _⟩ := canM_pre h _ _ _ y hy
      exact ⟨bs, u, v, by simp, by simp⟩)
/-! ### spans one behind the other -/
def Tile : Int → List (Int × Int) → Int → Prop
  | a, [], e => a = e
  | a, s :: T, e => s.1 = a ∧ s.1 < s.2 ∧ Tile s.2 T e
theorem Tile.app : ∀ {T U : List (Int × Int)} {a m e : Int}, Tile a T m → Tile m U e → Tile a (T ++ U) e
  | [], _, _, _, _, h, k => by cases (show _ = _ from h); exact k
  | _ :: _, _, _, _, _, ⟨h1, h2, h3⟩, k => ⟨h1, h2, Tile.app h3 k⟩
theorem Tile.le : ∀ {T : List (Int × Int)} {a e : Int}, Tile a T e → a ≤ e
  | [], _, _, h => Int.le_of_eq h
  | _ :: _, _, _, ⟨h1, h2, h3⟩ => by have := h3.le; omega
theorem Tile.mem : ∀ {T : List (Int × Int)} {a e : Int}, Tile a T e → ∀ s ∈ T, a ≤ s.1 ∧ s.1 < s.2 ∧ s.2 ≤ e
  | s :: T, a, e, ⟨h1, h2, h3⟩, t, ht => by
    rcases List.mem_cons.mp ht with rfl | ht
    · exact ⟨by omega, h2, h3.le⟩
    · have := h3.mem t ht
      omega
theorem Tile.rise : ∀ {T : List (Int × Int)} {a e : Int}, Tile a T e → Rise T
  | [], _, _, _ => ⟨fun _ h => (List.not_mem_nil h).elim, List.Pairwise.nil⟩
  | s :: T, a, e, h@⟨h1, h2, h3⟩ => ⟨fun t ht => (h.mem t ht).2.1, List.pairwise_cons.mpr ⟨fun t ht => (h3.mem t ht).1, h3.rise.2⟩⟩
theorem Tile.ct : ∀ {T : List (Int × Int)} {a e : Int}, Tile a T e → ∀ x y, ct T x y = max 0 (min y e - max x a)
  | [], a, e, h, x, y => by cases (show _ = _ from h); rw [ct_nil]; omega
  | s :: T, a, e, ⟨h1, h2, h3⟩, x, y => by
    rw [ct_cons, h3.ct]
    have := h3.le
    unfold cn1
    omega
theorem Tile.sum : ∀ {T : List (Int × Int)} {a e : Int}, Tile a T e → (T.map fun s => s.2 - s.1).sum = e - a
  | [], a, e, h => by cases (show _ = _ from h); exact (Int.sub_self _).symm
  | s :: T, a, e, ⟨h1, h2, h3⟩ => by rw [List.map_cons, List.sum_cons, h3.sum]; omega
theorem canM_tile {S : List (Int × Int)} (h : Rise S) {w : Nat} (j : Nat) (a : Int) (bs : List Nat) : bs.length + j = w → a = beg bs j → Tile a ((canM S j a bs).map (spB w)) (a + H2 j) := by
  have one : ∀ (j : Nat) (a : Int) (bs : List Nat), bs.length + j = w → a = beg bs j → Tile a ([bs].map (spB w)) (a + H2 j) := fun j a bs hl ha => by
    rw [List.map_cons, spB_at hl, ← ha]
    exact ⟨rfl, by have := H2_pos j; show a < a + H2 j; omega, rfl⟩
  exact can_cases h (P := fun j a bs => bs.length + j = w → a = beg bs j → Tile a ((canM S j a bs).map (spB w)) (a + H2 j)) j a bs
    (fun j a bs e hl ha => by rw [canM_one (.inl e)]; exact one j a bs hl ha)
    (fun j a bs e hl ha => by rw [canM_one (.inr e)]; exact one j a bs hl ha)
    (fun j a bs e1 e2 i1 i2 hl ha => by
      have hs := H2_succ j
      rw [canM_part e1 e2, List.map_append]
      have k2 := i2 (by rw [List.length_append]; show _ + 1 + _ = _; omega) (by rw [beg1, ha])
      rw [show a + H2 j + H2 j = a + H2 (j + 1) by omega] at k2
      exact (i1 (by rw [List.length_append]; show _ + 1 + _ = _; omega) (by rw [beg0]; exact ha)).app k2)
end G
/-! Plain laws: what many laws' texts share. -/
namespace G
open PySem PySem.Spec PyProof.Rows L2 TL
def spanL (w : Nat) (bs : List Nat) : Nat × Nat := (wr bs * 2 ^ (w - bs.length), (wr bs + 1) * 2 ^ (w - bs.length))
theorem notF {α : Type} {a b : α} : (if (!false) = true then a else b) = a := rfl
theorem bin_wr {bs : List Nat} (h : Bits bs) : bin bs.length (wr bs) = bs :=
  wr_inj (bin_bits _ _) h (bin_len _ _) (by rw [wr_bin, Nat.mod_eq_of_lt (wr_lt bs)])
/-! ### the widest block from an address on -/
theorem shlI_w {w J : Nat} (h : J ≤ 60) : shlI (1 : Int) ((w : Int) - ((w : Int) - (J : Int))) = some (H2 J) := by
  rw [show (w : Int) - ((w : Int) - (J : Int)) = (J : Nat) by omega]
  exact shlI_one (by omega)
theorem mod_up {a : Int} {j k : Nat} (h : a % H2 k = 0) (hk : j ≤ k) : a % H2 j = 0 := by
  obtain ⟨d, rfl⟩ := Nat.exists_eq_add_of_le hk
  have : H2 (j + d) = H2 j * H2 d := by show ((2 ^ (j + d) : Nat) : Int) = _; rw [Nat.pow_add, Int.natCast_mul]
  rw [this] at h
  exact Int.emod_eq_zero_of_dvd (Int.dvd_trans (Int.dvd_mul_right _ _) (Int.dvd_of_emod_eq_zero h))
theorem H2_mono {j k : Nat} (h : j ≤ k) : H2 j ≤ H2 k := Int.ofNat_le.mpr (Nat.pow_le_pow_right (by decide) h)
theorem beg_mod (bs : List Nat) (j : Nat) : beg bs j % H2 j = 0 := by
  unfold beg
  rw [Int.natCast_mul]
  exact Int.mul_emod_left _ _
theorem appL_some {α : Type} {l : List α} {x : α} (h : l.length ≤ 1000000) : appL l x = some (l ++ [x]) := by unfold appL; rw [if_pos (by rw [sizeLine_eq]; omega)]
theorem setL_last {α : Type} (F : List α) (x y : α) : setL (F ++ [x]) (-1) y = some (F ++ [y]) := by
  unfold setL ixN
  rw [List.length_append]
  show Option.map _ (if (0 : Int) ≤ -1 then _ else if -((F.length + 1 : Nat) : Int) ≤ -1 then _ else none) = _
  rw [if_neg (by omega), if_pos (by omega)]
  show some ((F ++ [x]).set (-1 + ((F.length + 1 : Nat) : Int)).toNat y) = _
  rw [show (-1 + ((F.length + 1 : Nat) : Int)).toNat = F.length by omega, List.set_append_right _ _ (Nat.le_refl _), Nat.sub_self]
  rfl
theorem gaps_snoc {F : List (Int × Int)} {x : Int × Int} (h : Gaps F) (hx : x.1 < x.2) (hb : ∀ s ∈ F, s.2 < x.1) : Gaps (F ++ [x]) :=
  ⟨fun s hs => (List.mem_append.mp hs).elim (h.1 s) fun e => by rw [List.mem_singleton.mp e]; exact hx,
   List.pairwise_append.mpr ⟨h.2, List.pairwise_singleton _ _, fun s hs t ht => by rw [List.mem_singleton.mp ht]; exact hb s hs⟩⟩
/-! ### drawn stretches -/
theorem rangeL_succ (n : Int) (k : Nat) : rangeL n (k + 1) = n :: rangeL (n + 1) k := by
  unfold rangeL
  rw [List.range_succ_eq_map, List.map_cons, List.map_map]
  congr 1
  · omega
  · refine List.map_congr_left fun i _ => ?_
    show n + ((i + 1 : Nat) : Int) = n + 1 + (i : Nat)
    omega
theorem ins_len (k : Int) : ∀ l : List Int, (ins k l).length ≤ l.length + 1
  | [] => Nat.le_refl _
  | x :: l => by
    unfold ins
    split
    · exact Nat.le_refl _
    · split
      · exact Nat.le_succ _
      · exact Nat.succ_le_succ (ins_len k l)
theorem ssort_len : ∀ l : List Int, (ssort l).length ≤ l.length
  | [] => Nat.le_refl _
  | x :: l => Nat.le_trans (ins_len x (ssort l)) (Nat.succ_le_succ (ssort_len l))
theorem rangeL_add : ∀ (a : Nat) (n : Int) (c : Nat), rangeL n (a + c) = rangeL n a ++ rangeL (n + (a : Nat)) c
  | 0, n, c => by
    rw [Nat.zero_add, show n + ((0 : Nat) : Int) = n by omega]
    rfl
  | a + 1, n, c => by
    rw [show a + 1 + c = (a + c) + 1 by omega, rangeL_succ, rangeL_succ, rangeL_add a (n + 1) c, List.cons_append, show n + 1 + (a : Nat) = n + ((a + 1 : Nat) : Int) by omega]
theorem map_tl_inj : ∀ {xs ys : List Str}, xs.map tl = ys.map tl → xs = ys
  | [], [], _ => rfl
  | [], _ :: _, h => nomatch h
  | _ :: _, [], h => nomatch h
  | x :: xs, y :: ys, h => by
    obtain ⟨h1, h2⟩ := List.cons.inj h
    rw [tl_inj h1, map_tl_inj h2]
/-! ### spans of patterns, by their texts -/
def bsOf (x : Str) : List Nat := (tl x).takeWhile isB
theorem bsOf_pat {w : Nat} {bs : List Nat} {x : Str} (p : Pat w bs x) : bsOf x = bs := by
  unfold bsOf
  rw [p.eq, patL]
  have h : ∀ (l r : List Nat), Bits l → (∀ c, r.head? = some c → isB c = false) → (l ++ r).takeWhile isB = l := by
    intro l r hl hr
    induction l with
    | nil => exact tw0 r hr
    | cons c l ih =>
      show List.takeWhile isB (c :: (l ++ r)) = _
      rw [List.takeWhile_cons, if_pos (hl c (List.mem_cons_self ..)), ih fun d hd => hl d (List.mem_cons_of_mem _ hd)]
  refine h bs _ p.bits fun c hc => ?_
  split at hc
  · have : c = 42 := (Option.some.inj hc).symm
    subst this
    decide
  · cases hc
def spI (w : Nat) (x : Str) : Int × Int := (((spanL w (bsOf x)).1 : Int), ((spanL w (bsOf x)).2 : Int))
def IsPat (w : Nat) (x : Str) : Prop := ∃ bs, Pat w bs x
theorem spI_ok {w : Nat} {x : Str} (p : IsPat w x) : 0 ≤ (spI w x).1 ∧ (spI w x).1 < (spI w x).2 ∧ (spI w x).2 ≤ ((2 ^ w : Nat) : Int) := by
  obtain ⟨bs, p⟩ := p
  unfold spI
  rw [bsOf_pat p]
  have h1 := wr_lt bs
  have hle := p.le
  have h2 : 2 ^ bs.length * 2 ^ (w - bs.length) = 2 ^ w := by rw [← Nat.pow_add]; congr 1; omega
  have h3 : (wr bs + 1) * 2 ^ (w - bs.length) ≤ 2 ^ bs.length * 2 ^ (w - bs.length) := Nat.mul_le_mul_right _ h1
  have h4 : 0 < 2 ^ (w - bs.length) := Nat.two_pow_pos _
  refine ⟨Int.natCast_nonneg _, ?_, ?_⟩
  · show ((wr bs * 2 ^ (w - bs.length) : Nat) : Int) < (((wr bs + 1) * 2 ^ (w - bs.length) : Nat) : Int)
    rw [Nat.add_mul, Nat.one_mul]
    omega
  · show (((wr bs + 1) * 2 ^ (w - bs.length) : Nat) : Int) ≤ _
    omega
/-! ### edges -/
def flat2 (S : List (Int × Int)) : List Int := S.flatMap fun s => [s.1, s.2]
theorem mem_flat2 {S : List (Int × Int)} {k : Int} : k ∈ flat2 S ↔ ∃ s ∈ S, k = s.1 ∨ k = s.2 := by
  unfold flat2
  simp [List.mem_flatMap]
theorem flat2_len (S : List (Int × Int)) : (flat2 S).length = 2 * S.length := by
  induction S with
  | nil => rfl
  | cons s S ih =>
    show ([s.1, s.2] ++ flat2 S).length = _
    rw [List.length_append, ih]
    show 2 + 2 * S.length = 2 * (S.length + 1)
    omega
/-- neighbours -/
def prsL : List Int → List (Int × Int)
  | x :: y :: r => (x, y) :: prsL (y :: r)
  | _ => []
theorem zip_prs : ∀ l : List Int, List.zip l (l.drop 1) = prsL l
  | [] => rfl
  | [_] => rfl
  | x :: y :: r => by
    show (x, y) :: List.zip (y :: r) r = _
    have := zip_prs (y :: r)
    exact congrArg _ this
def edgesOf (w : Nat) (S : List (Int × Int)) : List Int := ssort ([0, ((2 ^ w : Nat) : Int)] ++ flat2 S)
/-! ### what stands in which -/
def hereL (S : List (Int × Int)) (f b : Int) : List Bool := S.map fun s => (decide (s.1 ≤ f)) && (decide (b ≤ s.2))
def apartL (S : List (Int × Int)) (f b : Int) : List Bool := S.map fun s => (decide (b ≤ s.1)) || (decide (s.2 ≤ f))
/-- no edge lies between -/
def Gap (S : List (Int × Int)) (f b : Int) : Prop := f < b ∧ ∀ s ∈ S, s.1 < s.2 ∧ (s.1 ≤ f ∨ b ≤ s.1) ∧ (s.2 ≤ f ∨ b ≤ s.2)
/-- at an edge what stands changes -/
theorem here_ne {S : List (Int × Int)} {p e b : Int} (g1 : Gap S p e) (g2 : Gap S e b) (he : ∃ s ∈ S, e = s.1 ∨ e = s.2) : hereL S e b ≠ hereL S p e := by
  obtain ⟨s, hs, h⟩ := he
  intro z
  have := List.map_eq_map_iff.mp z s hs
  rw [Bool.eq_iff_iff, Bool.and_eq_true, Bool.and_eq_true, decide_eq_true_iff, decide_eq_true_iff, decide_eq_true_iff, decide_eq_true_iff] at this
  obtain ⟨f1, k1⟩ := g1
  obtain ⟨f2, k2⟩ := g2
  obtain ⟨a1, a2, a3⟩ := k1 s hs
  obtain ⟨b1, b2, b3⟩ := k2 s hs
  omega
def El (S : List (Int × Int)) (e : Int) (o : Option (List Bool)) : Prop := o = none ∨ ∃ p, Gap S p e ∧ o = some (hereL S p e) ∧ ∃ s ∈ S, e = s.1 ∨ e = s.2
theorem El.ne {S : List (Int × Int)} {e b : Int} {o : Option (List Bool)} (h : El S e o) (g : Gap S e b) : some (hereL S e b) ≠ o := by
  rcases h with rfl | ⟨p, g1, rfl, hs⟩
  · exact fun z => nomatch z
  · exact fun z => here_ne g1 g hs (Option.some.inj z)
theorem rangeO_len {n : Nat} (h : n ≤ 16777216) : rangeO1 (n : Int) = some (rangeL 0 n) := by
  unfold rangeO1
  rw [if_pos ⟨by omega, by rw [sizeLine_eq]; omega⟩, Int.toNat_natCast]
theorem mem_rangeL {n : Nat} {k : Int} (h : k ∈ rangeL 0 n) : 0 ≤ k ∧ k < (n : Nat) := by
  unfold rangeL at h
  obtain ⟨i, hi, rfl⟩ := List.mem_map.mp h
  have := List.mem_range.mp hi
  omega
/-! ### the edges of a row of spans -/
structure SpOk (w : Nat) (S : List (Int × Int)) : Prop where
  ok : ∀ s ∈ S, 0 ≤ s.1 ∧ s.1 < s.2 ∧ s.2 ≤ ((2 ^ w : Nat) : Int)
theorem prs_adj : ∀ {l : List Int} {f b : Int}, l.Pairwise (· < ·) → (f, b) ∈ prsL l → f < b ∧ ∀ x ∈ l, x ≤ f ∨ b ≤ x
  | [], _, _, _, h => nomatch h
  | [_], _, _, _, h => nomatch h
  | x :: y :: r, f, b, hp, h => by
    obtain ⟨h1, h2⟩ := List.pairwise_cons.mp hp
    rcases List.mem_cons.mp (show (f, b) ∈ (x, y) :: prsL (y :: r) from h) with e | h
    · have e1 : f = x := congrArg Prod.fst e
      have e2 : b = y := congrArg Prod.snd e
      subst e1 e2
      refine ⟨h1 b (List.mem_cons_self ..), fun z hz => ?_⟩
      rcases List.mem_cons.mp hz with rfl | hz
      · exact .inl (Int.le_refl _)
      · rcases List.mem_cons.mp hz with rfl | hz
        · exact .inr (Int.le_refl _)
        · have := (List.pairwise_cons.mp h2).1 z hz
          exact .inr (by omega)
    · obtain ⟨k1, k2⟩ := prs_adj h2 h
      have hf : f ∈ y :: r := prs_mem h
      have hxf := h1 f hf
      refine ⟨k1, fun z hz => ?_⟩
      rcases List.mem_cons.mp hz with rfl | hz
      · exact .inl (by omega)
      · exact k2 z hz
where
  prs_mem : ∀ {l : List Int} {f b : Int}, (f, b) ∈ prsL l → f ∈ l
    | [], _, _, h => nomatch h
    | [_], _, _, h => nomatch h
    | x :: y :: r, f, b, h => by
      rcases List.mem_cons.mp (show (f, b) ∈ (x, y) :: prsL (y :: r) from h) with e | h
      · have e1 : f = x := congrArg Prod.fst e
        subst e1
        exact List.mem_cons_self ..
      · exact List.mem_cons_of_mem _ (prs_mem h)
theorem edges_facts {w : Nat} {S : List (Int × Int)} (h : SpOk w S) : ∃ l, edgesOf w S = 0 :: l ∧ (∀ q ∈ prsL (0 :: l), Gap S q.1 q.2) ∧ (∀ k ∈ l.dropLast, ∃ s ∈ S, k = s.1 ∨ k = s.2) ∧ (0 :: l).getLast? = some ((2 ^ w : Nat) : Int) ∧ l ≠ [] := by
  have hs := ssort_sorted ([0, ((2 ^ w : Nat) : Int)] ++ flat2 S)
  have hm : ∀ k, k ∈ edgesOf w S ↔ k = 0 ∨ k = ((2 ^ w : Nat) : Int) ∨ ∃ s ∈ S, k = s.1 ∨ k = s.2 := fun k => by
    unfold edgesOf
    rw [ssort_mem, List.mem_append, mem_flat2]
    simp only [List.mem_cons, List.not_mem_nil, or_false, or_assoc]
  have hW : (0 : Int) < ((2 ^ w : Nat) : Int) := by have := Nat.two_pow_pos w; omega
  have hlo : ∀ k ∈ edgesOf w S, 0 ≤ k ∧ k ≤ ((2 ^ w : Nat) : Int) := fun k hk => by
    rcases (hm k).mp hk with rfl | rfl | ⟨s, hs, rfl | rfl⟩
    · omega
    · omega
    · have := h.ok s hs; omega
    · have := h.ok s hs; omega
  change (edgesOf w S).Pairwise (· < ·) at hs
  have h0 := (hm 0).mpr (.inl rfl)
  have hWm := (hm ((2 ^ w : Nat) : Int)).mpr (.inr (.inl rfl))
  generalize edgesOf w S = E at hs hm hlo h0 hWm
  cases E with
  | nil => cases h0
  | cons x l =>
    obtain ⟨s1, s2⟩ := List.pairwise_cons.mp hs
    have ex : x = 0 := by
      rcases List.mem_cons.mp h0 with e | e
      · exact e.symm
      · have := s1 0 e
        have := hlo x (List.mem_cons_self ..)
        omega
    subst ex
    have hne : l ≠ [] := fun e => by
      subst e
      have := List.mem_singleton.mp hWm
      omega
    have hlast : (0 :: l).getLast? = some ((2 ^ w : Nat) : Int) := by
      obtain ⟨m, z, rfl⟩ : ∃ m z, l = m ++ [z] := ⟨l.dropLast, l.getLast hne, (List.dropLast_concat_getLast hne).symm⟩
      have hz : z = ((2 ^ w : Nat) : Int) := by
        rcases List.mem_cons.mp hWm with e | e
        · omega
        · rcases List.mem_append.mp e with e | e
          · have h3 := (List.pairwise_append.mp s2).2.2 _ e z (List.mem_singleton.mpr rfl)
            have := hlo z (List.mem_cons_of_mem _ (List.mem_append.mpr (.inr (List.mem_singleton.mpr rfl))))
            omega
          · exact (List.mem_singleton.mp e).symm
      subst hz
      rw [← List.cons_append]
      exact List.getLast?_concat
    refine ⟨l, rfl, fun q hq => ?_, fun k hk => ?_, hlast, hne⟩
    · obtain ⟨k1, k2⟩ := prs_adj hs hq
      exact ⟨k1, fun s hs2 => ⟨(h.ok s hs2).2.1, k2 s.1 ((hm s.1).mpr (.inr (.inr ⟨s, hs2, .inl rfl⟩))), k2 s.2 ((hm s.2).mpr (.inr (.inr ⟨s, hs2, .inr rfl⟩)))⟩⟩
    · rcases (hm k).mp (List.mem_cons_of_mem _ (List.dropLast_subset _ hk)) with rfl | rfl | e
      · have := s1 0 (List.dropLast_subset _ hk); omega
      · exfalso
        obtain ⟨m, z, rfl⟩ : ∃ m z, l = m ++ [z] := ⟨l.dropLast, l.getLast hne, (List.dropLast_concat_getLast hne).symm⟩
        rw [List.dropLast_concat] at hk
        have h3 := (List.pairwise_append.mp s2).2.2 _ hk z (List.mem_singleton.mpr rfl)
        have := hlo z (List.mem_cons_of_mem _ (List.mem_append.mpr (.inr (List.mem_singleton.mpr rfl))))
        omega
      · exact e
theorem spOk {w : Nat} {ps : List Str} (h : ∀ p ∈ ps, IsPat w p) : SpOk w (ps.map (spI w)) := ⟨fun s hs => by
  obtain ⟨p, hp, rfl⟩ := List.mem_map.mp hs
  exact spI_ok (h p hp)⟩
theorem prs_len : ∀ l : List Int, (prsL l).length ≤ l.length
  | [] => Nat.le_refl _
  | [_] => Nat.zero_le _
  | x :: y :: r => by
    show (prsL (y :: r)).length + 1 ≤ (y :: r).length + 1
    exact Nat.succ_le_succ (prs_len (y :: r))
end G
/-! Plain laws: patterns written out of signs; sorted texts; tiles and parts. -/
namespace G
open PySem PySem.Spec PyProof.Rows L2 TL
theorem conL_some {α : Type} {a b : List α} (h : a.length + b.length ≤ 1000000) : conL a b = some (a ++ b) := by unfold conL; rw [if_pos (by rw [sizeLine_eq]; omega)]
section
variable {α β γ R T : Type} {g : R → Option T}
theorem bL0_go {f : Option T} : bindL0 (some (.go ())) f g = f := rfl
theorem bL1_go {f : α → Option T} {a : α} : bindL1 (some (.go a)) f g = f a := rfl
theorem bL2_go {f : α → β → Option T} {a : α} {b : β} : bindL2 (some (.go (a, b))) f g = f a b := rfl
theorem bL3_go {f : α → β → γ → Option T} {a : α} {b : β} {c : γ} : bindL3 (some (.go (a, b, c))) f g = f a b c := rfl
end
theorem shlI_H {k : Nat} (h : k ≤ 1000000) : shlI 1 (k : Int) = some (H2 k) := shlI_one h
theorem rangeO_1 {n : Nat} (h : n ≤ 1000000) : rangeO (1 : Int) ((n : Nat) : Int) = some (rangeL 1 (n - 1)) := by
  unfold rangeO
  rw [if_pos ⟨by omega, by rw [sizeLine_eq]; omega⟩, show (((n : Nat) : Int) - 1).toNat = n - 1 by omega]
theorem mem_range1 {n : Nat} {k : Int} (h : k ∈ rangeL 1 (n - 1)) : ∃ i : Nat, k = ((i + 1 : Nat) : Int) ∧ i + 1 < n := by
  unfold rangeL at h
  obtain ⟨i, hi, rfl⟩ := List.mem_map.mp h
  have := List.mem_range.mp hi
  exact ⟨i, by omega, by omega⟩
/-- texts that write the patterns of some signs -/
structure Pats (w : Nat) (us : List (List Nat)) (ys : List Str) : Prop where
  eq : ys.map tl = us.map (patL w)
  ok : ∀ u ∈ us, Bits u ∧ u.length ≤ w
theorem Pats.app {w : Nat} {us vs : List (List Nat)} {ys zs : List Str} (h : Pats w us ys) (k : Pats w vs zs) : Pats w (us ++ vs) (ys ++ zs) :=
  ⟨by rw [List.map_append, List.map_append, h.eq, k.eq], fun u hu => (List.mem_append.mp hu).elim (h.ok u) (k.ok u)⟩
theorem Pats.len {w : Nat} {us : List (List Nat)} {ys : List Str} (h : Pats w us ys) : ys.length = us.length := by
  have := congrArg List.length h.eq
  rwa [List.length_map, List.length_map] at this
theorem Pats.tail {w : Nat} {u : List Nat} {us : List (List Nat)} {y : Str} {ys : List Str} (h : Pats w (u :: us) (y :: ys)) : Pat w u y ∧ Pats w us ys := by
  have e := h.eq
  rw [List.map_cons, List.map_cons] at e
  obtain ⟨e1, e2⟩ := List.cons.inj e
  have := h.ok u (List.mem_cons_self ..)
  exact ⟨⟨this.1, this.2, e1⟩, e2, fun v hv => h.ok v (List.mem_cons_of_mem _ hv)⟩
theorem Pats.rec_ {w : Nat} {P : List (List Nat) → List Str → Prop} (h0 : P [] []) (h1 : ∀ u us y ys, Pat w u y → Pats w us ys → P us ys → P (u :: us) (y :: ys)) : ∀ {us ys}, Pats w us ys → P us ys
  | [], [], _ => h0
  | [], _ :: _, h => nomatch h.len
  | _ :: _, [], h => nomatch h.len
  | u :: us, y :: ys, h => h1 u us y ys h.tail.1 h.tail.2 (Pats.rec_ h0 h1 h.tail.2)
theorem Pats.each {w : Nat} {us : List (List Nat)} {ys : List Str} (h : Pats w us ys) : ∀ y ∈ ys, IsPat w y :=
  Pats.rec_ (P := fun us ys => ∀ y ∈ ys, IsPat w y) (fun _ h => nomatch h) (fun u us y ys p _ ih z hz => by
    rcases List.mem_cons.mp hz with rfl | hz
    · exact ⟨u, p⟩
    · exact ih z hz) h
theorem spI_spB {w : Nat} {u : List Nat} {y : Str} (p : Pat w u y) : spI w y = spB w u := by
  unfold spI spB spanL
  rw [bsOf_pat p]
  refine Prod.ext rfl ?_
  show (((wr u + 1) * 2 ^ (w - u.length) : Nat) : Int) = ((wr u * 2 ^ (w - u.length) : Nat) : Int) + ((2 ^ (w - u.length) : Nat) : Int)
  rw [Nat.add_mul, Nat.one_mul, Int.natCast_add]
theorem Pats.spans {w : Nat} {us : List (List Nat)} {ys : List Str} (h : Pats w us ys) : ys.map (spI w) = us.map (spB w) :=
  Pats.rec_ (P := fun us ys => ys.map (spI w) = us.map (spB w)) rfl (fun u us y ys p _ ih => by rw [List.map_cons, List.map_cons, ih, spI_spB p]) h
theorem Pats.strip {w : Nat} {us : List (List Nat)} {ys : List Str} (h : Pats w us ys) : (ys.map fun y => Txt.stripChars y ("*" : Str)).map tl = us :=
  Pats.rec_ (P := fun us ys => (ys.map fun y => Txt.stripChars y ("*" : Str)).map tl = us) rfl (fun u us y ys p _ ih => by rw [List.map_cons, List.map_cons, ih, p.strip]) h
/-- the leaves of all addresses -/
theorem canB_root {S : List (Int × Int)} (h : Rise S) (w : Nat) : ∀ u ∈ canB S w 0 [], Bits u ∧ u.length ≤ w := fun u hu => by
  obtain ⟨v, rfl, h1, h2, _⟩ := canB_pre h w 0 [] u hu
  exact ⟨h2, h1⟩
theorem can_pats {S : List (Int × Int)} (h : Rise S) {w : Nat} {ys : List Str} (e : ys.map tl = can S w 0 []) : Pats w (canB S w 0 []) ys :=
  ⟨by rw [e, can_canB h w 0 [] (Nat.zero_add w)], canB_root h w⟩
theorem can_len0 {S : List (Int × Int)} (h : Rise S) (w : Nat) : (can S w 0 []).length ≤ 1 + w * (2 * S.length) := by
  have h1 := can_len h w 0 []
  exact Nat.le_trans h1 (Nat.add_le_add_left (Nat.mul_le_mul_left _ (ends_le _ _ _)) 1)
/-! ### sorted texts -/
theorem Apart.le {x y : List Nat} (h : Apart x y) : x ≤ y := by
  obtain ⟨c, u, v, rfl, rfl⟩ := h
  refine List.le_of_lt ?_
  induction c with
  | nil => exact List.Lex.rel (by decide)
  | cons a c ih => exact List.Lex.cons ih
theorem Apart.take {x y : List Nat} (h : Apart x y) : y.take x.length ≠ x := by
  obtain ⟨c, u, v, rfl, rfl⟩ := h
  intro e
  have h1 : (c ++ 49 :: v).take (c ++ 48 :: u).length = c ++ (49 :: v).take (u.length + 1) := by
    rw [List.length_append, List.take_length_add_append]
    rfl
  rw [h1] at e
  have := List.append_cancel_left e
  rw [List.take_succ_cons] at this
  exact absurd (List.cons.inj this).1 (by decide)
theorem sortT_map {L : List Str} {C : List (List Nat)} (hp : (L.map tl).Perm C) (hs : C.Pairwise fun a b => a ≤ b) : (sortT L).map tl = C := by
  have h1 : ((sortT L).map tl).Perm C := ((sortT_perm L).map tl).trans hp
  have h2 : ((sortT L).map tl).Pairwise fun a b => a ≤ b := List.pairwise_map.mpr ((sortT_sorted L).imp fun h => of_decide_eq_true h)
  exact h1.eq_of_pairwise (le := fun a b => a ≤ b) (fun a b _ _ h3 h4 => List.le_antisymm h3 h4) h2 hs
/-! ### tiles -/
theorem Tile.sortP {T U : List (Int × Int)} {a e : Int} (h : Tile a T e) (hp : T.Perm U) : sortP U = T :=
  sortP_uniq hp (h.rise.2.imp_of_mem fun {s t} hs ht k => decide_eq_true (.inl (by have := (h.mem s hs).2.1; omega)))
theorem Tile.prs : ∀ {T : List (Int × Int)} {a e : Int}, Tile a T e → prsL (a :: T.map (·.2)) = T
  | [], _, _, _ => rfl
  | [s], a, e, ⟨h1, h2, h3⟩ => by
    show [(a, s.2)] = [s]
    rw [← h1]
  | s :: t :: T, a, e, ⟨h1, h2, h3⟩ => by
    show (a, s.2) :: prsL (s.2 :: (t :: T).map (·.2)) = _
    rw [Tile.prs h3, ← h1]
theorem Tile.ends_mem : ∀ {T : List (Int × Int)} {a e k : Int}, Tile a T e → (k ∈ a :: T.map (·.2) ↔ k = a ∨ k = e ∨ ∃ s ∈ T, k = s.1 ∨ k = s.2)
  | [], a, e, k, h => by
    cases (show _ = _ from h)
    simp
  | s :: T, a, e, k, ⟨h1, h2, h3⟩ => by
    have ih := Tile.ends_mem (k := k) h3
    rw [List.map_cons]
    constructor
    · intro h
      rcases List.mem_cons.mp h with rfl | h
      · exact .inl rfl
      · rcases ih.mp h with rfl | rfl | ⟨t, ht, hk⟩
        · exact .inr (.inr ⟨s, List.mem_cons_self .., .inr rfl⟩)
        · exact .inr (.inl rfl)
        · exact .inr (.inr ⟨t, List.mem_cons_of_mem _ ht, hk⟩)
    · rintro (rfl | rfl | ⟨t, ht, hk⟩)
      · exact List.mem_cons_self ..
      · exact List.mem_cons_of_mem _ (ih.mpr (.inr (.inl rfl)))
      · rcases List.mem_cons.mp ht with rfl | ht
        · rcases hk with rfl | rfl
          · rw [h1]; exact List.mem_cons_self ..
          · exact List.mem_cons_of_mem _ (List.mem_cons_self ..)
        · exact List.mem_cons_of_mem _ (ih.mpr (.inr (.inr ⟨t, ht, hk⟩)))
theorem Tile.sorted : ∀ {T : List (Int × Int)} {a e : Int}, Tile a T e → (a :: T.map (·.2)).Pairwise (· < ·)
  | [], a, e, _ => List.pairwise_singleton _ _
  | s :: T, a, e, ⟨h1, h2, h3⟩ => by
    have ih := Tile.sorted h3
    refine List.pairwise_cons.mpr ⟨fun k hk => ?_, ih⟩
    rw [List.map_cons] at hk
    rcases List.mem_cons.mp hk with rfl | hk
    · omega
    · have := (List.pairwise_cons.mp ih).1 k hk
      omega
/-- the parts of tiles are the tiles -/
theorem Tile.parts {T U : List (Int × Int)} {w : Nat} (h : Tile 0 T (H2 w)) (hp : ∀ s, s ∈ U ↔ s ∈ T) : prsL (edgesOf w U) = T := by
  have e : edgesOf w U = 0 :: T.map (·.2) := by
    unfold edgesOf
    refine ssort_uniq h.sorted fun k => ?_
    rw [h.ends_mem, List.mem_append, mem_flat2]
    simp only [List.mem_cons, List.not_mem_nil, or_false, or_assoc, hp]
  rw [e, h.prs]
/-! ### the one leaf of all -/
theorem can_all {S : List (Int × Int)} {w : Nat} (h : ct S 0 (0 + H2 w) = H2 w) (hw : 1 ≤ w) : can S w 0 [] = [[42]] := by
  rw [can_full h]
  unfold leaf
  rw [if_neg (by omega)]
  rfl
theorem star_eq {ys : List Str} (h : ys.map tl = [[42]]) : ys = [("*" : Str)] := map_tl_inj (by rw [h, List.map_cons, tlStar]; rfl)
theorem Tile.all {T : List (Int × Int)} {w : Nat} (h : Tile 0 T (H2 w)) : G.ct T 0 (0 + H2 w) = H2 w := by
  rw [h.ct]
  have := H2_pos w
  omega
theorem prs_tile : ∀ {l : List Int} {a z : Int}, (a :: l).Pairwise (· < ·) → (a :: l).getLast? = some z → Tile a (prsL (a :: l)) z
  | [], a, z, _, hz => Option.some.inj hz
  | b :: l, a, z, hp, hz => by
    obtain ⟨h1, h2⟩ := List.pairwise_cons.mp hp
    refine ⟨rfl, h1 b (List.mem_cons_self ..), prs_tile h2 ?_⟩
    rw [List.getLast?_cons_cons] at hz
    exact hz
theorem parts_tile {w : Nat} {S : List (Int × Int)} (h : SpOk w S) : Tile 0 (prsL (edgesOf w S)) (H2 w) := by
  obtain ⟨l, e1, _, _, e4, _⟩ := edges_facts h
  have hs := ssort_sorted ([0, ((2 ^ w : Nat) : Int)] ++ flat2 S)
  change (edgesOf w S).Pairwise (· < ·) at hs
  rw [e1] at hs ⊢
  exact prs_tile hs e4
/-! ### an address in spans -/
theorem cn1_at (s : Int × Int) (n : Int) : cn1 s n (n + 1) = if ((decide (s.1 ≤ n)) && (decide (n < s.2))) = true then 1 else 0 := by
  unfold cn1
  by_cases h : s.1 ≤ n ∧ n < s.2
  · rw [decide_eq_true h.1, decide_eq_true h.2, if_pos (show (true && true) = true from rfl)]
    omega
  · rw [if_neg (by rw [Bool.and_eq_true, decide_eq_true_iff, decide_eq_true_iff]; exact h)]
    omega
end G
/-! Plain laws: how the signs of two patterns stand to one another. -/
namespace G
open PySem PySem.Spec PyProof.Rows L2 TL
theorem signs_cmp : ∀ (u v : List Nat), Bits u → Bits v → (∃ r, v = u ++ r) ∨ (∃ r, r ≠ [] ∧ u = v ++ r) ∨ Apart u v ∨ Apart v u
  | [], v, _, _ => .inl ⟨v, rfl⟩
  | a :: u, [], _, _ => .inr (.inl ⟨a :: u, by simp, rfl⟩)
  | a :: u, b :: v, hu, hv => by
    have ha := isB_iff.mp (hu a (List.mem_cons_self ..))
    have hb := isB_iff.mp (hv b (List.mem_cons_self ..))
    have diff : a ≠ b → (a = 48 ∧ b = 49) ∨ (b = 48 ∧ a = 49) := fun h => by omega
    by_cases h : a = b
    · subst h
      rcases signs_cmp u v (fun c hc => hu c (List.mem_cons_of_mem _ hc)) (fun c hc => hv c (List.mem_cons_of_mem _ hc)) with ⟨r, rfl⟩ | ⟨r, h1, rfl⟩ | ⟨c, p, q, rfl, rfl⟩ | ⟨c, p, q, rfl, rfl⟩
      · exact .inl ⟨r, rfl⟩
      · exact .inr (.inl ⟨r, h1, rfl⟩)
      · exact .inr (.inr (.inl ⟨a :: c, p, q, rfl, rfl⟩))
      · exact .inr (.inr (.inr ⟨a :: c, p, q, rfl, rfl⟩))
    · rcases diff h with ⟨rfl, rfl⟩ | ⟨rfl, rfl⟩
      · exact .inr (.inr (.inl ⟨[], u, v, rfl, rfl⟩))
      · exact .inr (.inr (.inr ⟨[], v, u, rfl, rfl⟩))
theorem spB_lt (w : Nat) (u : List Nat) : (spB w u).1 < (spB w u).2 := by
  unfold spB
  have := H2_pos (w - u.length)
  show beg u _ < beg u _ + H2 _
  omega
/-- what goes on from some signs lies within -/
theorem spB_nest {w : Nat} {u r : List Nat} (h : (u ++ r).length ≤ w) : (spB w u).1 ≤ (spB w (u ++ r)).1 ∧ (spB w (u ++ r)).2 ≤ (spB w u).2 := by
  rw [List.length_append] at h
  have hr := wr_lt r
  have e1 : beg (u ++ r) (w - (u ++ r).length) = ((wr u * 2 ^ (w - u.length) + wr r * 2 ^ (w - (u ++ r).length) : Nat) : Int) := by
    unfold beg
    rw [wr_app, List.length_append, Nat.add_mul, Nat.mul_assoc, ← Nat.pow_add, show r.length + (w - (u.length + r.length)) = w - u.length by omega]
  have e2 : 2 ^ r.length * 2 ^ (w - (u ++ r).length) = 2 ^ (w - u.length) := by
    rw [← Nat.pow_add, List.length_append, show r.length + (w - (u.length + r.length)) = w - u.length by omega]
  have e3 : (wr r + 1) * 2 ^ (w - (u ++ r).length) ≤ 2 ^ r.length * 2 ^ (w - (u ++ r).length) := Nat.mul_le_mul_right _ hr
  rw [e2, Nat.add_mul, Nat.one_mul] at e3
  unfold spB
  rw [e1]
  show ((wr u * 2 ^ (w - u.length) : Nat) : Int) ≤ _ ∧ _ + ((2 ^ (w - (u ++ r).length) : Nat) : Int) ≤ ((wr u * 2 ^ (w - u.length) : Nat) : Int) + ((2 ^ (w - u.length) : Nat) : Int)
  generalize 2 ^ (w - (u ++ r).length) = x at *
  generalize wr r * x = y at *
  generalize 2 ^ (w - u.length) = z at *
  generalize wr u * z = t at *
  omega
theorem spB_apart {w : Nat} {u v : List Nat} (h : Apart u v) (hu : u.length ≤ w) (hv : v.length ≤ w) : (spB w u).2 ≤ (spB w v).1 := by
  obtain ⟨c, p, q, rfl, rfl⟩ := h
  have e1 : c ++ 48 :: p = (c ++ [48]) ++ p := by simp
  have e2 : c ++ 49 :: q = (c ++ [49]) ++ q := by simp
  rw [e1] at hu ⊢
  rw [e2] at hv ⊢
  have h1 := (spB_nest (w := w) (u := c ++ [48]) (r := p) hu).2
  have h2 := (spB_nest (w := w) (u := c ++ [49]) (r := q) hv).1
  have hl : c.length + 1 ≤ w := by rw [List.length_append, List.length_append] at hu; have : [48].length = 1 := rfl; omega
  have k1 : (spB w (c ++ [48])).2 = (spB w (c ++ [49])).1 := by
    rw [spB_at (j := w - (c.length + 1)) (by rw [List.length_append]; show c.length + 1 + _ = _; omega), spB_at (j := w - (c.length + 1)) (by rw [List.length_append]; show c.length + 1 + _ = _; omega)]
    show beg (c ++ [48]) _ + H2 _ = beg (c ++ [49]) _
    rw [beg0, beg1]
  omega
/-- the second goes on from the first, or is greater at a sign -/
def Ord (u v : List Nat) : Prop := (∃ r, v = u ++ r) ∨ Apart u v
theorem lex_app {a b : Nat} (h : a < b) {x y : List Nat} : ∀ c : List Nat, c ++ a :: x < c ++ b :: y
  | [] => List.Lex.rel h
  | _ :: c => List.Lex.cons (lex_app h c)
theorem ord_of_le {w : Nat} {u v : List Nat} (hu : Bits u ∧ u.length ≤ w) (hv : Bits v ∧ v.length ≤ w) (hle : patL w u ≤ patL w v) : Ord u v := by
  rcases signs_cmp u v hu.1 hv.1 with ⟨r, rfl⟩ | ⟨r, h1, rfl⟩ | h | ⟨c, p, q, rfl, rfl⟩
  · exact .inl ⟨r, rfl⟩
  · exfalso
    cases r with
    | nil => exact h1 rfl
    | cons d r =>
      have hd := isB_iff.mp (hu.1 d (List.mem_append.mpr (.inr (List.mem_cons_self ..))))
      have hl := hu.2
      rw [List.length_append, List.length_cons] at hl
      refine List.not_le.mpr ?_ hle
      unfold patL
      rw [if_pos (show v.length < w by omega), List.append_assoc]
      exact lex_app (by omega) v
  · exact .inr h
  · exfalso
    refine List.not_le.mpr ?_ hle
    unfold patL
    rw [List.append_assoc, List.append_assoc]
    exact lex_app (by decide) c
theorem Ord.span {w : Nat} {u v : List Nat} (hu : u.length ≤ w) (hv : v.length ≤ w) (h : Ord u v) : ((spB w u).1 ≤ (spB w v).1 ∧ (spB w v).2 ≤ (spB w u).2) ∨ (spB w u).2 ≤ (spB w v).1 := by
  rcases h with ⟨r, rfl⟩ | h
  · exact .inl (spB_nest hv)
  · exact .inr (spB_apart h hu hv)
theorem any_span {w : Nat} {u v : List Nat} (hu : Bits u ∧ u.length ≤ w) (hv : Bits v ∧ v.length ≤ w) :
    ((spB w u).1 ≤ (spB w v).1 ∧ (spB w v).2 ≤ (spB w u).2) ∨ ((spB w v).1 ≤ (spB w u).1 ∧ (spB w u).2 ≤ (spB w v).2) ∨ (spB w u).2 ≤ (spB w v).1 ∨ (spB w v).2 ≤ (spB w u).1 := by
  rcases signs_cmp u v hu.1 hv.1 with ⟨r, rfl⟩ | ⟨r, _, rfl⟩ | h | h
  · exact .inl (spB_nest hv.2)
  · exact .inr (.inl (spB_nest hu.2))
  · exact .inr (.inr (.inl (spB_apart h hu.2 hv.2)))
  · exact .inr (.inr (.inr (spB_apart h hv.2 hu.2)))
/-! ### what a pattern's text is -/
def patB (cs : List Nat) (w : Int) : Bool :=
  let o : Bool := decide (cs.drop (cs.length - 1) = [42])
  let bits := cs.take (cs.length - (if o then 1 else 0))
  if bits.all isB then (if o then decide ((bits.length : Int) < w) else decide ((bits.length : Int) = w)) else false
theorem patB_pat {w : Nat} {u : List Nat} (hu : Bits u) (hl : u.length ≤ w) : patB (patL w u) (w : Int) = true := by
  have hall : u.all isB = true := List.all_eq_true.mpr hu
  unfold patL
  by_cases h : u.length < w
  · rw [if_pos h]
    have e1 : (u ++ [42]).drop ((u ++ [42]).length - 1) = [42] := by rw [List.length_append]; exact List.drop_left
    have e2 : (u ++ [42]).take ((u ++ [42]).length - 1) = u := by rw [List.length_append]; exact List.take_left
    have e3 : decide ((u ++ [42]).drop ((u ++ [42]).length - 1) = [42]) = true := decide_eq_true e1
    unfold patB
    simp only [e3, if_true, e2, hall]
    exact decide_eq_true (by omega)
  · rw [if_neg h, List.append_nil]
    have e1 : ¬ u.drop (u.length - 1) = [42] := fun z => hu.no42 (List.mem_of_mem_drop (show 42 ∈ u.drop (u.length - 1) by rw [z]; exact List.mem_singleton.mpr rfl))
    have e3 : decide (u.drop (u.length - 1) = [42]) = false := decide_eq_false e1
    have e2 : u.take (u.length - 0) = u := List.take_length
    unfold patB
    rw [e3]
    show (if (u.take (u.length - 0)).all isB = true then decide (((u.take (u.length - 0)).length : Int) = (w : Int)) else false) = true
    rw [e2, hall, if_pos rfl]
    exact decide_eq_true (by omega)
end G
/-! Plain laws: signs turned, signs put ahead and behind. -/
namespace G
open PySem PySem.Spec PyProof.Rows L2 TL
def flip (c : Nat) : Nat := 97 - c
def fl (u : List Nat) : List Nat := u.map flip
theorem fl_len (u : List Nat) : (fl u).length = u.length := List.length_map ..
theorem fl_bits {u : List Nat} (h : Bits u) : Bits (fl u) := fun c hc => by
  obtain ⟨d, hd, rfl⟩ := List.mem_map.mp hc
  have := isB_iff.mp (h d hd)
  exact isB_iff.mpr (by unfold flip; omega)
theorem fl_app (u v : List Nat) : fl (u ++ v) = fl u ++ fl v := List.map_append
theorem wr_fl : ∀ {u : List Nat}, Bits u → wr (fl u) + wr u + 1 = 2 ^ u.length
  | [], _ => rfl
  | c :: u, h => by
    have ih := wr_fl (u := u) fun d hd => h d (List.mem_cons_of_mem _ hd)
    have hc := isB_iff.mp (h c (List.mem_cons_self ..))
    show wr (flip c :: fl u) + _ + 1 = _
    rw [wr_cons, wr_cons, fl_len, List.length_cons, Nat.pow_succ]
    unfold flip
    rcases hc with rfl | rfl <;> simp <;> omega
/-- from the other end -/
def mir (W : Int) (s : Int × Int) : Int × Int := (W - s.2, W - s.1)
def shf (h : Int) (s : Int × Int) : Int × Int := (s.1 + h, s.2 + h)
def dbl (s : Int × Int) : Int × Int := (2 * s.1, 2 * s.2)
theorem spB_fl {w : Nat} {u : List Nat} (h : Bits u) (hl : u.length ≤ w) : spB w (fl u) = mir (H2 w) (spB w u) := by
  have e1 := wr_fl h
  have e2 : 2 ^ u.length * 2 ^ (w - u.length) = 2 ^ w := by rw [← Nat.pow_add]; congr 1; omega
  rw [← e1, Nat.add_mul, Nat.add_mul, Nat.one_mul] at e2
  unfold spB mir
  rw [fl_len]
  unfold beg H2
  generalize 2 ^ (w - u.length) = z at *
  generalize wr (fl u) * z = x at *
  generalize wr u * z = y at *
  refine Prod.ext ?_ ?_
  · show ((x : Nat) : Int) = ((2 ^ w : Nat) : Int) - (((y : Nat) : Int) + ((z : Nat) : Int))
    rw [← e2]; omega
  · show ((x : Nat) : Int) + ((z : Nat) : Int) = ((2 ^ w : Nat) : Int) - ((y : Nat) : Int)
    rw [← e2]; omega
theorem spB_0 {w : Nat} {u : List Nat} : spB (w + 1) (48 :: u) = spB w u := by
  unfold spB beg
  rw [wr_cons, if_neg (by decide), Nat.zero_mul, Nat.zero_add, List.length_cons, show w + 1 - (u.length + 1) = w - u.length by omega]
theorem spB_1 {w : Nat} {u : List Nat} (hl : u.length ≤ w) : spB (w + 1) (49 :: u) = shf (H2 w) (spB w u) := by
  have e2 : 2 ^ u.length * 2 ^ (w - u.length) = 2 ^ w := by rw [← Nat.pow_add]; congr 1; omega
  unfold spB beg shf H2
  rw [wr_cons, if_pos rfl, Nat.one_mul, List.length_cons, show w + 1 - (u.length + 1) = w - u.length by omega, Nat.add_mul, e2]
  refine Prod.ext ?_ ?_
  · show ((2 ^ w + wr u * 2 ^ (w - u.length) : Nat) : Int) = ((wr u * 2 ^ (w - u.length) : Nat) : Int) + ((2 ^ w : Nat) : Int)
    rw [Int.natCast_add]; omega
  · show ((2 ^ w + wr u * 2 ^ (w - u.length) : Nat) : Int) + ((2 ^ (w - u.length) : Nat) : Int) = ((wr u * 2 ^ (w - u.length) : Nat) : Int) + ((2 ^ (w - u.length) : Nat) : Int) + ((2 ^ w : Nat) : Int)
    rw [Int.natCast_add]; omega
theorem spB_dbl {w : Nat} {u : List Nat} (hl : u.length ≤ w) : spB (w + 1) u = dbl (spB w u) := by
  unfold spB beg dbl H2
  rw [show w + 1 - u.length = (w - u.length) + 1 by omega, Nat.pow_succ, ← Nat.mul_assoc]
  generalize wr u * 2 ^ (w - u.length) = x
  generalize 2 ^ (w - u.length) = z
  refine Prod.ext ?_ ?_
  · show ((x * 2 : Nat) : Int) = 2 * ((x : Nat) : Int)
    omega
  · show ((x * 2 : Nat) : Int) + ((z * 2 : Nat) : Int) = 2 * (((x : Nat) : Int) + ((z : Nat) : Int))
    omega
/-! ### ends -/
def EndOf (S : List (Int × Int)) (k : Int) : Prop := ∃ s ∈ S, k = s.1 ∨ k = s.2
theorem prs_snd : ∀ (l : List Int) (a : Int), (prsL (a :: l)).map (·.2) = l
  | [], _ => rfl
  | b :: l, a => by
    show b :: (prsL (b :: l)).map (·.2) = _
    rw [prs_snd l b]
theorem mem_edges {w : Nat} {S : List (Int × Int)} {k : Int} : k ∈ edgesOf w S ↔ k = 0 ∨ k = H2 w ∨ EndOf S k := by
  unfold edgesOf
  rw [ssort_mem, List.mem_append, mem_flat2]
  simp only [List.mem_cons, List.not_mem_nil, or_false, or_assoc]
  exact Iff.rfl
theorem parts_ends {w : Nat} {S : List (Int × Int)} (h : SpOk w S) (k : Int) : (k = 0 ∨ k = H2 w ∨ EndOf (prsL (edgesOf w S)) k) ↔ (k = 0 ∨ k = H2 w ∨ EndOf S k) := by
  have ht := parts_tile h
  obtain ⟨l, e1, _⟩ := edges_facts h
  have e2 := ht.ends_mem (k := k)
  refine Iff.trans ?_ mem_edges
  rw [e1] at e2 ⊢
  rw [prs_snd] at e2
  exact e2.symm
theorem parts_char {w : Nat} {T U : List (Int × Int)} (h : Tile 0 T (H2 w)) (hk : ∀ k, (k = 0 ∨ k = H2 w ∨ EndOf T k) ↔ (k = 0 ∨ k = H2 w ∨ EndOf U k)) : prsL (edgesOf w U) = T := by
  have e : edgesOf w U = 0 :: T.map (·.2) := by
    have hm : ∀ k, k ∈ 0 :: T.map (·.2) ↔ k ∈ edgesOf w U := fun k => by rw [h.ends_mem, mem_edges]; exact hk k
    unfold edgesOf at hm ⊢
    exact ssort_uniq h.sorted fun k => (hm k).trans ssort_mem
  rw [e, h.prs]
theorem Tile.mir : ∀ {T : List (Int × Int)} {a e W : Int}, Tile a T e → Tile (W - e) (T.map (G.mir W)).reverse (W - a)
  | [], a, e, W, h => by cases (show _ = _ from h); rfl
  | s :: T, a, e, W, ⟨h1, h2, h3⟩ => by
    rw [List.map_cons, List.reverse_cons]
    refine Tile.app (m := W - s.2) (Tile.mir h3) ⟨rfl, ?_, ?_⟩
    · show W - s.2 < W - s.1; omega
    · show W - s.1 = W - a; omega
theorem Tile.shf : ∀ {T : List (Int × Int)} {a e : Int} (h : Int), Tile a T e → Tile (a + h) (T.map (G.shf h)) (e + h)
  | [], a, e, h, k => by cases (show _ = _ from k); rfl
  | s :: T, a, e, h, ⟨h1, h2, h3⟩ => ⟨by show s.1 + h = a + h; omega, by show s.1 + h < s.2 + h; omega, Tile.shf h h3⟩
theorem Tile.dbl : ∀ {T : List (Int × Int)} {a e : Int}, Tile a T e → Tile (2 * a) (T.map G.dbl) (2 * e)
  | [], a, e, k => by cases (show _ = _ from k); rfl
  | s :: T, a, e, ⟨h1, h2, h3⟩ => ⟨by show 2 * s.1 = 2 * a; omega, by show 2 * s.1 < 2 * s.2; omega, Tile.dbl h3⟩
theorem Tile.last : ∀ {T : List (Int × Int)} {a e : Int}, Tile a T e → a < e → EndOf T e
  | [], a, e, h, hl => by cases (show _ = _ from h); omega
  | [s], a, e, ⟨h1, h2, h3⟩, _ => ⟨s, List.mem_cons_self .., .inr (show s.2 = e from h3).symm⟩
  | s :: t :: T, a, e, ⟨h1, h2, h3⟩, _ => by
    obtain ⟨r, hr, hk⟩ := Tile.last h3 (by have := h3.2.1; have := h3.1; have := h3.2.2.le; omega)
    exact ⟨r, List.mem_cons_of_mem _ hr, hk⟩
theorem end_mir {S : List (Int × Int)} {W k : Int} : EndOf (S.map (mir W)) k ↔ EndOf S (W - k) := by
  constructor
  · rintro ⟨t, ht, hk⟩
    obtain ⟨s, hs, rfl⟩ := List.mem_map.mp ht
    refine ⟨s, hs, ?_⟩
    have : k = W - s.2 ∨ k = W - s.1 := hk
    omega
  · rintro ⟨s, hs, hk⟩
    refine ⟨mir W s, List.mem_map.mpr ⟨s, hs, rfl⟩, ?_⟩
    show k = W - s.2 ∨ k = W - s.1
    omega
theorem end_rev {S : List (Int × Int)} {k : Int} : EndOf S.reverse k ↔ EndOf S k := by
  unfold EndOf
  simp only [List.mem_reverse]
theorem end_shf {S : List (Int × Int)} {h k : Int} : EndOf (S.map (shf h)) k ↔ EndOf S (k - h) := by
  constructor
  · rintro ⟨t, ht, hk⟩
    obtain ⟨s, hs, rfl⟩ := List.mem_map.mp ht
    refine ⟨s, hs, ?_⟩
    have : k = s.1 + h ∨ k = s.2 + h := hk
    omega
  · rintro ⟨s, hs, hk⟩
    refine ⟨shf h s, List.mem_map.mpr ⟨s, hs, rfl⟩, ?_⟩
    show k = s.1 + h ∨ k = s.2 + h
    omega
theorem end_app {S T : List (Int × Int)} {k : Int} : EndOf (S ++ T) k ↔ EndOf S k ∨ EndOf T k := by
  unfold EndOf
  constructor
  · rintro ⟨s, hs, hk⟩
    exact (List.mem_append.mp hs).elim (fun h => .inl ⟨s, h, hk⟩) fun h => .inr ⟨s, h, hk⟩
  · rintro (⟨s, hs, hk⟩ | ⟨s, hs, hk⟩)
    · exact ⟨s, List.mem_append.mpr (.inl hs), hk⟩
    · exact ⟨s, List.mem_append.mpr (.inr hs), hk⟩
theorem end_dbl {S : List (Int × Int)} {k : Int} : EndOf (S.map dbl) k ↔ ∃ j, k = 2 * j ∧ EndOf S j := by
  constructor
  · rintro ⟨t, ht, hk⟩
    obtain ⟨s, hs, rfl⟩ := List.mem_map.mp ht
    have : k = 2 * s.1 ∨ k = 2 * s.2 := hk
    rcases this with h | h
    · exact ⟨s.1, h, s, hs, .inl rfl⟩
    · exact ⟨s.2, h, s, hs, .inr rfl⟩
  · rintro ⟨j, rfl, s, hs, hk⟩
    refine ⟨dbl s, List.mem_map.mpr ⟨s, hs, rfl⟩, ?_⟩
    show 2 * j = 2 * s.1 ∨ 2 * j = 2 * s.2
    omega
theorem parts_mir {w : Nat} {S : List (Int × Int)} (h : SpOk w S) : prsL (edgesOf w (S.map (mir (H2 w)))) = ((prsL (edgesOf w S)).map (mir (H2 w))).reverse := by
  have ht := (parts_tile h).mir (W := H2 w)
  rw [Int.sub_self, Int.sub_zero] at ht
  refine parts_char ht fun k => ?_
  have := parts_ends h (H2 w - k)
  rw [end_rev, end_mir, end_mir]
  constructor
  · intro hk
    have := this.mp (by rcases hk with rfl | rfl | hk; exact .inr (.inl (by omega)); exact .inl (by omega); exact .inr (.inr hk))
    rcases this with h | h | h
    · exact .inr (.inl (by omega))
    · exact .inl (by omega)
    · exact .inr (.inr h)
  · intro hk
    have := this.mpr (by rcases hk with rfl | rfl | hk; exact .inr (.inl (by omega)); exact .inl (by omega); exact .inr (.inr hk))
    rcases this with h | h | h
    · exact .inr (.inl (by omega))
    · exact .inl (by omega)
    · exact .inr (.inr h)
theorem parts_ahead {w : Nat} {S : List (Int × Int)} (h : SpOk w S) : prsL (edgesOf (w + 1) (S ++ S.map (shf (H2 w)) ++ [(0, H2 w)])) = prsL (edgesOf w S) ++ (prsL (edgesOf w S)).map (shf (H2 w)) := by
  have hp := H2_pos w
  have h2 := H2_succ w
  have t := parts_tile h
  have ht := t.shf (H2 w)
  rw [Int.zero_add] at ht
  have hl := t.last hp
  refine parts_char (by rw [show H2 (w + 1) = H2 w + H2 w by omega]; exact t.app ht) fun k => ?_
  have a1 := parts_ends h k
  have a2 := parts_ends h (k - H2 w)
  rw [end_app, end_shf, end_app, end_app, end_shf]
  have hone : EndOf [((0 : Int), H2 w)] k ↔ k = 0 ∨ k = H2 w := by
    unfold EndOf
    simp
  rw [hone]
  constructor
  · rintro (hk | hk | hk | hk)
    · exact .inl hk
    · exact .inr (.inl hk)
    · rcases a1.mp (.inr (.inr hk)) with e | e | e
      · exact .inl e
      · exact .inr (.inr (.inr (.inr e)))
      · exact .inr (.inr (.inl (.inl e)))
    · rcases a2.mp (.inr (.inr hk)) with e | e | e
      · exact .inr (.inr (.inr (.inr (by omega))))
      · exact .inr (.inl (by omega))
      · exact .inr (.inr (.inl (.inr e)))
  · rintro (hk | hk | (hk | hk) | hk | hk)
    · exact .inl hk
    · exact .inr (.inl hk)
    · rcases a1.mpr (.inr (.inr hk)) with e | e | e
      · exact .inl e
      · exact .inr (.inr (.inl (e ▸ hl)))
      · exact .inr (.inr (.inl e))
    · rcases a2.mpr (.inr (.inr hk)) with e | e | e
      · exact .inr (.inr (.inl (by rw [show k = H2 w by omega]; exact hl)))
      · exact .inr (.inl (by omega))
      · exact .inr (.inr (.inr e))
    · exact .inl hk
    · exact .inr (.inr (.inl (hk ▸ hl)))
theorem parts_dbl {w : Nat} {S : List (Int × Int)} (h : SpOk w S) : prsL (edgesOf (w + 1) (S.map dbl)) = (prsL (edgesOf w S)).map dbl := by
  have h2 := H2_succ w
  have ht := (parts_tile h).dbl
  refine parts_char (by rw [h2]; exact ht) fun k => ?_
  rw [end_dbl, end_dbl]
  constructor
  · rintro (hk | hk | ⟨j, rfl, hk⟩)
    · exact .inl hk
    · exact .inr (.inl hk)
    · rcases (parts_ends h j).mp (.inr (.inr hk)) with e | e | e
      · exact .inl (by omega)
      · exact .inr (.inl (by omega))
      · exact .inr (.inr ⟨j, rfl, e⟩)
  · rintro (hk | hk | ⟨j, rfl, hk⟩)
    · exact .inl hk
    · exact .inr (.inl hk)
    · rcases (parts_ends h j).mpr (.inr (.inr hk)) with e | e | e
      · exact .inl (by omega)
      · exact .inr (.inl (by omega))
      · exact .inr (.inr ⟨j, rfl, e⟩)
/-! ### leaves -/
theorem ct_map {S : List (Int × Int)} {f : Int × Int → Int × Int} {x y x' y' c : Int} (h : ∀ s ∈ S, cn1 (f s) x y = c * cn1 s x' y') : ct (S.map f) x y = c * ct S x' y' := by
  induction S with
  | nil => rw [List.map_nil, ct_nil, ct_nil, Int.mul_zero]
  | cons s S ih => rw [List.map_cons, ct_cons, ct_cons, ih fun t ht => h t (List.mem_cons_of_mem _ ht), h s (List.mem_cons_self ..), Int.mul_add]
theorem ct_rever (S : List (Int × Int)) (x y : Int) : ct S.reverse x y = ct S x y := by
  induction S with
  | nil => rfl
  | cons s S ih => rw [List.reverse_cons, ct_app, ct_one, ct_cons, ih]; omega
theorem ct_mir (S : List (Int × Int)) (W x y : Int) : ct ((S.map (mir W)).reverse) x y = ct S (W - y) (W - x) := by
  rw [ct_rever, ct_map (c := 1) (x' := W - y) (y' := W - x) fun s _ => by unfold cn1 mir; show max 0 (min y (W - s.1) - max x (W - s.2)) = _; omega]
  omega
theorem ct_shf (S : List (Int × Int)) (h x y : Int) : ct (S.map (shf h)) x y = ct S (x - h) (y - h) := by
  rw [ct_map (c := 1) (x' := x - h) (y' := y - h) fun s _ => by unfold cn1 shf; show max 0 (min y (s.2 + h) - max x (s.1 + h)) = _; omega]
  omega
theorem ct_dbl (S : List (Int × Int)) (x y : Int) : ct (S.map dbl) (2 * x) (2 * y) = 2 * ct S x y :=
  ct_map (c := 2) fun s _ => by unfold cn1 dbl; show max 0 (min (2 * y) (2 * s.2) - max (2 * x) (2 * s.1)) = _; omega
theorem canB_mir {S : List (Int × Int)} (h : Rise S) (W : Int) (j : Nat) (a : Int) (bs : List Nat) : canB ((S.map (mir W)).reverse) j (W - (a + H2 j)) (fl bs) = ((canB S j a bs).map fl).reverse :=
  can_cases h (P := fun j a bs => canB ((S.map (mir W)).reverse) j (W - (a + H2 j)) (fl bs) = ((canB S j a bs).map fl).reverse) j a bs
    (fun j a bs e => by rw [canB_none e, canB_none (by rw [ct_mir, ← e]; congr 1 <;> omega)]; rfl)
    (fun j a bs e => by
      rw [canB_full e, canB_full (by rw [ct_mir]; rw [show W - (W - (a + H2 j) + H2 j) = a by omega, show W - (W - (a + H2 j)) = a + H2 j by omega]; exact e)]
      rfl)
    (fun j a bs e1 e2 i1 i2 => by
      have h2 := H2_succ j
      have e : ct ((S.map (mir W)).reverse) (W - (a + H2 (j + 1))) (W - (a + H2 (j + 1)) + H2 (j + 1)) = ct S a (a + H2 (j + 1)) := by
        rw [ct_mir, show W - (W - (a + H2 (j + 1)) + H2 (j + 1)) = a by omega, show W - (W - (a + H2 (j + 1))) = a + H2 (j + 1) by omega]
      rw [canB_part e1 e2, canB_part (by rw [e]; exact e1) (by rw [e]; exact e2), List.map_append, List.reverse_append, ← i1, ← i2, fl_app, fl_app,
        show W - (a + H2 (j + 1)) + H2 j = W - (a + H2 j) by omega, show a + H2 j + H2 j = a + H2 (j + 1) by omega]
      rfl)
theorem canB_shf {S : List (Int × Int)} (h : Rise S) (d : Int) (p : List Nat) (j : Nat) (a : Int) (bs : List Nat) : canB (S.map (shf d)) j (a + d) (p ++ bs) = (canB S j a bs).map (p ++ ·) :=
  can_cases h (P := fun j a bs => canB (S.map (shf d)) j (a + d) (p ++ bs) = (canB S j a bs).map (p ++ ·)) j a bs
    (fun j a bs e => by rw [canB_none e, canB_none (by rw [ct_shf, ← e]; congr 1 <;> omega)]; rfl)
    (fun j a bs e => by
      rw [canB_full e, canB_full (by rw [ct_shf, show a + d - d = a by omega, show a + d + H2 j - d = a + H2 j by omega]; exact e)]
      rfl)
    (fun j a bs e1 e2 i1 i2 => by
      have e : ct (S.map (shf d)) (a + d) (a + d + H2 (j + 1)) = ct S a (a + H2 (j + 1)) := by
        rw [ct_shf, show a + d - d = a by omega, show a + d + H2 (j + 1) - d = a + H2 (j + 1) by omega]
      rw [canB_part e1 e2, canB_part (by rw [e]; exact e1) (by rw [e]; exact e2), List.map_append, ← i1, ← i2, List.append_assoc, List.append_assoc, show a + d + H2 j = a + H2 j + d by omega])
theorem canB_dbl {S : List (Int × Int)} (h : Rise S) (j : Nat) (a : Int) (bs : List Nat) : canB (S.map dbl) (j + 1) (2 * a) bs = canB S j a bs :=
  can_cases h (P := fun j a bs => canB (S.map dbl) (j + 1) (2 * a) bs = canB S j a bs) j a bs
    (fun j a bs e => by
      have h2 := H2_succ j
      rw [canB_none e, canB_none (by rw [show 2 * a + H2 (j + 1) = 2 * (a + H2 j) by omega, ct_dbl, e]; rfl)])
    (fun j a bs e => by
      have h2 := H2_succ j
      rw [canB_full e, canB_full (by rw [show 2 * a + H2 (j + 1) = 2 * (a + H2 j) by omega, ct_dbl, e]; omega)])
    (fun j a bs e1 e2 i1 i2 => by
      have h2 := H2_succ j
      have h3 := H2_succ (j + 1)
      have e : ct (S.map dbl) (2 * a) (2 * a + H2 (j + 1 + 1)) = 2 * ct S a (a + H2 (j + 1)) := by rw [show 2 * a + H2 (j + 1 + 1) = 2 * (a + H2 (j + 1)) by omega, ct_dbl]
      rw [canB_part e1 e2, canB_part (by rw [e]; omega) (by rw [e]; omega), i1, show 2 * a + H2 (j + 1) = 2 * (a + H2 j) by omega, i2])
theorem canB_ahead {S : List (Int × Int)} (h : Rise S) {w : Nat} (hb : ∀ s ∈ S, 0 ≤ s.1 ∧ s.2 ≤ H2 w) : canB (S.map (shf (H2 w))) (w + 1) 0 [] = (canB S w 0 []).map ([49] ++ ·) := by
  have hp := H2_pos w
  have h2 := H2_succ w
  have neg : ∀ y, y ≤ H2 w → ct S (0 - H2 w) y = ct S 0 y := fun y _ => by
    have := ct_map (S := S) (f := id) (c := 1) (x := 0 - H2 w) (y := y) (x' := 0) (y' := y) fun s hs => by
      have := hb s hs
      unfold cn1
      show max 0 (min y s.2 - max (0 - H2 w) s.1) = _
      omega
    rw [List.map_id] at this
    omega
  have e0 : ct (S.map (shf (H2 w))) 0 (0 + H2 (w + 1)) = ct S 0 (0 + H2 w) := by rw [ct_shf, show 0 + H2 (w + 1) - H2 w = 0 + H2 w by omega, neg _ (by omega)]
  by_cases hz : ct S 0 (0 + H2 w) = 0
  · rw [canB_none hz, canB_none (by rw [e0]; exact hz)]
    rfl
  · have hl := ct_le h (a := 0) (e := 0 + H2 w) (by omega)
    have k1 : ct (S.map (shf (H2 w))) 0 (0 + H2 w) = 0 := by
      rw [ct_shf, show 0 + H2 w - H2 w = 0 by omega, neg 0 (by omega)]
      exact ct_rev (Int.le_refl _)
    rw [canB_part (by rw [e0]; exact hz) (by rw [e0]; omega), canB_none k1]
    have := canB_shf h (H2 w) [49] w 0 []
    rw [List.append_nil] at this
    exact this
theorem Pats.of {w : Nat} : ∀ {ps : List Str}, (∀ p ∈ ps, IsPat w p) → Pats w (ps.map bsOf) ps
  | [], _ => ⟨rfl, fun _ h => nomatch h⟩
  | p :: ps, h => by
    obtain ⟨u, pu⟩ := h p (List.mem_cons_self ..)
    have ih := Pats.of (ps := ps) fun q hq => h q (List.mem_cons_of_mem _ hq)
    rw [List.map_cons, bsOf_pat pu]
    refine ⟨by rw [List.map_cons, List.map_cons, pu.eq, ih.eq], fun v hv => ?_⟩
    rcases List.mem_cons.mp hv with rfl | hv
    · exact ⟨pu.bits, pu.le⟩
    · exact ih.ok v hv
theorem Pats.cons {w : Nat} {u : List Nat} {us : List (List Nat)} {y : Str} {ys : List Str} (p : Pat w u y) (h : Pats w us ys) : Pats w (u :: us) (y :: ys) :=
  ⟨by rw [List.map_cons, List.map_cons, p.eq, h.eq], fun v hv => by
    rcases List.mem_cons.mp hv with rfl | hv
    · exact ⟨p.bits, p.le⟩
    · exact h.ok v hv⟩
theorem Pats.nil {w : Nat} : Pats w [] [] := ⟨rfl, fun _ h => nomatch h⟩
theorem Pats.rev {w : Nat} {us : List (List Nat)} {ys : List Str} (h : Pats w us ys) : Pats w us.reverse ys.reverse :=
  ⟨by rw [List.map_reverse, List.map_reverse, h.eq], fun u hu => h.ok u (List.mem_reverse.mp hu)⟩
theorem Pats.uniq {w : Nat} {us : List (List Nat)} {ys zs : List Str} (h : Pats w us ys) (k : Pats w us zs) : ys = zs := G.map_tl_inj (by rw [h.eq, k.eq])
end G
/-! Plain laws: things of either type, membership, the bag of five. -/
namespace G
open PySem PySem.Spec PyProof.Rows L2 TL
instance {α : Type} [Enc α] [EqvD α] : EqvD (T1 α) := ⟨fun x y => by
  obtain ⟨a⟩ := x
  obtain ⟨c⟩ := y
  show (PyData.eqv (Enc.d a) (Enc.d c) && true) = true ↔ _
  rw [Bool.and_true, EqvD.iff, T1.mk.injEq]⟩
instance {α β γ δ ε : Type} [Enc α] [Enc β] [Enc γ] [Enc δ] [Enc ε] [EqvD α] [EqvD β] [EqvD γ] [EqvD δ] [EqvD ε] : EqvD (T5 α β γ δ ε) := ⟨fun x y => by
  obtain ⟨a, b, e, g, i⟩ := x
  obtain ⟨c, d, f, h, j⟩ := y
  show (PyData.eqv (Enc.d a) (Enc.d c) && (PyData.eqv (Enc.d b) (Enc.d d) && (PyData.eqv (Enc.d e) (Enc.d f) && (PyData.eqv (Enc.d g) (Enc.d h) && (PyData.eqv (Enc.d i) (Enc.d j) && true))))) = true ↔ _
  rw [Bool.and_true, Bool.and_eq_true, Bool.and_eq_true, Bool.and_eq_true, Bool.and_eq_true, EqvD.iff, EqvD.iff, EqvD.iff, EqvD.iff, EqvD.iff, T5.mk.injEq]⟩
theorem inD_dec {α : Type} [Enc α] [EqvD α] [DecidableEq α] {x : α} {xs : List α} : inD x xs = decide (x ∈ xs) := by
  rw [Bool.eq_iff_iff, decide_eq_true_iff]
  unfold inD
  rw [List.any_map, List.any_eq_true]
  constructor
  · rintro ⟨y, hy, e⟩
    have e' : PyData.eqv (Enc.d y) (Enc.d x) = true := e
    rw [← (EqvD.iff y x).mp e']
    exact hy
  · intro h
    exact ⟨x, h, (EqvD.iff x x).mpr rfl⟩
theorem inD_true {α : Type} [Enc α] [EqvD α] {x : α} {xs : List α} (h : x ∈ xs) : inD x xs = true := by
  unfold inD
  rw [List.any_map, List.any_eq_true]
  exact ⟨x, h, (EqvD.iff x x).mpr rfl⟩
theorem inD_false {α : Type} [Enc α] [EqvD α] {x : α} {xs : List α} (h : x ∉ xs) : inD x xs = false := by
  unfold inD
  rw [List.any_map, List.any_eq_false]
  intro y hy e
  have e' : PyData.eqv (Enc.d y) (Enc.d x) = true := e
  rw [← (EqvD.iff y x).mp e'] at h
  exact h hy
theorem rangeL_cons (lo : Int) (n : Nat) : rangeL lo (n + 1) = lo :: rangeL (lo + 1) n := rangeL_succ lo n
theorem bind3_some {α β γ δ : Type} {a : α} {b : β} {c : γ} {f : α → β → γ → Option δ} : bind3 (some (a, b, c)) f = f a b c := rfl
theorem bind4_some {α β γ δ ε : Type} {a : α} {b : β} {c : γ} {d : δ} {f : α → β → γ → δ → Option ε} : bind4 (some (a, b, c, d)) f = f a b c d := rfl
theorem erase_perm {α : Type} : ∀ {l : List α} {j : Nat} (h : j < l.length), (l[j] :: l.eraseIdx j).Perm l
  | x :: l, 0, _ => List.Perm.refl _
  | x :: l, j + 1, h => by
    have hj : j < l.length := by rw [List.length_cons] at h; omega
    have ih := erase_perm (l := l) (j := j) hj
    show (l[j] :: x :: l.eraseIdx j).Perm (x :: l)
    exact (List.Perm.swap _ _ _).trans (ih.cons x)
theorem popI_O {α : Type} {xs : List α} {i : Int} {P : α × List α → Prop} (h0 : 0 ≤ i) (h1 : i < xs.length) (h : ∀ j : Nat, ∀ hj : j < xs.length, i = (j : Nat) → P (xs[j], xs.eraseIdx j)) : O1 (popI xs i) P := by
  obtain ⟨n, rfl⟩ := Int.eq_ofNat_of_zero_le h0
  have hn : n < xs.length := by omega
  refine ⟨_, ?_, h n hn rfl⟩
  unfold popI ixN
  rw [if_pos (by omega), if_pos (by omega)]
  show Option.bind (some (Int.toNat (n : Int))) _ = _
  rw [Option.bind_some, Int.toNat_natCast, List.getElem?_eq_getElem hn]
  rfl
theorem mem_erase_idx {α : Type} {xs : List α} {j : Nat} {x : α} (h : x ∈ xs.eraseIdx j) : x ∈ xs := List.eraseIdx_subset h
theorem mem_cutL {α : Type} {xs : List α} {lo hi : Option Int} {x : α} (h : x ∈ cutL xs lo hi) : x ∈ xs := List.mem_of_mem_drop (List.mem_of_mem_take h)
theorem cutL_len {α : Type} (xs : List α) (lo hi : Option Int) : (cutL xs lo hi).length ≤ xs.length := by
  unfold cutL
  rw [List.length_take, List.length_drop]
  omega
theorem cutL_to {α : Type} (xs : List α) (n : Nat) : cutL xs none (some (n : Int)) = xs.take n := by
  unfold cutL
  rw [sIx_n, HT.sIx_nat, List.drop_zero, Nat.sub_zero]
  by_cases h : n ≤ xs.length
  · rw [Nat.min_eq_left h]
  · rw [Nat.min_eq_right (by omega), List.take_length, List.take_of_length_le (by omega)]
theorem cutL_from {α : Type} (xs : List α) (n : Nat) : cutL xs (some (n : Int)) none = xs.drop n := by
  unfold cutL
  rw [sIx_n, HT.sIx_nat]
  by_cases h : n ≤ xs.length
  · rw [Nat.min_eq_left h, List.take_of_length_le (by rw [List.length_drop]; omega)]
  · rw [Nat.min_eq_right (by omega), List.drop_length, List.take_nil, List.drop_of_length_le (by omega)]
theorem cutL_at {α : Type} (xs : List α) (n m : Nat) : cutL xs (some (n : Int)) (some (m : Int)) = (xs.drop n).take (m - n) := by
  unfold cutL
  rw [HT.sIx_nat, HT.sIx_nat]
  by_cases h : n ≤ xs.length
  · rw [Nat.min_eq_left h]
    by_cases h2 : m ≤ xs.length
    · rw [Nat.min_eq_left h2]
    · rw [Nat.min_eq_right (by omega), List.take_of_length_le (by rw [List.length_drop]; omega), List.take_of_length_le (by rw [List.length_drop]; omega)]
  · rw [show min n xs.length = xs.length from Nat.min_eq_right (by omega), List.drop_length, List.take_nil, List.drop_of_length_le (by omega), List.take_nil]
theorem undup_le {α : Type} [DecidableEq α] : ∀ l : List α, (undup l).length ≤ l.length
  | [] => Nat.le_refl _
  | x :: l => by
    have := undup_le l
    unfold undup
    split
    · rw [List.length_cons]; omega
    · rw [List.length_cons, List.length_cons]; omega
theorem undup_lt {α : Type} [DecidableEq α] : ∀ {l : List α}, (undup l).length < l.length ↔ ¬ l.Nodup
  | [] => by simp [undup]
  | x :: l => by
    have h1 := undup_le l
    have h2 := undup_lt (l := l)
    unfold undup
    rw [List.nodup_cons]
    by_cases h : x ∈ l
    · rw [if_pos h, List.length_cons]
      exact ⟨fun _ z => z.1 h, fun _ => by omega⟩
    · rw [if_neg h, List.length_cons, List.length_cons, Nat.add_lt_add_iff_right, h2]
      exact ⟨fun z w => z w.2, fun z w => z ⟨h, w⟩⟩
end G
namespace K22
open PySem PySem.Spec PyProof.Rows L2 TL G
def topS (i : Nat) : Stmt := PySem.Challenge.pw_wishnet_k22_ways_judged.main.body.getD i (.Pass ⟨0, 0, 0, 0⟩)
abbrev s_whole_pairs : Stmt := topS 1
abbrev s_come_to : Stmt := topS 2
abbrev s_stands_along : Stmt := topS 3
abbrev s_step_fault : Stmt := topS 4
abbrev s_way_fault : Stmt := topS 5
abbrev s_l_bag : Stmt := topS 7
abbrev s_l_stirred : Stmt := topS 8
abbrev s_l_draw : Stmt := topS 9
abbrev s_l_alike : Stmt := topS 10
abbrev s_l_liked : Stmt := topS 11
abbrev s_l_town_drawn : Stmt := topS 12
abbrev s_l_torn_drawn : Stmt := topS 13
abbrev s_l_come : Stmt := topS 14
abbrev s_l_spots_of : Stmt := topS 15
abbrev s_l_copied : Stmt := topS 16
abbrev s_l_walked : Stmt := topS 17
abbrev s_l_want_fitting : Stmt := topS 18
abbrev s_l_bent_once : Stmt := topS 19
abbrev s_l_fault_due : Stmt := topS 20
abbrev s_law : Stmt := topS 21
structure Txt (K : PySem.W.Frag) (mg : Str → Option Value) where
  a_whole_pairs : Addr
  d_whole_pairs : FuncData
  F_whole_pairs : FnP K "whole_pairs" s_whole_pairs a_whole_pairs d_whole_pairs
  g_whole_pairs : mg "whole_pairs" = some (.ref a_whole_pairs)
  a_come_to : Addr
  d_come_to : FuncData
  F_come_to : FnP K "come_to" s_come_to a_come_to d_come_to
  g_come_to : mg "come_to" = some (.ref a_come_to)
  a_stands_along : Addr
  d_stands_along : FuncData
  F_stands_along : FnP K "stands_along" s_stands_along a_stands_along d_stands_along
  g_stands_along : mg "stands_along" = some (.ref a_stands_along)
  a_step_fault : Addr
  d_step_fault : FuncData
  F_step_fault : FnP K "step_fault" s_step_fault a_step_fault d_step_fault
  g_step_fault : mg "step_fault" = some (.ref a_step_fault)
  a_way_fault : Addr
  d_way_fault : FuncData
  F_way_fault : FnP K "way_fault" s_way_fault a_way_fault d_way_fault
  g_way_fault : mg "way_fault" = some (.ref a_way_fault)
  a_l_bag : Addr
  d_l_bag : FuncData
  F_l_bag : FnP K "_law_bag" s_l_bag a_l_bag d_l_bag
  g_l_bag : mg "_law_bag" = some (.ref a_l_bag)
  a_l_stirred : Addr
  d_l_stirred : FuncData
  F_l_stirred : FnP K "_law_stirred" s_l_stirred a_l_stirred d_l_stirred
  g_l_stirred : mg "_law_stirred" = some (.ref a_l_stirred)
  a_l_draw : Addr
  d_l_draw : FuncData
  F_l_draw : FnP K "_law_draw" s_l_draw a_l_draw d_l_draw
  g_l_draw : mg "_law_draw" = some (.ref a_l_draw)
  a_l_alike : Addr
  d_l_alike : FuncData
  F_l_alike : FnP K "_law_alike" s_l_alike a_l_alike d_l_alike
  g_l_alike : mg "_law_alike" = some (.ref a_l_alike)
  a_l_liked : Addr
  d_l_liked : FuncData
  F_l_liked : FnP K "_law_liked" s_l_liked a_l_liked d_l_liked
  g_l_liked : mg "_law_liked" = some (.ref a_l_liked)
  a_l_town_drawn : Addr
  d_l_town_drawn : FuncData
  F_l_town_drawn : FnP K "_law_town_drawn" s_l_town_drawn a_l_town_drawn d_l_town_drawn
  g_l_town_drawn : mg "_law_town_drawn" = some (.ref a_l_town_drawn)
  a_l_torn_drawn : Addr
  d_l_torn_drawn : FuncData
  F_l_torn_drawn : FnP K "_law_torn_drawn" s_l_torn_drawn a_l_torn_drawn d_l_torn_drawn
  g_l_torn_drawn : mg "_law_torn_drawn" = some (.ref a_l_torn_drawn)
  a_l_come : Addr
  d_l_come : FuncData
  F_l_come : FnP K "_law_come" s_l_come a_l_come d_l_come
  g_l_come : mg "_law_come" = some (.ref a_l_come)
  a_l_spots_of : Addr
  d_l_spots_of : FuncData
  F_l_spots_of : FnP K "_law_spots_of" s_l_spots_of a_l_spots_of d_l_spots_of
  g_l_spots_of : mg "_law_spots_of" = some (.ref a_l_spots_of)
  a_l_copied : Addr
  d_l_copied : FuncData
  F_l_copied : FnP K "_law_copied" s_l_copied a_l_copied d_l_copied
  g_l_copied : mg "_law_copied" = some (.ref a_l_copied)
  a_l_walked : Addr
  d_l_walked : FuncData
  F_l_walked : FnP K "_law_walked" s_l_walked a_l_walked d_l_walked
  g_l_walked : mg "_law_walked" = some (.ref a_l_walked)
  a_l_want_fitting : Addr
  d_l_want_fitting : FuncData
  F_l_want_fitting : FnP K "_law_want_fitting" s_l_want_fitting a_l_want_fitting d_l_want_fitting
  g_l_want_fitting : mg "_law_want_fitting" = some (.ref a_l_want_fitting)
  a_l_bent_once : Addr
  d_l_bent_once : FuncData
  F_l_bent_once : FnP K "_law_bent_once" s_l_bent_once a_l_bent_once d_l_bent_once
  g_l_bent_once : mg "_law_bent_once" = some (.ref a_l_bent_once)
  a_l_fault_due : Addr
  d_l_fault_due : FuncData
  F_l_fault_due : FnP K "_law_fault_due" s_l_fault_due a_l_fault_due d_l_fault_due
  g_l_fault_due : mg "_law_fault_due" = some (.ref a_l_fault_due)
  a_law : Addr
  d_law : FuncData
  F_law : FnP K "law" s_law a_law d_law
  g_law : mg "law" = some (.ref a_law)
  n_abs : mg "abs" = none
  n_all : mg "all" = none
  n_bool : mg "bool" = none
  n_enumerate : mg "enumerate" = none
  n_int : mg "int" = none
  n_isinstance : mg "isinstance" = none
  n_len : mg "len" = none
  n_list : mg "list" = none
  n_max : mg "max" = none
  n_min : mg "min" = none
  n_range : mg "range" = none
  n_set : mg "set" = none
  n_sorted : mg "sorted" = none
  n_str : mg "str" = none
  n_tuple : mg "tuple" = none
/-! ### the bag, the draws -/
abbrev Bag := G.Bag2
abbrev BagAt := @G.BagAt2
structure BOk (b : Bag) : Prop where
  lo : 0 ≤ b.stir
  hi : b.stir < 2147483648
  len : b.cells.length ≤ 63
abbrev N_l_bag : List Str := ["_law_script", "_law_stir", "_law_cell"]
theorem sc_l_bag : FnScope N_l_bag ["_law_script"] (defScope s_l_bag) := ⟨rfl, rfl, rfl, by decide +kernel, rfl, by decide +kernel, by decide +kernel⟩
def sp_l_bag (K : PySem.W.Frag) : Sp := fun vs H Q _ => ∃ (a : Addr) (ns : List Int), vs = [.ref a] ∧ SqL K H a (ns.map V.int) ∧ ns.length ≤ 63 ∧ (∀ (B C : Addr) (b : Bag) (F H' : Hp), Same F H' → BagAt F H' B C b → BOk b → SqL K H' a (ns.map V.int) → (∀ o, H a = some o → ¬ Bc B C a) → Q (.ref B) H')
def nxt (s c : Int) : Int := (s ^ 3 + 69621 * s + 1031 * c + 1) % 2147483647
def stirN (z c : Int) : Nat → Int × Int × Int
  | 0 => (z, c, 0)
  | n + 1 => (nxt (stirN z c n).1 ((stirN z c n).2.1 + 1), (stirN z c n).2.1 + 1, (stirN z c n).2.2 * 134217728 + nxt (stirN z c n).1 ((stirN z c n).2.1 + 1) / 16)
def m_l_stirred (b : Bag) (n : Int) : Option (Int × Bag) :=
  if (0 < n ∧ Builtin.Int.intBits n < 9000) ∧ (0 ≤ b.stir ∧ b.stir < 2147483648) then
    some ((stirN b.stir b.cnt (1 + Builtin.Int.intBits n / 27)).2.2 % n, { b with stir := (stirN b.stir b.cnt (1 + Builtin.Int.intBits n / 27)).1, cnt := (stirN b.stir b.cnt (1 + Builtin.Int.intBits n / 27)).2.1 })
  else none
def m_l_draw (b : Bag) (n : Int) : Option (Int × Bag) :=
  if (0 < n ∧ n.natAbs.log2 < 9000) ∧ b.cells.length ≤ sizeLine then
    if b.left = 0 then
      match b.cells[b.at_]? with
      | some x => some (x % n, { b with at_ := b.at_ + 1, left := x / n })
      | none => m_l_stirred b n
    else some (b.left % n, { b with left := b.left / n })
  else none
abbrev N_l_stirred : List Str := ["_law_bag_here", "_law_many", "_law_found", "_law_k"]
theorem sc_l_stirred : FnScope N_l_stirred ["_law_bag_here", "_law_many"] (defScope s_l_stirred) := ⟨rfl, rfl, rfl, by decide +kernel, rfl, by decide +kernel, by decide +kernel⟩
def sp_l_stirred (K : PySem.W.Frag) : Sp := fun vs H Q _ => ∃ (F : Hp) (B C : Addr) (b : Bag) (y_many : Int) (r : Int) (b' : Bag), vs = [.ref B, .int y_many] ∧ Same F H ∧ BagAt F H B C b ∧ m_l_stirred b y_many = some (r, b') ∧ (∀ F' H', Gr (Bc B C) F H F' H' → BagAt F' H' B C b' → Q (.int r) H')
abbrev N_l_draw : List Str := ["_law_bag_here", "_law_many", "_law_found"]
theorem sc_l_draw : FnScope N_l_draw ["_law_bag_here", "_law_many"] (defScope s_l_draw) := ⟨rfl, rfl, rfl, by decide +kernel, rfl, by decide +kernel, by decide +kernel⟩
def sp_l_draw (K : PySem.W.Frag) : Sp := fun vs H Q _ => ∃ (F : Hp) (B C : Addr) (b : Bag) (y_many : Int) (r : Int) (b' : Bag), vs = [.ref B, .int y_many] ∧ Same F H ∧ BagAt F H B C b ∧ m_l_draw b y_many = some (r, b') ∧ (∀ F' H', Gr (Bc B C) F H F' H' → BagAt F' H' B C b' → Q (.int r) H')
theorem atI_map {xs : List Int} {k : Nat} {x : Int} (h : xs[k]? = some x) : atI (xs.map V.int) (k : Nat) = some (.int x) := atI_nat (by rw [List.getElem?_map, h]; rfl)
/-! ### alike -/
abbrev N_l_alike : List Str := ["_law_found", "_law_due", "_law_k"]
theorem sc_l_alike : FnScope N_l_alike ["_law_found", "_law_due"] (defScope s_l_alike) := ⟨rfl, rfl, rfl, by decide +kernel, rfl, by decide +kernel, by decide +kernel⟩

/-! ### whole_pairs -/
def m_whole_pairs_c1 (x_broken : (List Int)) : List (Int × (Int × Int)) → List (Int × Int)
  | [] => []
  | e47 :: xs_ => if (!decide (e47.1 ∈ x_broken)) then e47.2 :: m_whole_pairs_c1 x_broken xs_ else m_whole_pairs_c1 x_broken xs_
def m_whole_pairs (x_net : (T4 Int Int (List (Int × Int)) (List Int))) (x_broken : (List Int)) : (List (Int × Int)) :=
  (m_whole_pairs_c1 x_broken (List.zip (rangeL 0 (x_net.c).length) x_net.c))
abbrev N_whole_pairs : List Str := ["net", "broken", "number", "pair"]
theorem sc_whole_pairs : FnScope N_whole_pairs ["net", "broken"] (defScope s_whole_pairs) := ⟨rfl, rfl, rfl, by decide +kernel, rfl, by decide +kernel, by decide +kernel⟩
def sp_whole_pairs (K : PySem.W.Frag) : Sp := fun vs H Q _ => ∃ (F : Hp) (v_x_net : V) (x_net : (T4 Int Int (List (Int × Int)) (List Int))) (p_x_broken : Addr) (ws_x_broken : List V) (x_broken : (List Int)), vs = [v_x_net, .ref p_x_broken] ∧ Same F H ∧ R K F v_x_net x_net ∧ SqL K H p_x_broken ws_x_broken ∧ ws_x_broken.length ≤ sizeLine ∧ RL K F ws_x_broken x_broken ∧ ¬ M0 p_x_broken ∧ (∀ p ws F' H', Gr M0 F H F' H' → H p = none → H' p = some (.lst ws) → F' p = none → ws.length ≤ sizeLine → RL K F' ws (m_whole_pairs x_net x_broken) → Q (.ref p) H')
/-! ### come_to -/
def m_come_to (x_order : (T4 Int (VT Int) (VT Int) (Option Int))) (x_done : Int) (x_house : Int) : Option (Int × Int) :=
  Option.bind (if (decide (x_done < ((((x_order.b).l).length : Nat) : Int))) then (Option.bind (atI (x_order.b).l x_done) fun t23 => some ((eqI t23 x_house))) else some false) fun c18 =>
  if c18 then (some ((x_done + (1 : Int)), x_house)) else (some (x_done, x_house))
abbrev N_come_to : List Str := ["order", "done", "house", "by"]
theorem sc_come_to : FnScope N_come_to ["order", "done", "house"] (defScope s_come_to) := ⟨rfl, rfl, rfl, by decide +kernel, rfl, by decide +kernel, by decide +kernel⟩
def sp_come_to (K : PySem.W.Frag) : Sp := fun vs H Q _ => ∃ (F : Hp) (v_x_order : V) (x_order : (T4 Int (VT Int) (VT Int) (Option Int))) (x_done : Int) (x_house : Int) (r : (Int × Int)), vs = [v_x_order, .int x_done, .int x_house] ∧ Same F H ∧ R K F v_x_order x_order ∧ m_come_to x_order x_done x_house = some r ∧ (∀ v F' H', Gr M0 F H F' H' → R K F' v r → Q v H')
/-! ### stands_along -/
def m_stands_along_l1 (x_order : (T4 Int (VT Int) (VT Int) (Option Int))) : List Int → Int → (List (Int × Int)) → (Option (Int × (List (Int × Int))))
  | [], x_done, x_found => some (x_done, x_found)
  | e29 :: xs_, x_done, x_found =>
    Option.bind (m_come_to x_order x_done e29) fun r32 =>
    Option.bind (appL x_found r32) fun t48 =>
    m_stands_along_l1 x_order xs_ r32.1 t48
def m_stands_along (x_order : (T4 Int (VT Int) (VT Int) (Option Int))) (x_houses : (List Int)) : Option (List (Int × Int)) :=
  Option.bind (some ([] : List (Int × Int))) fun x_found6 =>
  bind2 (m_stands_along_l1 x_order x_houses (0 : Int) x_found6) fun x_done10 x_found11 =>
  some x_found11
abbrev N_stands_along : List Str := ["order", "houses", "found", "done", "house", "stand"]
theorem sc_stands_along : FnScope N_stands_along ["order", "houses"] (defScope s_stands_along) := ⟨rfl, rfl, rfl, by decide +kernel, rfl, by decide +kernel, by decide +kernel⟩
def sp_stands_along (K : PySem.W.Frag) : Sp := fun vs H Q _ => ∃ (F : Hp) (v_x_order : V) (x_order : (T4 Int (VT Int) (VT Int) (Option Int))) (p_x_houses : Addr) (ws_x_houses : List V) (x_houses : (List Int)) (r : (List (Int × Int))), vs = [v_x_order, .ref p_x_houses] ∧ Same F H ∧ R K F v_x_order x_order ∧ SqL K H p_x_houses ws_x_houses ∧ ws_x_houses.length ≤ sizeLine ∧ RL K F ws_x_houses x_houses ∧ ¬ M0 p_x_houses ∧ m_stands_along x_order x_houses = some r ∧ (∀ p ws F' H', Gr M0 F H F' H' → H p = none → H' p = some (.lst ws) → F' p = none → ws.length ≤ sizeLine → RL K F' ws r → Q (.ref p) H')
/-! ### step_fault -/
def m_step_fault_l1 (x_pairs : (List (Int × Int))) (x_order : (T4 Int (VT Int) (VT Int) (Option Int))) (x_houses : (List Int)) : List (Int × Int) → (Option (Lp (Unit) ((Option (Str × Int)))))
  | [] => some (.go ())
  | e16 :: xs_ =>
    if (decide (e16.2 ∈ (x_order.c).l)) then (some (.ret (some (("past" : Str), e16.1)))) else (if (decide ((e16.1 + (1 : Int)) < (((x_houses).length : Nat) : Int))) then (Option.bind (atI x_houses (e16.1 + (1 : Int))) fun t53 =>
 if (!inD ((if t53 < e16.2 then t53 else e16.2), (if t53 > e16.2 then t53 else e16.2)) x_pairs) then (some (.ret (some (("tie" : Str), e16.1)))) else (m_step_fault_l1 x_pairs x_order x_houses xs_ )) else (m_step_fault_l1 x_pairs x_order x_houses xs_ ))
def m_step_fault (x_pairs : (List (Int × Int))) (x_order : (T4 Int (VT Int) (VT Int) (Option Int))) (x_houses : (List Int)) : Option (Option (Str × Int)) :=
  bindL0 (m_step_fault_l1 x_pairs x_order x_houses (List.zip (rangeL 0 (x_houses).length) x_houses) ) (some (none : (Option (Str × Int)))) (fun r_ => some r_)
abbrev N_step_fault : List Str := ["pairs", "order", "houses", "k", "house", "other"]
theorem sc_step_fault : FnScope N_step_fault ["pairs", "order", "houses"] (defScope s_step_fault) := ⟨rfl, rfl, rfl, by decide +kernel, rfl, by decide +kernel, by decide +kernel⟩
def sp_step_fault (K : PySem.W.Frag) : Sp := fun vs H Q _ => ∃ (F : Hp) (p_x_pairs : Addr) (ws_x_pairs : List V) (x_pairs : (List (Int × Int))) (v_x_order : V) (x_order : (T4 Int (VT Int) (VT Int) (Option Int))) (p_x_houses : Addr) (ws_x_houses : List V) (x_houses : (List Int)) (r : (Option (Str × Int))), vs = [.ref p_x_pairs, v_x_order, .ref p_x_houses] ∧ Same F H ∧ SqL K H p_x_pairs ws_x_pairs ∧ ws_x_pairs.length ≤ sizeLine ∧ RL K F ws_x_pairs x_pairs ∧ ¬ M0 p_x_pairs ∧ R K F v_x_order x_order ∧ SqL K H p_x_houses ws_x_houses ∧ ws_x_houses.length ≤ sizeLine ∧ RL K F ws_x_houses x_houses ∧ ¬ M0 p_x_houses ∧ m_step_fault x_pairs x_order x_houses = some r ∧ (∀ v F' H', Gr M0 F H F' H' → R K F' v r → Q v H')
/-! ### way_fault -/
def m_way_fault (x_net : (T4 Int Int (List (Int × Int)) (List Int))) (x_broken : (List Int)) (x_door : Int) (x_order : (T4 Int (VT Int) (VT Int) (Option Int))) (x_houses : (List Int)) : Option (Option ((T1 Str) ⊕ (Str × Int))) :=
  Option.bind (if (eqD x_houses ([] : (List Int))) then some true else (Option.bind (atI x_houses (0 : Int)) fun t13 => Option.bind (atI x_net.e x_door) fun t29 => some ((neI t13 t29)))) fun c8 =>
  if c8 then (some (some (((Sum.inl) (T1.mk ("start" : Str))) : ((T1 Str) ⊕ (Str × Int))))) else (Option.bind (m_step_fault (m_whole_pairs x_net x_broken) x_order x_houses) fun r70 =>
 if (!(r70).isNone) then (some ((r70).map (Sum.inr : (Str × Int) → ((T1 Str) ⊕ (Str × Int))))) else (Option.bind (if (!(x_order.e).isNone) then (Option.bind (x_order.e) fun t97 => some ((decide (t97 < ((((x_houses).length : Nat) : Int) - (1 : Int)))))) else some false) fun c92 =>
 if c92 then (some (some (((Sum.inl) (T1.mk ("most" : Str))) : ((T1 Str) ⊕ (Str × Int))))) else (Option.bind (atI x_houses (-(1 : Int))) fun t117 =>
 Option.bind (atI x_net.e x_order.a) fun t133 =>
 if (neI t117 t133) then (some (some (((Sum.inl) (T1.mk ("goal" : Str))) : ((T1 Str) ⊕ (Str × Int))))) else (Option.bind (m_stands_along x_order x_houses) fun r154 =>
 Option.bind (atI r154 (-(1 : Int))) fun t173 =>
 if (decide (t173.1 < ((((x_order.b).l).length : Nat) : Int))) then (some (some (((Sum.inl) (T1.mk ("by" : Str))) : ((T1 Str) ⊕ (Str × Int))))) else (Option.bind (lsetT r154) fun t203 =>
 some (((if (decide (t203 < (((r154).length : Nat) : Int))) then (some (T1.mk ("twice" : Str))) else (none : (Option (T1 Str))))).map (Sum.inl : (T1 Str) → ((T1 Str) ⊕ (Str × Int)))))))))
abbrev N_way_fault : List Str := ["net", "broken", "door", "order", "houses", "found", "stands"]
theorem sc_way_fault : FnScope N_way_fault ["net", "broken", "door", "order", "houses"] (defScope s_way_fault) := ⟨rfl, rfl, rfl, by decide +kernel, rfl, by decide +kernel, by decide +kernel⟩
def sp_way_fault (K : PySem.W.Frag) : Sp := fun vs H Q _ => ∃ (F : Hp) (v_x_net : V) (x_net : (T4 Int Int (List (Int × Int)) (List Int))) (p_x_broken : Addr) (ws_x_broken : List V) (x_broken : (List Int)) (x_door : Int) (v_x_order : V) (x_order : (T4 Int (VT Int) (VT Int) (Option Int))) (p_x_houses : Addr) (ws_x_houses : List V) (x_houses : (List Int)) (r : (Option ((T1 Str) ⊕ (Str × Int)))), vs = [v_x_net, .ref p_x_broken, .int x_door, v_x_order, .ref p_x_houses] ∧ Same F H ∧ R K F v_x_net x_net ∧ SqL K H p_x_broken ws_x_broken ∧ ws_x_broken.length ≤ sizeLine ∧ RL K F ws_x_broken x_broken ∧ ¬ M0 p_x_broken ∧ R K F v_x_order x_order ∧ SqL K H p_x_houses ws_x_houses ∧ ws_x_houses.length ≤ sizeLine ∧ RL K F ws_x_houses x_houses ∧ ¬ M0 p_x_houses ∧ m_way_fault x_net x_broken x_door x_order x_houses = some r ∧ (∀ v F' H', Gr M0 F H F' H' → R K F' v r → Q v H')
/-! ### l_liked -/
def m_l_liked (y_style : Int) (y_pair : (Int × Int)) (y_homes : Int) : Option Bool :=
  Option.bind (some (y_pair.2 - y_pair.1)) fun y_apart8 =>
  if (eqI y_style (1 : Int)) then (some (eqI y_apart8 (1 : Int))) else (if (eqI y_style (2 : Int)) then (some (decide (y_apart8 ∈ ([(1 : Int), (y_homes - (1 : Int))] : List Int)))) else (some ((eqI y_style (3 : Int)) && ((eqI y_apart8 (4 : Int)) || ((eqI y_apart8 (1 : Int)) && (decide ((0 : Int) < (y_pair.2 % (4 : Int)))))))))
abbrev N_l_liked : List Str := ["_law_style", "_law_pair", "_law_homes", "_law_apart"]
theorem sc_l_liked : FnScope N_l_liked ["_law_style", "_law_pair", "_law_homes"] (defScope s_l_liked) := ⟨rfl, rfl, rfl, by decide +kernel, rfl, by decide +kernel, by decide +kernel⟩
def sp_l_liked (K : PySem.W.Frag) : Sp := fun vs H Q _ => ∃ (y_style : Int) (v_y_pair : V) (y_pair : (Int × Int)) (y_homes : Int) (r : Bool), vs = [.int y_style, v_y_pair, .int y_homes] ∧ R K H v_y_pair y_pair ∧ m_l_liked y_style y_pair y_homes = some r ∧ (∀ F' H', Gr M0 H H F' H' → Q (.bl r) H')
/-! ### l_town_drawn -/
def m_l_town_drawn_c1 (y_homes : Int) : List Int → Option (List (Int × Int))
  | [] => some []
  | e84 :: xs_ =>
    Option.bind (divI e84 y_homes) fun t86 =>
    Option.bind (modI e84 y_homes) fun t89 =>
    if (decide (t86 < t89)) then (Option.bind (divI e84 y_homes) fun t92 => Option.bind (modI e84 y_homes) fun t95 => Option.bind (m_l_town_drawn_c1 y_homes xs_) fun rest110 => some ((t92, t95) :: rest110)) else m_l_town_drawn_c1 y_homes xs_
def m_l_town_drawn_c2 (y_homes : Int) (y_style : Int) : List (Int × Int) → Option (List (Int × Int))
  | [] => some []
  | e176 :: xs_ =>
    Option.bind (m_l_liked y_style e176 y_homes) fun r179 =>
    if r179 then (Option.bind (m_l_town_drawn_c2 y_homes y_style xs_) fun rest191 => some (e176 :: rest191)) else m_l_town_drawn_c2 y_homes y_style xs_
def m_l_town_drawn_c3 (y_some : (List (Int × Int))) : List (Int × Int) → List (Int × Int)
  | [] => []
  | e258 :: xs_ => if (!inD e258 y_some) then e258 :: m_l_town_drawn_c3 y_some xs_ else m_l_town_drawn_c3 y_some xs_
def m_l_town_drawn_l4  : List Int → (List (Int × Int)) → (List (Int × Int)) → Bag → (Option ((List (Int × Int)) × (List (Int × Int)) × Bag))
  | [], y_some, y_left, b => some (y_some, y_left, b)
  | e331 :: xs_, y_some, y_left, b =>
    bind2 (m_l_draw b (((y_left).length : Nat) : Int)) fun r333 b334 =>
    bind2 (popI y_left r333) fun t344 y_left345 =>
    Option.bind (appL y_some t344) fun t359 =>
    m_l_town_drawn_l4  xs_ t359 y_left345 b334
def m_l_town_drawn_c5  : List Int → (List (Int × Int)) → Bag → Option (List (Int × Int) × (List (Int × Int)) × Bag)
  | [], y_some, b => some ([], y_some, b)
  | e427 :: xs_, y_some, b =>
    bind2 (m_l_draw b (((y_some).length : Nat) : Int)) fun r429 b430 =>
    bind2 (popI y_some r429) fun t441 y_some442 =>
    bind3 (m_l_town_drawn_c5  xs_ y_some442 b430) fun rest458 y_some459 b460 => some (t441 :: rest458, y_some459, b460)
def m_l_town_drawn_c6 (y_homes : Int) : List Int → Bag → Option (List Int × Bag)
  | [], b => some ([], b)
  | e538 :: xs_, b =>
    bind2 (m_l_draw b y_homes) fun r540 b541 =>
    bind2 (m_l_town_drawn_c6 y_homes xs_ b541) fun rest554 b555 => some (r540 :: rest554, b555)
def m_l_town_drawn (b : Bag)  : Option ((T4 Int Int (List (Int × Int)) (List Int)) × Bag) :=
  bind2 (m_l_draw b (4 : Int)) fun r1 b2 =>
  bind2 (m_l_draw b2 (12 : Int)) fun r10 b11 =>
  bind2 (m_l_draw b11 (3 : Int)) fun r26 b27 =>
  Option.bind (atI ([((1 : Int) + r1), ((1 : Int) + r10), (12 : Int)] : List Int) r26) fun t36 =>
  bind2 (m_l_draw b27 (4 : Int)) fun r41 b42 =>
  Option.bind (mulI t36 t36) fun t51 =>
  Option.bind (rangeO1 t51) fun l54 =>
  Option.bind (m_l_town_drawn_c1 t36 l54) fun l65 =>
  Option.bind (m_l_town_drawn_c2 t36 r41 l65) fun l142 =>
  Option.bind (some (m_l_town_drawn_c3 l142 l65)) fun y_left286 =>
  bind2 (m_l_draw b42 ((21 : Int) - (((l142).length : Nat) : Int))) fun r290 b291 =>
  Option.bind (rangeO1 (if r290 < (((y_left286).length : Nat) : Int) then r290 else (((y_left286).length : Nat) : Int))) fun l303 =>
  bind3 (m_l_town_drawn_l4  l303 l142 y_left286 b291) fun y_some306 y_left307 b308 =>
  Option.bind (rangeO1 (((y_some306).length : Nat) : Int)) fun l387 =>
  bind3 (m_l_town_drawn_c5  l387 y_some306 b308) fun l400 y_some402 b401 =>
  bind2 (m_l_draw b401 (8 : Int)) fun r488 b489 =>
  Option.bind (rangeO1 ((1 : Int) + r488)) fun l500 =>
  bind2 (m_l_town_drawn_c6 t36 l500 b489) fun l515 b516 =>
  bind2 (m_l_draw b516 (30 : Int)) fun r581 b582 =>
  some ((T4.mk ((1 : Int) + r581) t36 l400 l515), b582)
abbrev N_l_town_drawn : List Str := ["_law_bag_here", "_law_homes", "_law_style", "_law_pairs", "_law_some", "_law_left", "_law_k", "_law_ties", "_law_doors", "_law_pair"]
theorem sc_l_town_drawn : FnScope N_l_town_drawn ["_law_bag_here"] (defScope s_l_town_drawn) := ⟨rfl, rfl, rfl, by decide +kernel, rfl, by decide +kernel, by decide +kernel⟩
def sp_l_town_drawn (K : PySem.W.Frag) : Sp := fun vs H Q _ => ∃ (F : Hp) (B C : Addr) (b : Bag) (r : (T4 Int Int (List (Int × Int)) (List Int))) (b' : Bag), vs = [.ref B] ∧ Same F H ∧ BagAt F H B C b ∧ m_l_town_drawn b  = some (r, b') ∧ (∀ v F' H', Gr (Bc B C) F H F' H' → BagAt F' H' B C b' → R K F' v r → Q v H')
/-! ### l_torn_drawn -/
def m_l_torn_drawn_c1 (y_often : Int) : List Int → Bag → Option (List Int × Bag)
  | [], b => some ([], b)
  | e72 :: xs_, b =>
    bind2 (if (decide ((0 : Int) < y_often)) then (bind2 (m_l_draw b y_often) fun r79 b80 => some ((eqI r79 (0 : Int)), b80)) else some (false, b)) fun c74 b76 =>
    if c74 then (bind2 (m_l_torn_drawn_c1 y_often xs_ b76) fun rest99 b100 => some (e72 :: rest99, b100)) else m_l_torn_drawn_c1 y_often xs_ b76
def m_l_torn_drawn (b : Bag) (y_town : (T4 Int Int (List (Int × Int)) (List Int))) : Option ((List Int) × Bag) :=
  bind2 (m_l_draw b (4 : Int)) fun r8 b9 =>
  Option.bind (atI ([(0 : Int), (0 : Int), (8 : Int), (3 : Int)] : List Int) r8) fun t18 =>
  Option.bind (rangeO1 (((y_town.c).length : Nat) : Int)) fun l40 =>
  bind2 (m_l_torn_drawn_c1 t18 l40 b9) fun l51 b52 =>
  some (l51, b52)
abbrev N_l_torn_drawn : List Str := ["_law_bag_here", "_law_town", "_law_often", "_law_k"]
theorem sc_l_torn_drawn : FnScope N_l_torn_drawn ["_law_bag_here", "_law_town"] (defScope s_l_torn_drawn) := ⟨rfl, rfl, rfl, by decide +kernel, rfl, by decide +kernel, by decide +kernel⟩
def sp_l_torn_drawn (K : PySem.W.Frag) : Sp := fun vs H Q _ => ∃ (F : Hp) (B C : Addr) (b : Bag) (v_y_town : V) (y_town : (T4 Int Int (List (Int × Int)) (List Int))) (r : (List Int)) (b' : Bag), vs = [.ref B, v_y_town] ∧ Same F H ∧ BagAt F H B C b ∧ R K F v_y_town y_town ∧ m_l_torn_drawn b y_town = some (r, b') ∧ (∀ p ws F' H', Gr (Bc B C) F H F' H' → BagAt F' H' B C b' → H p = none → H' p = some (.lst ws) → F' p = none → ws.length ≤ sizeLine → RL K F' ws r → Q (.ref p) H')
/-! ### l_come -/
def m_l_come (y_want : (T4 Int (VT Int) (VT Int) (Option Int))) (y_done : Int) (y_house : Int) : (Int × Int) :=
  ((y_done + (toI (eqD (VT.mk (cutL (y_want.b).l (some y_done) (some (y_done + (1 : Int))))) (VT.mk [(T1.mk y_house).a] : (VT Int))))), y_house)
abbrev N_l_come : List Str := ["_law_want", "_law_done", "_law_house"]
theorem sc_l_come : FnScope N_l_come ["_law_want", "_law_done", "_law_house"] (defScope s_l_come) := ⟨rfl, rfl, rfl, by decide +kernel, rfl, by decide +kernel, by decide +kernel⟩
def sp_l_come (K : PySem.W.Frag) : Sp := fun vs H Q _ => ∃ (F : Hp) (v_y_want : V) (y_want : (T4 Int (VT Int) (VT Int) (Option Int))) (y_done : Int) (y_house : Int), vs = [v_y_want, .int y_done, .int y_house] ∧ Same F H ∧ R K F v_y_want y_want ∧ (∀ v F' H', Gr M0 F H F' H' → R K F' v (m_l_come y_want y_done y_house) → Q v H')
/-! ### l_spots_of -/
def m_l_spots_of_l1 (y_want : (T4 Int (VT Int) (VT Int) (Option Int))) : List Int → Int → (List (Int × Int)) → (Option (Int × (List (Int × Int))))
  | [], y_done, y_found => some (y_done, y_found)
  | e28 :: xs_, y_done, y_found =>
    Option.bind (appL y_found (m_l_come y_want y_done e28)) fun t39 =>
    Option.bind (atI t39 (-(1 : Int))) fun t46 =>
    m_l_spots_of_l1 y_want xs_ t46.1 t39
def m_l_spots_of (y_want : (T4 Int (VT Int) (VT Int) (Option Int))) (y_homes : (List Int)) : Option (List (Int × Int)) :=
  Option.bind (some ([] : List (Int × Int))) fun y_found6 =>
  bind2 (m_l_spots_of_l1 y_want y_homes (0 : Int) y_found6) fun y_done10 y_found11 =>
  some y_found11
abbrev N_l_spots_of : List Str := ["_law_want", "_law_homes", "_law_found", "_law_done", "_law_house"]
theorem sc_l_spots_of : FnScope N_l_spots_of ["_law_want", "_law_homes"] (defScope s_l_spots_of) := ⟨rfl, rfl, rfl, by decide +kernel, rfl, by decide +kernel, by decide +kernel⟩
def sp_l_spots_of (K : PySem.W.Frag) : Sp := fun vs H Q _ => ∃ (F : Hp) (v_y_want : V) (y_want : (T4 Int (VT Int) (VT Int) (Option Int))) (p_y_homes : Addr) (ws_y_homes : List V) (y_homes : (List Int)) (r : (List (Int × Int))), vs = [v_y_want, .ref p_y_homes] ∧ Same F H ∧ R K F v_y_want y_want ∧ SqL K H p_y_homes ws_y_homes ∧ ws_y_homes.length ≤ sizeLine ∧ RL K F ws_y_homes y_homes ∧ ¬ M0 p_y_homes ∧ m_l_spots_of y_want y_homes = some r ∧ (∀ p ws F' H', Gr M0 F H F' H' → H p = none → H' p = some (.lst ws) → F' p = none → ws.length ≤ sizeLine → RL K F' ws r → Q (.ref p) H')
/-! ### l_copied -/
def m_l_copied (y_town : (T4 Int Int (List (Int × Int)) (List Int))) : (T4 Int Int (List (Int × Int)) (List Int)) :=
  (T4.mk y_town.a y_town.b y_town.c y_town.e)
abbrev N_l_copied : List Str := ["_law_town"]
theorem sc_l_copied : FnScope N_l_copied ["_law_town"] (defScope s_l_copied) := ⟨rfl, rfl, rfl, by decide +kernel, rfl, by decide +kernel, by decide +kernel⟩
def sp_l_copied (K : PySem.W.Frag) : Sp := fun vs H Q _ => ∃ (F : Hp) (v_y_town : V) (y_town : (T4 Int Int (List (Int × Int)) (List Int))), vs = [v_y_town] ∧ Same F H ∧ R K F v_y_town y_town ∧ (∀ v F' H', Gr M0 F H F' H' → R K F' v (m_l_copied y_town) → Q v H')
/-! ### l_walked -/
def m_l_walked_c2 (y_town : (T4 Int Int (List (Int × Int)) (List Int))) (y_found : (List Int)) : List Int → Option (List Int)
  | [] => some []
  | e123 :: xs_ =>
    Option.bind (atI y_found (-(1 : Int))) fun t125 =>
    Option.bind (atI y_found (-(1 : Int))) fun t130 =>
    if (inD ((if t125 < e123 then t125 else e123), (if t130 > e123 then t130 else e123)) y_town.c) then (Option.bind (m_l_walked_c2 y_town y_found xs_) fun rest149 => some (e123 :: rest149)) else m_l_walked_c2 y_town y_found xs_
def m_l_walked_l1 (y_town : (T4 Int Int (List (Int × Int)) (List Int))) : List Int → (List Int) → Bag → (Option ((List Int) × Bag))
  | [], y_found, b => some (y_found, b)
  | e91 :: xs_, y_found, b =>
    Option.bind (rangeO1 y_town.b) fun l93 =>
    Option.bind (m_l_walked_c2 y_town y_found l93) fun l104 =>
    if (!eqD l104 ([] : (List Int))) then (bind2 (m_l_draw b (((l104).length : Nat) : Int)) fun r184 b185 =>
 Option.bind (atI l104 r184) fun t196 =>
 Option.bind (appL y_found t196) fun t201 =>
 m_l_walked_l1 y_town xs_ t201 b185) else (m_l_walked_l1 y_town xs_ y_found b)
def m_l_walked (b : Bag) (y_town : (T4 Int Int (List (Int × Int)) (List Int))) : Option ((List Int) × Bag) :=
  bind2 (m_l_draw b y_town.b) fun r12 b13 =>
  Option.bind (some ([r12] : List Int)) fun y_found28 =>
  bind2 (m_l_draw b13 (3 : Int)) fun r41 b42 =>
  Option.bind (atI ([(3 : Int), (8 : Int), (20 : Int)] : List Int) r41) fun t52 =>
  bind2 (m_l_draw b42 t52) fun r57 b58 =>
  Option.bind (rangeO1 r57) fun l68 =>
  bind2 (m_l_walked_l1 y_town l68 y_found28 b58) fun y_found71 b72 =>
  some (y_found71, b72)
abbrev N_l_walked : List Str := ["_law_bag_here", "_law_town", "_law_found", "_law_k", "_law_near", "_law_one"]
theorem sc_l_walked : FnScope N_l_walked ["_law_bag_here", "_law_town"] (defScope s_l_walked) := ⟨rfl, rfl, rfl, by decide +kernel, rfl, by decide +kernel, by decide +kernel⟩
def sp_l_walked (K : PySem.W.Frag) : Sp := fun vs H Q _ => ∃ (F : Hp) (B C : Addr) (b : Bag) (v_y_town : V) (y_town : (T4 Int Int (List (Int × Int)) (List Int))) (r : (List Int)) (b' : Bag), vs = [.ref B, v_y_town] ∧ Same F H ∧ BagAt F H B C b ∧ R K F v_y_town y_town ∧ m_l_walked b y_town = some (r, b') ∧ (∀ p ws F' H', Gr (Bc B C) F H F' H' → BagAt F' H' B C b' → H p = none → H' p = some (.lst ws) → F' p = none → ws.length ≤ sizeLine → RL K F' ws r → Q (.ref p) H')
/-! ### l_want_fitting -/
def m_l_want_fitting_c2  : List Int → Bag → Option (List Int × Bag)
  | [], b => some ([], b)
  | e51 :: xs_, b =>
    bind2 (m_l_draw b (4 : Int)) fun r54 b55 =>
    if (eqI r54 (0 : Int)) then (bind2 (m_l_want_fitting_c2  xs_ b55) fun rest66 b67 => some (e51 :: rest66, b67)) else m_l_want_fitting_c2  xs_ b55
def m_l_want_fitting_l1  : List Int → (List Int) → (Option ((List Int)))
  | [], y_by => some y_by
  | e107 :: xs_, y_by =>
    Option.bind (if (decide ((((y_by).length : Nat) : Int) < (3 : Int))) then (Option.bind (if (eqD y_by ([] : (List Int))) then some true else (Option.bind (atI y_by (-(1 : Int))) fun t134 => some ((neI t134 e107)))) fun c129 => some (c129)) else some false) fun c110 =>
    if c110 then (Option.bind (appL y_by e107) fun t157 =>
 m_l_want_fitting_l1  xs_ t157) else (m_l_want_fitting_l1  xs_ y_by)
def m_l_want_fitting_c3 (y_homes : (List Int)) : List Int → Bag → Option (List Int × Bag)
  | [], b => some ([], b)
  | e268 :: xs_, b =>
    bind2 (if (!decide (e268 ∈ y_homes)) then (bind2 (m_l_draw b (3 : Int)) fun r275 b276 => some ((eqI r275 (0 : Int)), b276)) else some (false, b)) fun c270 b272 =>
    if c270 then (bind2 (m_l_want_fitting_c3 y_homes xs_ b272) fun rest293 b294 => some (e268 :: rest293, b294)) else m_l_want_fitting_c3 y_homes xs_ b272
def m_l_want_fitting (b : Bag) (y_town : (T4 Int Int (List (Int × Int)) (List Int))) (y_homes : (List Int)) : Option ((T4 Int (VT Int) (VT Int) (Option Int)) × Bag) :=
  bind2 (m_l_want_fitting_c2  y_homes b) fun l16 b17 =>
  Option.bind (m_l_want_fitting_l1  l16 ([] : List Int)) fun y_by89 =>
  bind2 (bind2 (m_l_draw b17 (6 : Int)) fun r183 b184 => if (eqI r183 (0 : Int)) then (some ((y_by89.reverse), b184)) else (some (y_by89, b184))) fun y_by180 b181 =>
  Option.bind (rangeO1 y_town.b) fun l239 =>
  bind2 (m_l_want_fitting_c3 y_homes l239 b181) fun l248 b249 =>
  Option.bind (some (cutL l248 none (some (3 : Int)))) fun y_past323 =>
  bind2 (bind2 (m_l_draw b249 (8 : Int)) fun r330 b331 => if (eqI r330 (0 : Int)) then (bind2 (m_l_draw b331 (((y_homes).length : Nat) : Int)) fun r352 b353 =>
 Option.bind (atI y_homes r352) fun t364 =>
 Option.bind (conL (cutL y_past323 none (some (2 : Int))) ([t364] : List Int)) fun t382 =>
 Option.bind (ssetO t382) fun t402 =>
 some (t402, b353)) else (some (y_past323, b331))) fun y_past327 b328 =>
  bind2 (m_l_draw b328 (5 : Int)) fun r460 b461 =>
  Option.bind (atI ([(none : (Option Int)), (some ((((y_homes).length : Nat) : Int) - (1 : Int))), (some (if ((((y_homes).length : Nat) : Int) - (2 : Int)) > (0 : Int) then ((((y_homes).length : Nat) : Int) - (2 : Int)) else (0 : Int))), (some (((y_homes).length : Nat) : Int)), (some (40 : Int))] : List (Option Int)) r460) fun t470 =>
  some ((T4.mk ((((y_town.e).length : Nat) : Int) - (1 : Int)) (VT.mk y_by180) (VT.mk y_past327) t470), b461)
abbrev N_l_want_fitting : List Str := ["_law_bag_here", "_law_town", "_law_homes", "_law_by", "_law_house", "_law_past", "_law_most", "_law_one"]
theorem sc_l_want_fitting : FnScope N_l_want_fitting ["_law_bag_here", "_law_town", "_law_homes"] (defScope s_l_want_fitting) := ⟨rfl, rfl, rfl, by decide +kernel, rfl, by decide +kernel, by decide +kernel⟩
def sp_l_want_fitting (K : PySem.W.Frag) : Sp := fun vs H Q _ => ∃ (F : Hp) (B C : Addr) (b : Bag) (v_y_town : V) (y_town : (T4 Int Int (List (Int × Int)) (List Int))) (p_y_homes : Addr) (ws_y_homes : List V) (y_homes : (List Int)) (r : (T4 Int (VT Int) (VT Int) (Option Int))) (b' : Bag), vs = [.ref B, v_y_town, .ref p_y_homes] ∧ Same F H ∧ BagAt F H B C b ∧ R K F v_y_town y_town ∧ SqL K H p_y_homes ws_y_homes ∧ ws_y_homes.length ≤ sizeLine ∧ RL K F ws_y_homes y_homes ∧ (∀ F' H', Gr (Bc B C) F H F' H' → SqL K H' p_y_homes ws_y_homes) ∧ m_l_want_fitting b y_town y_homes = some (r, b') ∧ (∀ v F' H', Gr (Bc B C) F H F' H' → BagAt F' H' B C b' → R K F' v r → Q v H')
/-! ### l_bent_once -/
def m_l_bent_once (b : Bag) (y_town : (T4 Int Int (List (Int × Int)) (List Int))) (y_homes : (List Int)) : Option ((List Int) × Bag) :=
  bind2 (m_l_draw b ((((y_homes).length : Nat) : Int) + (1 : Int))) fun r1 b2 =>
  bind2 (m_l_draw b2 y_town.b) fun r21 b22 =>
  bind2 (m_l_draw b22 y_town.b) fun r30 b31 =>
  bind2 (m_l_draw b31 (6 : Int)) fun r46 b47 =>
  Option.bind (atI ([r21, r30, (-(1 : Int)), y_town.b, ((10 : Int) ^ (19 : Int).toNat), ((0 : Int) - ((10 : Int) ^ (19 : Int).toNat))] : List Int) r46) fun t56 =>
  bind2 (m_l_draw b47 (8 : Int)) fun r61 b62 =>
  if (eqI r61 (0 : Int)) then (Option.bind (conL (cutL y_homes none (some r1)) ([t56] : List Int)) fun t91 =>
 Option.bind (conL t91 (cutL y_homes (some r1) none)) fun t124 =>
 some (t124, b62)) else (if (eqI r61 (1 : Int)) then (Option.bind (conL (cutL y_homes none (some r1)) (cutL y_homes (some (r1 + (1 : Int))) none)) fun t166 =>
 some (t166, b62)) else (if (eqI r61 (2 : Int)) then (bind2 (m_l_draw b62 (5 : Int)) fun r193 b194 =>
 Option.bind (conL (cutL y_homes none (some r1)) (cutL y_homes (some (if (r1 - r193) > (0 : Int) then (r1 - r193) else (0 : Int))) none)) fun t215 =>
 some (t215, b194)) else (if (eqI r61 (3 : Int)) then (some ((y_homes.reverse), b62)) else (if (eqI r61 (4 : Int)) then (Option.bind (conL (cutL y_homes none (some r1)) (cutL y_homes (some (r1 + (2 : Int))) none)) fun t262 =>
 some (t262, b62)) else (if (eqI r61 (5 : Int)) then (some ((cutL y_homes none (some r1)), b62)) else (Option.bind (repL ([t56] : List Int) (toI (decide (r1 < (((y_homes).length : Nat) : Int))))) fun t309 =>
 Option.bind (conL (cutL y_homes none (some r1)) t309) fun t326 =>
 Option.bind (conL t326 (cutL y_homes (some (r1 + (1 : Int))) none)) fun t363 =>
 some (t363, b62)))))))
abbrev N_l_bent_once : List Str := ["_law_bag_here", "_law_town", "_law_homes", "_law_at", "_law_one", "_law_how"]
theorem sc_l_bent_once : FnScope N_l_bent_once ["_law_bag_here", "_law_town", "_law_homes"] (defScope s_l_bent_once) := ⟨rfl, rfl, rfl, by decide +kernel, rfl, by decide +kernel, by decide +kernel⟩
def sp_l_bent_once (K : PySem.W.Frag) : Sp := fun vs H Q _ => ∃ (F : Hp) (B C : Addr) (b : Bag) (v_y_town : V) (y_town : (T4 Int Int (List (Int × Int)) (List Int))) (p_y_homes : Addr) (ws_y_homes : List V) (y_homes : (List Int)) (r : (List Int)) (b' : Bag), vs = [.ref B, v_y_town, .ref p_y_homes] ∧ Same F H ∧ BagAt F H B C b ∧ R K F v_y_town y_town ∧ SqL K H p_y_homes ws_y_homes ∧ ws_y_homes.length ≤ sizeLine ∧ RL K F ws_y_homes y_homes ∧ (∀ F' H', Gr (Bc B C) F H F' H' → SqL K H' p_y_homes ws_y_homes) ∧ m_l_bent_once b y_town y_homes = some (r, b') ∧ (∀ p ws F' H', Gr (Bc B C) F H F' H' → BagAt F' H' B C b' → H p = none → H' p = some (.lst ws) → F' p = none → ws.length ≤ sizeLine → RL K F' ws r → Q (.ref p) H')
/-! ### l_fault_due -/
def m_l_fault_due_c1 (y_town : (T4 Int Int (List (Int × Int)) (List Int))) (y_torn : (List Int)) : List Int → Option (List (Int × Int))
  | [] => some []
  | e98 :: xs_ =>
    if (!decide (e98 ∈ y_torn)) then (Option.bind (atI y_town.c e98) fun t100 => Option.bind (m_l_fault_due_c1 y_town y_torn xs_) fun rest106 => some (t100 :: rest106)) else m_l_fault_due_c1 y_town y_torn xs_
def m_l_fault_due_l2 (y_want : (T4 Int (VT Int) (VT Int) (Option Int))) (y_homes : (List Int)) (y_whole : (List (Int × Int))) : List Int → (Option (Lp (Unit) ((Option ((T1 Str) ⊕ (Str × Int))))))
  | [] => some (.go ())
  | e141 :: xs_ =>
    Option.bind (atI y_homes e141) fun t143 =>
    if (decide (t143 ∈ (y_want.c).l)) then (some (.ret (some (((Sum.inr) (("past" : Str), e141)) : ((T1 Str) ⊕ (Str × Int)))))) else (Option.bind (if (decide ((e141 + (1 : Int)) < (((y_homes).length : Nat) : Int))) then (Option.bind (minO (cutL y_homes (some e141) (some (e141 + (2 : Int))))) fun t186 => Option.bind (maxO (cutL y_homes (some e141) (some (e141 + (2 : Int))))) fun t201 => some ((!inD (t186, t201) y_whole))) else some false) fun c173 =>
 if c173 then (some (.ret (some (((Sum.inr) (("tie" : Str), e141)) : ((T1 Str) ⊕ (Str × Int)))))) else (m_l_fault_due_l2 y_want y_homes y_whole xs_ ))
def m_l_fault_due_c3 (y_spots : (List (Int × Int))) : List Int → Option (List Int)
  | [] => some []
  | e374 :: xs_ =>
    Option.bind (atI y_spots e374) fun t376 =>
    if (inD t376 (cutL y_spots none (some e374))) then (Option.bind (m_l_fault_due_c3 y_spots xs_) fun rest395 => some (e374 :: rest395)) else m_l_fault_due_c3 y_spots xs_
def m_l_fault_due (y_town : (T4 Int Int (List (Int × Int)) (List Int))) (y_torn : (List Int)) (y_gate : Int) (y_want : (T4 Int (VT Int) (VT Int) (Option Int))) (y_homes : (List Int)) : Option (Option ((T1 Str) ⊕ (Str × Int))) :=
  Option.bind (if (eqD y_homes ([] : (List Int))) then some true else (Option.bind (atI y_homes (0 : Int)) fun t13 => Option.bind (atI y_town.e y_gate) fun t29 => some ((neI t13 t29)))) fun c8 =>
  if c8 then (some (some (((Sum.inl) (T1.mk ("start" : Str))) : ((T1 Str) ⊕ (Str × Int))))) else (Option.bind (rangeO1 (((y_town.c).length : Nat) : Int)) fun l71 =>
 Option.bind (m_l_fault_due_c1 y_town y_torn l71) fun l80 =>
 Option.bind (rangeO1 (((y_homes).length : Nat) : Int)) fun l126 =>
 bindL0 (m_l_fault_due_l2 y_want y_homes l80 l126 ) (Option.bind (if (!(y_want.e).isNone) then (Option.bind (y_want.e) fun t258 => some ((decide (t258 < ((((y_homes).length : Nat) : Int) - (1 : Int)))))) else some false) fun c253 =>
 if c253 then (some (some (((Sum.inl) (T1.mk ("most" : Str))) : ((T1 Str) ⊕ (Str × Int))))) else (Option.bind (atI y_homes (-(1 : Int))) fun t275 =>
 Option.bind (atI y_town.e y_want.a) fun t280 =>
 if (neI t275 t280) then (some (some (((Sum.inl) (T1.mk ("goal" : Str))) : ((T1 Str) ⊕ (Str × Int))))) else (Option.bind (m_l_spots_of y_want y_homes) fun r299 =>
 Option.bind (atI r299 (-(1 : Int))) fun t316 =>
 if (decide (t316.1 < ((((y_want.b).l).length : Nat) : Int))) then (some (some (((Sum.inl) (T1.mk ("by" : Str))) : ((T1 Str) ⊕ (Str × Int))))) else (Option.bind (rangeO1 (((r299).length : Nat) : Int)) fun l344 =>
 Option.bind (m_l_fault_due_c3 r299 l344) fun l355 =>
 some (((if (eqD l355 ([] : (List Int))) then (none : (Option (T1 Str))) else (some (T1.mk ("twice" : Str))))).map (Sum.inl : (T1 Str) → ((T1 Str) ⊕ (Str × Int)))))))) (fun r_ => some r_))
abbrev N_l_fault_due : List Str := ["_law_town", "_law_torn", "_law_gate", "_law_want", "_law_homes", "_law_whole", "_law_k", "_law_spots", "_law_again"]
theorem sc_l_fault_due : FnScope N_l_fault_due ["_law_town", "_law_torn", "_law_gate", "_law_want", "_law_homes"] (defScope s_l_fault_due) := ⟨rfl, rfl, rfl, by decide +kernel, rfl, by decide +kernel, by decide +kernel⟩
def sp_l_fault_due (K : PySem.W.Frag) : Sp := fun vs H Q _ => ∃ (F : Hp) (v_y_town : V) (y_town : (T4 Int Int (List (Int × Int)) (List Int))) (p_y_torn : Addr) (ws_y_torn : List V) (y_torn : (List Int)) (y_gate : Int) (v_y_want : V) (y_want : (T4 Int (VT Int) (VT Int) (Option Int))) (p_y_homes : Addr) (ws_y_homes : List V) (y_homes : (List Int)) (r : (Option ((T1 Str) ⊕ (Str × Int)))), vs = [v_y_town, .ref p_y_torn, .int y_gate, v_y_want, .ref p_y_homes] ∧ Same F H ∧ R K F v_y_town y_town ∧ SqL K H p_y_torn ws_y_torn ∧ ws_y_torn.length ≤ sizeLine ∧ RL K F ws_y_torn y_torn ∧ ¬ M0 p_y_torn ∧ R K F v_y_want y_want ∧ SqL K H p_y_homes ws_y_homes ∧ ws_y_homes.length ≤ sizeLine ∧ RL K F ws_y_homes y_homes ∧ ¬ M0 p_y_homes ∧ m_l_fault_due y_town y_torn y_gate y_want y_homes = some r ∧ (∀ v F' H', Gr M0 F H F' H' → R K F' v r → Q v H')
/-! ### law -/
def m_law_l2 (y_town : (T4 Int Int (List (Int × Int)) (List Int))) (y_want : (T4 Int (VT Int) (VT Int) (Option Int))) : List Int → (List Int) → (List Int) → Bag → (Option (Lp ((List Int) × (List Int) × Bag) (Lp (Bag) (Bool × Bag))))
  | [], y_torn, y_homes, b => some (.go (y_torn, y_homes, b))
  | e271 :: xs_, y_torn, y_homes, b =>
    Option.bind (m_l_fault_due y_town y_torn (0 : Int) y_want y_homes) fun r285 =>
    Option.bind (some (T3.mk (m_l_copied y_town) y_torn y_homes)) fun y_kept334 =>
    Option.bind (m_way_fault y_town y_torn (0 : Int) y_want y_homes) fun r338 =>
    Option.bind (m_l_alike r338 r285) fun r349 =>
    if (!r349) then (some (.ret (.ret (false, b)))) else (Option.bind (m_way_fault y_town y_torn (0 : Int) y_want y_homes) fun r358 =>
 Option.bind (m_l_alike r358 r285) fun r369 =>
 if ((!r369) || (!eqD (T3.mk y_town y_torn y_homes) y_kept334)) then (some (.ret (.ret (false, b)))) else (Option.bind (some (if (eqI e271 (0 : Int)) then ([] : (List Int)) else y_torn)) fun y_torn426 =>
 bind2 (m_l_bent_once b y_town y_homes) fun r430 b431 =>
 Option.bind (some (cutL r430 none (some (40 : Int)))) fun y_homes457 =>
 m_law_l2 y_town y_want xs_ y_torn426 y_homes457 b431))
def m_law_l1  : List Int → Bag → (Option (Lp (Bag) (Bool × Bag)))
  | [], b => some (.go b)
  | e23 :: xs_, b =>
    bind2 (m_l_town_drawn b ) fun r25 b26 =>
    bind2 (m_l_walked b26 r25) fun r35 b36 =>
    Option.bind (atI r35 (0 : Int)) fun t64 =>
    Option.bind (conL ([t64] : List Int) (cutL r25.e none (some (6 : Int)))) fun t95 =>
    Option.bind (atI r35 (-(1 : Int))) fun t113 =>
    Option.bind (conL t95 ([t113] : List Int)) fun t133 =>
    Option.bind (some (T4.mk r25.a r25.b r25.c t133)) fun y_town181 =>
    bind2 (m_l_torn_drawn b36 y_town181) fun r185 b186 =>
    bind2 (m_l_want_fitting b186 y_town181 r35) fun r213 b214 =>
    bindL3 (m_law_l2 y_town181 r213 (rangeL (0 : Int) 4) r185 r35 b214) (fun y_torn246 y_homes247 b248 => m_law_l1  xs_ b248) (fun r_ => some r_)
def m_law (b : Bag)  : Option (Bool × Bag) :=
  bindL1 (m_law_l1  (rangeL (0 : Int) 6) b) (fun b1 => Option.bind (m_way_fault (T4.mk (1 : Int) (1 : Int) ([] : List (Int × Int)) ([(0 : Int)] : List Int)) ([] : List Int) (0 : Int) (T4.mk (0 : Int) (VT.mk [] : (VT Int)) (VT.mk [] : (VT Int)) (some (0 : Int))) ([] : List Int)) fun r576 =>
 some ((eqD r576 (some (((Sum.inl) (T1.mk ("start" : Str))) : ((T1 Str) ⊕ (Str × Int))))), b1)) (fun r_ => some r_)
abbrev N_law : List Str := ["_law_script", "_law_bag_here", "_law_turn", "_law_town", "_law_homes", "_law_torn", "_law_want", "_law_k", "_law_due", "_law_kept", "_law_told"]
theorem sc_law : FnScope N_law ["_law_script"] (defScope s_law) := ⟨rfl, rfl, rfl, by decide +kernel, rfl, by decide +kernel, by decide +kernel⟩
def sp_law (K : PySem.W.Frag) : Sp := fun vs H Q _ => ∃ (a : Addr) (ns : List Int), vs = [.ref a] ∧ SqL K H a (ns.map V.int) ∧ ns.length ≤ 63 ∧ (∀ H', Q (.bl true) H')
def kb_way_fault_0_g {α : Type} : List α → List α → List α
  | [], [w0, w1, w2, w3, w4] => [w4, w3, w2, w1, w0]
  | _, _ => []
theorem kb_way_fault_0 {K : PySem.W.Frag} {f : Addr} {fd : FuncData} (F : FnP K "way_fault" s_way_fault f fd) : KBinds K fd ["net", "broken", "door", "order", "houses"] ["houses", "order", "door", "broken", "net"] kb_way_fault_0_g kb_way_fault_0_g := by
  obtain ⟨kV, doc, pm, an, cdv, ct, rfl⟩ := fd_plain F
  refine ⟨fun s us ws _ hl => ?_, fun {vs us zs ws} h1 h2 => ?_⟩
  · unfold kb_way_fault_0_g at hl ⊢
    split at hl
    · exact BindsTo.of_eq rfl
    · cases hl
  · rcases h1 with _ | ⟨_, _⟩ <;> rcases h2 with _ | ⟨r_w0, _ | ⟨r_w1, _ | ⟨r_w2, _ | ⟨r_w3, _ | ⟨r_w4, _ | ⟨_, _⟩⟩⟩⟩⟩⟩ <;> first | exact (.cons r_w4 (.cons r_w3 (.cons r_w2 (.cons r_w1 (.cons r_w0 .nil))))) | exact .nil
end K22
namespace K22
open PySem PySem.Spec PyProof.Rows L2 TL G
theorem ok_whole_pairs {P : Program} {w : World} {K : PySem.W.Frag} {mg : Str → Option Value} {base : Heap} (T : Txt K mg) : FnOk P w K mg base CX0 1 T.a_whole_pairs T.d_whole_pairs ["net", "broken"] (sp_whole_pairs K) := by
  refine fd_ok T.F_whole_pairs sc_whole_pairs (fun vs H Q E h => ?_) (fun cdv A outer s H0 vs Q E hr h => ?_)
  · obtain ⟨_, _, _, _, _, _, rfl, _⟩ := h
    rfl
  · obtain ⟨F0, v_x_net, x_net, p_x_broken, ws_x_broken, x_broken, rfl, hS0, r_x_net, hS_x_broken, hl_x_broken, hA_x_broken, nm_x_broken, hQ⟩ := h
    refine ⟨_, (pss_one (ps_ret (pe_lc (own := [("number", 2), ("pair", 3)]) rfl sc_whole_pairs.nd (pi_enumK (by rfl) T.n_enumerate (pa_cons (pe_ix (ix_tupK (K := K)) (pv 0) pe_int (fun _ _ => rfl)) pa_nil)) (blkOk_by (own := [("number", 2), ("pair", 3)]) (N := N_whole_pairs) (sc := defScope s_whole_pairs) (by decide +kernel)) (fun _ _ _ _ _ => (pg_tupK (K := K) 2 rfl (pgs_cons (pg_name (i := 2) sc_whole_pairs.nd rfl (Or.inl rfl) (.inr rfl)) (pgs_cons (pg_name (i := 3) sc_whole_pairs.nd rfl (Or.inl rfl) (.inr rfl)) pgs_nil)))) (fun _ _ _ _ _ => (pts_one (pt_cmpR (op_notInI (K := K)) (pv 2) (pv 1) rfl))) (fun _ _ _ _ _ => (pv 3))))), ?_⟩
    have g0 : Gr M0 F0 H0 F0 H0 := Gr.refl hS0
    unfold m_whole_pairs at hQ
    refine p_ret ?_
    obtain ⟨p1, v4, v5, v6, v7, ev2, hS3, r8, r9, r10, r11⟩ := R.p4_v r_x_net
    obtain rfl := R.int_v r8
    obtain rfl := R.int_v r9
    obtain ⟨p12, ws13, ev14, hS15, hl16, hA17⟩ := R.lst_v r10
    refine ⟨v_x_net, rfl, p1, _, _, v6, ev2, rfl, (SqT_mono g0.fh hS3), rfl, p12, ws13, (by rw [ev14]), (Same.seq g0.fh hS15), fun D18 nD19 => ?_⟩
    have g20 := g0.own (o := (.lst [])) nD19
    have ow21 : Ow H0 F0 (upd H0 D18 (.lst [])) D18 [] := Ow.new g0 nD19
    refine lc_enum (K := K) (a := p12) (xs := ws13) (fun i H' => ∃ (F' : Hp) (acc : List V) (ds : List (Int × Int)), Gr M0 F0 H0 F' H' ∧ Same F0 F' ∧ Ow H0 F' H' D18 acc ∧ RL K F' acc ds ∧ acc.length ≤ i ∧ ds ++ m_whole_pairs_c1 x_broken ((List.zip (rangeL 0 (x_net.c).length) x_net.c).drop i) = (m_whole_pairs_c1 x_broken (List.zip (rangeL 0 (x_net.c).length) x_net.c))) ?_ ?_ ?_ ?_
    · exact ⟨F0, [], [], g20, Same.refl _, ow21, RpA.nil, Nat.le_refl _, rfl⟩
    · intro i H' _ hP
      obtain ⟨F23, acc24, ds25, g026, sm27, owD28, hA29, hi30, hr31⟩ := hP
      exact (Same.seq g026.fh (Same.seq sm27 hS15))
    · intro i33 xv32 T36 H35 hx34 nT37 hP
      obtain ⟨F38, acc39, ds40, g041, sm42, owD43, hA44, hi45, hr46⟩ := hP
      obtain ⟨e48, he49, r50⟩ := RL.get (hA17.up sm42) hx34
      have he51 := enum_get he49
      have ne52 := owD43.ne nT37
      have sm53 := same_new (o := (.tup [(V.int ((i33 : Nat) : Int)), xv32])) (g041.noneF nT37)
      have g54 := g041.frz (o := (.tup [(V.int ((i33 : Nat) : Int)), xv32])) nT37
      have ow55 := owD43.frz (o := (.tup [(V.int ((i33 : Nat) : Int)), xv32])) nT37
      have r56 : R K (upd F38 T36 (.tup [(V.int ((i33 : Nat) : Int)), xv32])) (.ref T36) ((((i33 : Nat) : Int), e48) : (Int × (Int × Int))) := R.mk2 fzT (Rp.int ((i33 : Nat) : Int)) (r50.up sm53)
      rw [drop_at he51, m_whole_pairs_c1.eq_2] at hr46
      obtain ⟨p57, v60, v61, ev58, hS59, r62, r63⟩ := R.p2_v r56
      obtain rfl := R.int_v r62
      refine ⟨p57, [(V.int (((i33 : Nat) : Int), e48).1), v61], ev58, (SqT_mono g54.fh hS59), rfl, (V.int (((i33 : Nat) : Int), e48).1), [v61], rfl, v61, [], rfl, rfl, rfl, (V.int (((i33 : Nat) : Int), e48).1), rfl, (V.ref p_x_broken), rfl, _, p_x_broken, _, rfl, rfl, (.inl (by rw [← RL.ints (hA_x_broken.up (Same.trans sm42 sm53))]; exact (g54.seq nm_x_broken hS_x_broken))), _, rfl, (iteB (fun hc => ?_) (fun hc => ?_))⟩
      · have hc : (!decide ((((i33 : Nat) : Int), e48).1 ∈ x_broken)) = true := hc
        rw [if_pos hc] at hr46
        have hA64 : RL K (upd F38 T36 (.tup [(V.int ((i33 : Nat) : Int)), xv32])) (acc39 ++ [v61]) (ds40 ++ [((((i33 : Nat) : Int), e48).2 : (Int × Int))]) := RL.snoc (hA44.up sm53) r63
        refine ⟨v61, rfl, acc39, ow55.h, (lt_line hi45 (List.getElem?_eq_some_iff.mp hx34).1 hl16), ?_⟩
        have g65 := g54.put (o := (.lst (acc39 ++ [v61]))) ow55
        have ow66 := ow55.put (us := (acc39 ++ [v61]))
        exact ⟨(upd F38 T36 (.tup [(V.int ((i33 : Nat) : Int)), xv32])), (acc39 ++ [v61]), (ds40 ++ [(((i33 : Nat) : Int), e48).2]), g65, (Same.trans sm42 sm53), ow66, hA64, (by rw [List.length_append]; exact Nat.succ_le_succ hi45), (snoc_rest hr46)⟩
      · have hc : (!decide ((((i33 : Nat) : Int), e48).1 ∈ x_broken)) = false := hc
        rw [if_neg (ne_true_of_eq_false hc)] at hr46
        exact ⟨(upd F38 T36 (.tup [(V.int ((i33 : Nat) : Int)), xv32])), acc39, ds40, g54, (Same.trans sm42 sm53), ow55, (hA44.up sm53), (Nat.le_succ_of_le hi45), hr46⟩
    intro H67 hP
    obtain ⟨F68, acc69, ds70, g072, sm73, owD74, hA75, hi76, hr77⟩ := hP
    rw [drop_end (enum_lenV (RL.len hA17))] at hr77
    rw [m_whole_pairs_c1.eq_1, List.append_nil] at hr77
    obtain rfl := hr77
    have hl78 : acc69.length ≤ sizeLine := Nat.le_trans hi76 hl16
    exact (hQ _ _ _ _ g072 owD74.n0 owD74.h owD74.nF hl78 hA75)
end K22
namespace K22
open PySem PySem.Spec PyProof.Rows L2 TL G
theorem ok_come_to {P : Program} {w : World} {K : PySem.W.Frag} {mg : Str → Option Value} {base : Heap} (T : Txt K mg) : FnOk P w K mg base CX0 1 T.a_come_to T.d_come_to ["order", "done", "house"] (sp_come_to K) := by
  refine fd_ok T.F_come_to sc_come_to (fun vs H Q E h => ?_) (fun cdv A outer s H0 vs Q E hr h => ?_)
  · obtain ⟨_, _, _, _, _, _, rfl, _⟩ := h
    rfl
  · obtain ⟨F0, v_x_order, x_order, x_done, x_house, r, rfl, hS0, r_x_order, hm, hQ⟩ := h
    refine ⟨_, (pss_cons (ps_set (i := 3) sc_come_to.nd rfl (.inl rfl) (pe_ix (ix_tupK (K := K)) (pv 0) pe_int (fun _ _ => rfl))) (pss_cons (ps_if (PW.pt (pw_and (pt_cmpR op_lt (pv 1) (pe_callB (call_lenLK (K := K)) (by rfl) T.n_len (by decide +kernel) (pa_cons (pv 3) pa_nil)) (nomark _)) (pw_and1 (pt_cmpR op_eq (pe_ix (ix_tupK (K := K)) (pv 3) (pv 1) (fun _ _ => rfl)) (pv 2) (nomark _))))) (pss_one (ps_ret (pe_tup (pa_cons (pe_op op_add (pv 1) pe_int) (pa_cons (pv 2) pa_nil))))) pss_nil) (pss_one (ps_ret (pe_tup (pa_cons (pv 1) (pa_cons (pv 2) pa_nil))))))), ?_⟩
    have g0 : Gr M0 F0 H0 F0 H0 := Gr.refl hS0
    unfold m_come_to at hm
    refine p_seq ?_
    refine p_asg ?_
    obtain ⟨p1, v4, v5, v6, v7, ev2, hS3, r8, r9, r10, r11⟩ := R.p4_v r_x_order
    obtain rfl := R.int_v r8
    refine ⟨v_x_order, rfl, p1, _, _, v5, ev2, rfl, (SqT_mono g0.fh hS3), rfl, ?_⟩
    refine p_name ?_
    refine p_nx ?_
    refine p_seq ?_
    refine p_if ?_
    obtain ⟨p12, ws13, ev14, hS15, hl16, hA17⟩ := R.vt_v r9
    refine ⟨(V.int x_done), rfl, v5, rfl, p12, ws13, _, (by rw [ev14]), (.inr (SqT_mono g0.fh hS15)), (RL.len hA17), _, _, rfl, rfl, _, rfl, ?_⟩
    obtain ⟨c18, hc19, hm⟩ := bnd hm
    refine andJT (M := M0) (F := F0) (c := c18) (P := fun _ _ => True) (fun ha => ?_) (fun ha => ⟨(sjoin (ifF ha hc19)).symm, trivial⟩) g0.fh ?_
    · intro Q21 q22
      have hc19 := ifT ha hc19
      obtain ⟨t23, hb24, hc19⟩ := bnd hc19
      obtain ⟨v25, ha26, r27⟩ := RL.at hA17 hb24
      obtain rfl := R.int_v r27
      obtain rfl := sjoin hc19
      refine ⟨v5, rfl, (V.int x_done), rfl, p12, ws13, _, (V.int t23), ev14, rfl, (SqT_mono g0.fh hS15), ha26, (V.int x_house), rfl, rfl, _, rfl, (q22 _ _ (Gr.refl (M := M0) g0.fh) trivial)⟩
    intro F28 H29 g30 hB31
    have g32 := Gr.trans g0 g30
    refine (iteB (fun hc => ?_) (fun hc => ?_))
    · have hm := ifT hc hm
      refine p_ret ?_
      refine ⟨(V.int x_done), rfl, _, _, rfl, rfl, (V.int x_house), rfl, (by show 2 ≤ sizeLine; decide), fun p33 np34 => ?_⟩
      have sm35 := same_new (o := (.tup [(V.int (x_done + (1 : Int))), (V.int x_house)])) (g32.noneF np34)
      have g36 := g32.frz (o := (.tup [(V.int (x_done + (1 : Int))), (V.int x_house)])) np34
      have r37 : R K (upd F28 p33 (.tup [(V.int (x_done + (1 : Int))), (V.int x_house)])) (.ref p33) (((x_done + (1 : Int)), x_house) : (Int × Int)) := R.mk2 fzT (Rp.int (x_done + (1 : Int))) (Rp.int x_house)
      obtain rfl := sjoin hm
      exact (hQ _ _ _ g36 r37)
    · have hm := ifF hc hm
      refine p_next ?_
      refine p_nx ?_
      refine p_ret ?_
      refine ⟨(V.int x_done), rfl, (V.int x_house), rfl, (by show 2 ≤ sizeLine; decide), fun p38 np39 => ?_⟩
      have sm40 := same_new (o := (.tup [(V.int x_done), (V.int x_house)])) (g32.noneF np39)
      have g41 := g32.frz (o := (.tup [(V.int x_done), (V.int x_house)])) np39
      have r42 : R K (upd F28 p38 (.tup [(V.int x_done), (V.int x_house)])) (.ref p38) ((x_done, x_house) : (Int × Int)) := R.mk2 fzT (Rp.int x_done) (Rp.int x_house)
      obtain rfl := sjoin hm
      exact (hQ _ _ _ g41 r42)
end K22
namespace K22
open PySem PySem.Spec PyProof.Rows L2 TL G
theorem ok_stands_along {P : Program} {w : World} {K : PySem.W.Frag} {mg : Str → Option Value} {base : Heap} (T : Txt K mg) : FnOk P w K mg base CX0 2 T.a_stands_along T.d_stands_along ["order", "houses"] (sp_stands_along K) := by
  have G_come_to : FnOk P w K mg base CX0 1 T.a_come_to T.d_come_to ["order", "done", "house"] (sp_come_to K) := ok_come_to T
  have b_come_to := T.F_come_to.bindsN (ps := ["order", "done", "house"]) fun _ _ _ _ _ _ us hl => match us, hl with | [_, _, _], _ => rfl
  refine fd_ok T.F_stands_along sc_stands_along (fun vs H Q E h => ?_) (fun cdv A outer s H0 vs Q E hr h => ?_)
  · obtain ⟨_, _, _, _, _, _, _, rfl, _⟩ := h
    rfl
  · obtain ⟨F0, v_x_order, x_order, p_x_houses, ws_x_houses, x_houses, r, rfl, hS0, r_x_order, hS_x_houses, hl_x_houses, hA_x_houses, nm_x_houses, hm, hQ⟩ := h
    refine ⟨_, (pss_cons (ps_set (i := 2) sc_stands_along.nd rfl (.inl rfl) (pe_lst pa_nil)) (pss_cons (ps_set (i := 3) sc_stands_along.nd rfl (.inl rfl) pe_int) (pss_cons (ps_for PassesOwn.never rfl (pi_listK (K := K) (pv 1)) (pg_name (i := 4) sc_stands_along.nd rfl (Or.inl rfl)) (pss_cons (ps_set (i := 5) sc_stands_along.nd rfl (.inl rfl) (pe_call G_come_to (hr.mono (by decide)) (by rfl) T.g_come_to T.F_come_to.kp b_come_to .nil pass0 (pa_cons (pv 0) (pa_cons (pv 3) (pa_cons (pv 4) pa_nil))))) (pss_cons (ps_set (i := 3) sc_stands_along.nd rfl (.inl rfl) (pe_ix (ix_tupK (K := K)) (pv 5) pe_int (fun _ _ => rfl))) (pss_one (ps_expr (pe_bmK (K := K) PySem.F.plainAttrs_list PySem.F.slot_list_append PySem.F.type_list_append mt_append (pv 2) (pa_cons (pv 5) pa_nil))))))) (pss_one (ps_ret (pv 2)))))), ?_⟩
    have g0 : Gr M0 F0 H0 F0 H0 := Gr.refl hS0
    unfold m_stands_along at hm
    refine p_seq ?_
    refine p_asg ?_
    refine ⟨(by show 0 ≤ sizeLine; decide), fun p1 np2 => ?_⟩
    have g3 := g0.own (o := (.lst [])) np2
    have ow4 : Ow H0 F0 (upd H0 p1 (.lst [])) p1 [] := Ow.new g0 np2
    have hA5 : RL K F0 [] ([] : List (Int × Int)) := RpA.nil
    obtain ⟨x_found6, hb7, hm⟩ := bnd hm
    have hx8 : ([] : List (Int × Int)) = x_found6 := sjoin hb7
    have hA9 : RL K F0 [] x_found6 := RL.re hx8 hA5
    refine p_name ?_
    refine p_nx ?_
    refine p_seq ?_
    refine p_asg ?_
    refine p_name ?_
    refine p_nx ?_
    refine p_seq ?_
    refine p_for ?_
    refine ⟨(V.ref p_x_houses), rfl, p_x_houses, rfl, ⟨_, (g3.seq nm_x_houses hS_x_houses)⟩, ?_⟩
    obtain ⟨x_done10, x_found11, ht12, hm⟩ := bnd2 hm
    refine for_list (K := K) (a := p_x_houses) (xs := ws_x_houses) (fun i σ' H' => ∃ (F' : Hp) (x_done : Int) (o_x_house : Option V) (o_x_stand : Option V) (x_found : (List (Int × Int))) (ws_x_found : List V), σ' = [(some v_x_order), (some (V.ref p_x_houses)), (some (V.ref p1)), (some (V.int x_done)), o_x_house, o_x_stand] ∧ Gr M0 F0 H0 F' H' ∧ Same F0 F' ∧ Ow H0 F' H' p1 ws_x_found ∧ ws_x_found.length ≤ sizeLine ∧ RL K F' ws_x_found x_found ∧ m_stands_along_l1 x_order (x_houses.drop i) x_done x_found = some (x_done10, x_found11)) ?_ ?_ ?_ ?_
    · exact ⟨F0, (0 : Int), none, none, x_found6, [], rfl, g3, (Same.refl _), ow4, (by show 0 ≤ sizeLine; decide), hA9, ht12⟩
    · intro i σ' H' _ hP
      obtain ⟨F', x_done, o_x_house, o_x_stand, x_found, ws_x_found, rfl, g_, sm_, ow_x_found, hl_x_found, hA_x_found, hm_⟩ := hP
      exact (g_.seq nm_x_houses hS_x_houses)
    · intro i13 xv16 σ' H15 hx14 hP
      obtain ⟨F17, x_done18, o_x_house19, o_x_stand20, x_found21, ws_x_found22, rfl, g23, sm24, ow_x_found25, hl_x_found26, hA_x_found27, hm28⟩ := hP
      obtain ⟨e29, he30, r31⟩ := RL.get (hA_x_houses.up sm24) hx14
      obtain rfl := R.int_v r31
      rw [drop_at he30, m_stands_along_l1.eq_2] at hm28
      refine p_name ?_
      refine p_seq ?_
      refine p_asg ?_
      obtain ⟨r32, hb33, hm28⟩ := bnd hm28
      refine ⟨v_x_order, rfl, (V.int x_done18), rfl, (V.int e29), rfl, F17, v_x_order, x_order, x_done18, e29, r32, rfl, g23.fh, (r_x_order.up sm24), hb33, fun v37 F34 H35 g36 r38 => ?_⟩
      have g39 := Gr.trans g23 g36
      have ow40 := ow_x_found25.gr0 g36
      refine p_name ?_
      refine p_nx ?_
      refine p_seq ?_
      refine p_asg ?_
      obtain ⟨p41, v44, v45, ev42, hS43, r46, r47⟩ := R.p2_v r38
      obtain rfl := R.int_v r46
      obtain rfl := R.int_v r47
      refine ⟨v37, rfl, p41, _, _, (V.int r32.1), ev42, rfl, (SqT_mono g39.fh hS43), rfl, ?_⟩
      refine p_name ?_
      refine p_nx ?_
      refine p_drop ?_
      obtain ⟨t48, hb49, hm28⟩ := bnd hm28
      obtain ⟨hk50, rfl⟩ := appL_ok hb49
      refine ⟨(V.ref p1), rfl, (.inl ⟨rfl, _, ow40.sq⟩), v37, rfl, p1, ws_x_found22, v37, rfl, rfl, ow40.h, (by rw [RL.len (hA_x_found27.up g36.ff)]; exact hk50), ?_⟩
      have hA51 : RL K F34 (ws_x_found22 ++ [v37]) (x_found21 ++ [(r32 : (Int × Int))]) := RL.snoc (hA_x_found27.up g36.ff) r38
      have hl52 : (ws_x_found22 ++ [v37]).length ≤ sizeLine := by rw [List.length_append, RL.len (hA_x_found27.up g36.ff)]; exact hk50
      have g53 := g39.put (o := (.lst (ws_x_found22 ++ [v37]))) ow40
      have ow54 := ow40.put (us := (ws_x_found22 ++ [v37]))
      exact ⟨F34, r32.1, (some (V.int e29)), (some v37), (x_found21 ++ [r32]), (ws_x_found22 ++ [v37]), rfl, g53, (Same.trans sm24 g36.ff), ow54, hl52, hA51, hm28⟩
    intro σ55 H56 hP
    obtain ⟨F57, x_done58, o_x_house59, o_x_stand60, x_found61, ws_x_found62, rfl, g63, sm64, ow_x_found65, hl_x_found66, hA_x_found67, hm68⟩ := hP
    rw [drop_end (RL.len (hA_x_houses.up sm64)), m_stands_along_l1.eq_1] at hm68
    obtain ⟨rfl, rfl⟩ := pjoin hm68
    refine p_nx ?_
    refine p_ret ?_
    obtain rfl := sjoin hm
    refine ⟨(V.ref p1), rfl, (hQ _ _ _ _ g63 ow_x_found65.n0 ow_x_found65.h ow_x_found65.nF hl_x_found66 hA_x_found67)⟩
end K22
namespace K22
open PySem PySem.Spec PyProof.Rows L2 TL G
theorem ok_step_fault {P : Program} {w : World} {K : PySem.W.Frag} {mg : Str → Option Value} {base : Heap} (T : Txt K mg) : FnOk P w K mg base CX0 1 T.a_step_fault T.d_step_fault ["pairs", "order", "houses"] (sp_step_fault K) := by
  refine fd_ok T.F_step_fault sc_step_fault (fun vs H Q E h => ?_) (fun cdv A outer s H0 vs Q E hr h => ?_)
  · obtain ⟨_, _, _, _, _, _, _, _, _, _, rfl, _⟩ := h
    rfl
  · obtain ⟨F0, p_x_pairs, ws_x_pairs, x_pairs, v_x_order, x_order, p_x_houses, ws_x_houses, x_houses, r, rfl, hS0, hS_x_pairs, hl_x_pairs, hA_x_pairs, nm_x_pairs, r_x_order, hS_x_houses, hl_x_houses, hA_x_houses, nm_x_houses, hm, hQ⟩ := h
    refine ⟨_, (pss_cons (ps_for PassesOwn.never rfl (pi_enumK (by rfl) T.n_enumerate (pa_cons (pv 2) pa_nil)) (pg_tupK (K := K) 2 rfl (pgs_cons (pg_name (i := 3) sc_step_fault.nd rfl (Or.inl rfl)) (pgs_cons (pg_name (i := 4) sc_step_fault.nd rfl (Or.inl rfl)) pgs_nil))) (pss_cons (ps_if (pt_cmpR (op_inI (K := K)) (pv 4) (pe_ix (ix_tupK (K := K)) (pv 1) pe_int (fun _ _ => rfl)) rfl) (pss_one (ps_ret (pe_tup (pa_cons pe_str (pa_cons (pv 3) pa_nil))))) pss_nil) (pss_one (ps_if (pt_cmpR op_lt (pe_op op_add (pv 3) pe_int) (pe_callB (call_lenLK (K := K)) (by rfl) T.n_len (by decide +kernel) (pa_cons (pv 2) pa_nil)) (nomark _)) (pss_cons (ps_set (i := 5) sc_step_fault.nd rfl (.inl rfl) (pe_ix (ix_listK (K := K)) (pv 2) (pe_op op_add (pv 3) pe_int) (fun _ _ => rfl))) (pss_one (ps_if (pt_cmpR (op_notInDK (K := K) (units65 hr)) (pe_tup (pa_cons (pe_callB (call_min2 rfl) (by rfl) T.n_min (by decide +kernel) (pa_cons (pv 4) (pa_cons (pv 5) pa_nil))) (pa_cons (pe_callB (call_max2 rfl) (by rfl) T.n_max (by decide +kernel) (pa_cons (pv 4) (pa_cons (pv 5) pa_nil))) pa_nil))) (pv 0) rfl) (pss_one (ps_ret (pe_tup (pa_cons pe_str (pa_cons (pv 3) pa_nil))))) pss_nil))) pss_nil)))) (pss_one (ps_ret pe_non))), ?_⟩
    have g0 : Gr M0 F0 H0 F0 H0 := Gr.refl hS0
    unfold m_step_fault at hm
    refine p_seq ?_
    refine p_for ?_
    refine ⟨(V.ref p_x_houses), rfl, p_x_houses, ws_x_houses, rfl, (g0.seq nm_x_houses hS_x_houses), ?_⟩
    obtain ⟨l1, ht2, hm⟩ := bndL0 hm
    refine for_enum (K := K) (a := p_x_houses) (xs := ws_x_houses) (fun i σ' H' => ∃ (F' : Hp) (o_x_k : Option V) (o_x_house : Option V) (o_x_other : Option V), σ' = [(some (V.ref p_x_pairs)), (some v_x_order), (some (V.ref p_x_houses)), o_x_k, o_x_house, o_x_other] ∧ Gr M0 F0 H0 F' H' ∧ Same F0 F' ∧ m_step_fault_l1 x_pairs x_order x_houses ((List.zip (rangeL 0 (x_houses).length) x_houses).drop i)  = some l1) ?_ ?_ ?_ ?_
    · exact ⟨F0, none, none, none, rfl, g0, (Same.refl _), ht2⟩
    · intro i σ' H' _ hP
      obtain ⟨F', o_x_k, o_x_house, o_x_other, rfl, g_, sm_, hm_⟩ := hP
      exact (g_.seq nm_x_houses hS_x_houses)
    · intro i3 xv6 T7 σ' H5 hx4 nT8 hP
      obtain ⟨F9, o_x_k10, o_x_house11, o_x_other12, rfl, g13, sm14, hm15⟩ := hP
      obtain ⟨e17, he18, r19⟩ := RL.get (hA_x_houses.up sm14) hx4
      obtain rfl := R.int_v r19
      have he20 := enum_get he18
      have sm21 := same_new (o := (.tup [(V.int ((i3 : Nat) : Int)), (V.int e17)])) (g13.noneF nT8)
      have g22 := g13.frz (o := (.tup [(V.int ((i3 : Nat) : Int)), (V.int e17)])) nT8
      have r23 : R K (upd F9 T7 (.tup [(V.int ((i3 : Nat) : Int)), (V.int e17)])) (.ref T7) ((((i3 : Nat) : Int), e17) : (Int × Int)) := R.mk2 fzT (Rp.int ((i3 : Nat) : Int)) (Rp.int e17)
      rw [drop_at he20, m_step_fault_l1.eq_2] at hm15
      obtain ⟨p24, v27, v28, ev25, hS26, r29, r30⟩ := R.p2_v r23
      obtain rfl := R.int_v r29
      obtain rfl := R.int_v r30
      refine ⟨p24, [(V.int (((i3 : Nat) : Int), e17).1), (V.int (((i3 : Nat) : Int), e17).2)], ev25, (SqT_mono g22.fh hS26), rfl, (V.int (((i3 : Nat) : Int), e17).1), [(V.int (((i3 : Nat) : Int), e17).2)], rfl, (V.int (((i3 : Nat) : Int), e17).2), [], rfl, rfl, ?_⟩
      refine p_seq ?_
      refine p_if ?_
      obtain ⟨p31, v34, v35, v36, v37, ev32, hS33, r38, r39, r40, r41⟩ := R.p4_v r_x_order
      obtain rfl := R.int_v r38
      obtain ⟨p42, ws43, ev44, hS45, hl46, hA47⟩ := R.vt_v r40
      refine ⟨(V.int (((i3 : Nat) : Int), e17).2), rfl, v_x_order, rfl, p31, _, _, v36, ev32, rfl, (SqT_mono g22.fh (SqT_mono (Same.trans sm14 sm21) hS33)), rfl, _, p42, _, rfl, (by rw [ev44]), (.inr (by rw [← RL.ints (hA47.up (Same.trans sm14 sm21))]; exact (SqT_mono g22.fh (SqT_mono (Same.trans sm14 sm21) hS45)))), _, rfl, (iteB (fun hc => ?_) (fun hc => ?_))⟩
      · have hm15 := ifT hc hm15
        refine p_ret ?_
        refine ⟨(V.int (((i3 : Nat) : Int), e17).1), rfl, (by show 2 ≤ sizeLine; decide), fun p48 np49 => ?_⟩
        have sm50 := same_new (o := (.tup [(V.str ("past" : Str)), (V.int (((i3 : Nat) : Int), e17).1)])) (g22.noneF np49)
        have g51 := g22.frz (o := (.tup [(V.str ("past" : Str)), (V.int (((i3 : Nat) : Int), e17).1)])) np49
        have r52 : R K (upd (upd F9 T7 (.tup [(V.int ((i3 : Nat) : Int)), (V.int e17)])) p48 (.tup [(V.str ("past" : Str)), (V.int (((i3 : Nat) : Int), e17).1)])) (.ref p48) ((("past" : Str), (((i3 : Nat) : Int), e17).1) : (Str × Int)) := R.mk2 fzT (Rp.str ("past" : Str) ⟨by decide +kernel, by decide +kernel⟩) (Rp.int (((i3 : Nat) : Int), e17).1)
        obtain rfl := sjoin hm15
        have hm := bret hm
        obtain rfl := sjoin hm
        exact (hQ _ _ _ g51 r52)
      · have hm15 := ifF hc hm15
        refine p_next ?_
        refine p_nx ?_
        refine p_if ?_
        refine ⟨(V.int (((i3 : Nat) : Int), e17).1), rfl, _, _, rfl, rfl, (V.ref p_x_houses), rfl, p_x_houses, ws_x_houses, _, rfl, (.inl (g22.seq nm_x_houses hS_x_houses)), (RL.len (hA_x_houses.up (Same.trans sm14 sm21))), _, _, rfl, rfl, _, rfl, (iteB (fun hc => ?_) (fun hc => ?_))⟩
        · have hm15 := ifT hc hm15
          refine p_seq ?_
          refine p_asg ?_
          obtain ⟨t53, hb54, hm15⟩ := bnd hm15
          obtain ⟨v55, ha56, r57⟩ := RL.at (hA_x_houses.up (Same.trans sm14 sm21)) hb54
          obtain rfl := R.int_v r57
          refine ⟨(V.ref p_x_houses), rfl, (V.int (((i3 : Nat) : Int), e17).1), rfl, _, _, rfl, rfl, p_x_houses, ws_x_houses, _, (V.int t53), rfl, rfl, (g22.seq nm_x_houses hS_x_houses), ha56, ?_⟩
          refine p_name ?_
          refine p_nx ?_
          refine p_if ?_
          refine ⟨(V.int (((i3 : Nat) : Int), e17).2), rfl, (V.int t53), rfl, _, _, rfl, (V.int (((i3 : Nat) : Int), e17).2), rfl, (V.int t53), rfl, _, _, rfl, (by show 2 ≤ sizeLine; decide), fun p58 np59 => ?_⟩
          have sm60 := same_new (o := (.tup [(V.int (if t53 < (((i3 : Nat) : Int), e17).2 then t53 else (((i3 : Nat) : Int), e17).2)), (V.int (if t53 > (((i3 : Nat) : Int), e17).2 then t53 else (((i3 : Nat) : Int), e17).2))])) (g22.noneF np59)
          have g61 := g22.frz (o := (.tup [(V.int (if t53 < (((i3 : Nat) : Int), e17).2 then t53 else (((i3 : Nat) : Int), e17).2)), (V.int (if t53 > (((i3 : Nat) : Int), e17).2 then t53 else (((i3 : Nat) : Int), e17).2))])) np59
          have r62 : R K (upd (upd F9 T7 (.tup [(V.int ((i3 : Nat) : Int)), (V.int e17)])) p58 (.tup [(V.int (if t53 < (((i3 : Nat) : Int), e17).2 then t53 else (((i3 : Nat) : Int), e17).2)), (V.int (if t53 > (((i3 : Nat) : Int), e17).2 then t53 else (((i3 : Nat) : Int), e17).2))])) (.ref p58) (((if t53 < (((i3 : Nat) : Int), e17).2 then t53 else (((i3 : Nat) : Int), e17).2), (if t53 > (((i3 : Nat) : Int), e17).2 then t53 else (((i3 : Nat) : Int), e17).2)) : (Int × Int)) := R.mk2 fzT (Rp.int (if t53 < (((i3 : Nat) : Int), e17).2 then t53 else (((i3 : Nat) : Int), e17).2)) (Rp.int (if t53 > (((i3 : Nat) : Int), e17).2 then t53 else (((i3 : Nat) : Int), e17).2))
          have rH63 : R K (upd (upd H5 T7 (.tup [(V.int ((i3 : Nat) : Int)), (V.int e17)])) p58 (.tup [(V.int (if t53 < (((i3 : Nat) : Int), e17).2 then t53 else (((i3 : Nat) : Int), e17).2)), (V.int (if t53 > (((i3 : Nat) : Int), e17).2 then t53 else (((i3 : Nat) : Int), e17).2))])) (V.ref p58) ((if t53 < (((i3 : Nat) : Int), e17).2 then t53 else (((i3 : Nat) : Int), e17).2), (if t53 > (((i3 : Nat) : Int), e17).2 then t53 else (((i3 : Nat) : Int), e17).2)) := (Rp.up r62 g61.fh)
          have rH64 : R K (upd (upd H5 T7 (.tup [(V.int ((i3 : Nat) : Int)), (V.int e17)])) p58 (.tup [(V.int (if t53 < (((i3 : Nat) : Int), e17).2 then t53 else (((i3 : Nat) : Int), e17).2)), (V.int (if t53 > (((i3 : Nat) : Int), e17).2 then t53 else (((i3 : Nat) : Int), e17).2))])) (V.ref p_x_pairs) x_pairs := (R.mkl (g61.seq nm_x_pairs hS_x_pairs) hl_x_pairs (RpA.up (hA_x_pairs.up (Same.trans sm14 (Same.trans sm21 sm60))) g61.fh))
          refine ⟨(V.ref p_x_pairs), rfl, _, _, (Rp.dp _ _ rH63), (Rp.dp _ _ rH64), (R.shaped rH63), (R.shaped rH64), _, rfl, (iteB (fun hc => ?_) (fun hc => ?_))⟩
          · have hm15 := ifT hc hm15
            refine p_ret ?_
            refine ⟨(V.int (((i3 : Nat) : Int), e17).1), rfl, (by show 2 ≤ sizeLine; decide), fun p65 np66 => ?_⟩
            have sm67 := same_new (o := (.tup [(V.str ("tie" : Str)), (V.int (((i3 : Nat) : Int), e17).1)])) (g61.noneF np66)
            have g68 := g61.frz (o := (.tup [(V.str ("tie" : Str)), (V.int (((i3 : Nat) : Int), e17).1)])) np66
            have r69 : R K (upd (upd (upd F9 T7 (.tup [(V.int ((i3 : Nat) : Int)), (V.int e17)])) p58 (.tup [(V.int (if t53 < (((i3 : Nat) : Int), e17).2 then t53 else (((i3 : Nat) : Int), e17).2)), (V.int (if t53 > (((i3 : Nat) : Int), e17).2 then t53 else (((i3 : Nat) : Int), e17).2))])) p65 (.tup [(V.str ("tie" : Str)), (V.int (((i3 : Nat) : Int), e17).1)])) (.ref p65) ((("tie" : Str), (((i3 : Nat) : Int), e17).1) : (Str × Int)) := R.mk2 fzT (Rp.str ("tie" : Str) ⟨by decide +kernel, by decide +kernel⟩) (Rp.int (((i3 : Nat) : Int), e17).1)
            obtain rfl := sjoin hm15
            have hm := bret hm
            obtain rfl := sjoin hm
            exact (hQ _ _ _ g68 r69)
          · have hm15 := ifF hc hm15
            refine p_next ?_
            exact ⟨(upd (upd F9 T7 (.tup [(V.int ((i3 : Nat) : Int)), (V.int e17)])) p58 (.tup [(V.int (if t53 < (((i3 : Nat) : Int), e17).2 then t53 else (((i3 : Nat) : Int), e17).2)), (V.int (if t53 > (((i3 : Nat) : Int), e17).2 then t53 else (((i3 : Nat) : Int), e17).2))])), (some (V.int (((i3 : Nat) : Int), e17).1)), (some (V.int (((i3 : Nat) : Int), e17).2)), (some (V.int t53)), rfl, g61, (Same.trans sm14 (Same.trans sm21 sm60)), hm15⟩
        · have hm15 := ifF hc hm15
          refine p_next ?_
          exact ⟨(upd F9 T7 (.tup [(V.int ((i3 : Nat) : Int)), (V.int e17)])), (some (V.int (((i3 : Nat) : Int), e17).1)), (some (V.int (((i3 : Nat) : Int), e17).2)), o_x_other12, rfl, g22, (Same.trans sm14 sm21), hm15⟩
    intro σ70 H71 hP
    obtain ⟨F72, o_x_k73, o_x_house74, o_x_other75, rfl, g76, sm77, hm78⟩ := hP
    rw [drop_end (enum_lenV (RL.len (hA_x_houses.up sm77))), m_step_fault_l1.eq_1] at hm78
    obtain rfl := sjoin hm78
    have hm := bgo0 hm
    refine p_nx ?_
    refine p_ret ?_
    obtain rfl := sjoin hm
    exact (hQ _ _ _ g76 Rp.non)
end K22
namespace K22
open PySem PySem.Spec PyProof.Rows L2 TL G
theorem ok_way_fault {P : Program} {w : World} {K : PySem.W.Frag} {mg : Str → Option Value} {base : Heap} (T : Txt K mg) : FnOk P w K mg base CX0 3 T.a_way_fault T.d_way_fault ["net", "broken", "door", "order", "houses"] (sp_way_fault K) := by
  have G_step_fault : FnOk P w K mg base CX0 1 T.a_step_fault T.d_step_fault ["pairs", "order", "houses"] (sp_step_fault K) := ok_step_fault T
  have b_step_fault := T.F_step_fault.bindsN (ps := ["pairs", "order", "houses"]) fun _ _ _ _ _ _ us hl => match us, hl with | [_, _, _], _ => rfl
  have G_whole_pairs : FnOk P w K mg base CX0 1 T.a_whole_pairs T.d_whole_pairs ["net", "broken"] (sp_whole_pairs K) := ok_whole_pairs T
  have b_whole_pairs := T.F_whole_pairs.bindsN (ps := ["net", "broken"]) fun _ _ _ _ _ _ us hl => match us, hl with | [_, _], _ => rfl
  have G_stands_along : FnOk P w K mg base CX0 2 T.a_stands_along T.d_stands_along ["order", "houses"] (sp_stands_along K) := ok_stands_along T
  have b_stands_along := T.F_stands_along.bindsN (ps := ["order", "houses"]) fun _ _ _ _ _ _ us hl => match us, hl with | [_, _], _ => rfl
  refine fd_ok T.F_way_fault sc_way_fault (fun vs H Q E h => ?_) (fun cdv A outer s H0 vs Q E hr h => ?_)
  · obtain ⟨_, _, _, _, _, _, _, _, _, _, _, _, _, rfl, _⟩ := h
    rfl
  · obtain ⟨F0, v_x_net, x_net, p_x_broken, ws_x_broken, x_broken, x_door, v_x_order, x_order, p_x_houses, ws_x_houses, x_houses, r, rfl, hS0, r_x_net, hS_x_broken, hl_x_broken, hA_x_broken, nm_x_broken, r_x_order, hS_x_houses, hl_x_houses, hA_x_houses, nm_x_houses, hm, hQ⟩ := h
    refine ⟨_, (pss_cons (ps_if (PW.pt (pw_or (pt_cmpR (op_eqDK (K := K) hr.units) (pv 4) (pe_lst pa_nil) (nomark _)) (pw_or1 (pt_cmpR op_ne (pe_ix (ix_listK (K := K)) (pv 4) pe_int (fun _ _ => rfl)) (pe_ix (ix_listK (K := K)) (pe_ix (ix_tupK (K := K)) (pv 0) pe_int (fun _ _ => rfl)) (pv 2) (fun _ _ => rfl)) (nomark _))))) (pss_one (ps_ret (pe_tup (pa_cons pe_str pa_nil)))) pss_nil) (pss_cons (ps_set (i := 5) sc_way_fault.nd rfl (.inl rfl) (pe_call G_step_fault (hr.mono (by decide)) (by rfl) T.g_step_fault T.F_step_fault.kp b_step_fault .nil pass0 (pa_cons (pe_call G_whole_pairs (hr.mono (by decide)) (by rfl) T.g_whole_pairs T.F_whole_pairs.kp b_whole_pairs .nil pass0 (pa_cons (pv 0) (pa_cons (pv 1) pa_nil))) (pa_cons (pv 3) (pa_cons (pv 4) pa_nil))))) (pss_cons (ps_if (pt_cmpR op_notO (pv 5) pe_non (nomark _)) (pss_one (ps_ret (pv 5))) pss_nil) (pss_cons (ps_if (PW.pt (pw_and (pt_cmpR op_notO (pe_ix (ix_tupK (K := K)) (pv 3) pe_int (fun _ _ => rfl)) pe_non (nomark _)) (pw_and1 (pt_cmpR op_gt (pe_op op_sub (pe_callB (call_lenLK (K := K)) (by rfl) T.n_len (by decide +kernel) (pa_cons (pv 4) pa_nil)) pe_int) (pe_ix (ix_tupK (K := K)) (pv 3) pe_int (fun _ _ => rfl)) (nomark _))))) (pss_one (ps_ret (pe_tup (pa_cons pe_str pa_nil)))) pss_nil) (pss_cons (ps_if (pt_cmpR op_ne (pe_ix (ix_listK (K := K)) (pv 4) (pe_un un_neg pe_int) (fun _ _ => rfl)) (pe_ix (ix_listK (K := K)) (pe_ix (ix_tupK (K := K)) (pv 0) pe_int (fun _ _ => rfl)) (pe_ix (ix_tupK (K := K)) (pv 3) pe_int (fun _ _ => rfl)) (fun _ _ => rfl)) (nomark _)) (pss_one (ps_ret (pe_tup (pa_cons pe_str pa_nil)))) pss_nil) (pss_cons (ps_set (i := 6) sc_way_fault.nd rfl (.inl rfl) (pe_call G_stands_along (hr.mono (by decide)) (by rfl) T.g_stands_along T.F_stands_along.kp b_stands_along .nil pass0 (pa_cons (pv 3) (pa_cons (pv 4) pa_nil)))) (pss_cons (ps_if (pt_cmpR op_lt (pe_ix (ix_tupK (K := K)) (pe_ix (ix_listK (K := K)) (pv 6) (pe_un un_neg pe_int) (fun _ _ => rfl)) pe_int (fun _ _ => rfl)) (pe_callB (call_lenLK (K := K)) (by rfl) T.n_len (by decide +kernel) (pa_cons (pe_ix (ix_tupK (K := K)) (pv 3) pe_int (fun _ _ => rfl)) pa_nil)) (nomark _)) (pss_one (ps_ret (pe_tup (pa_cons pe_str pa_nil)))) pss_nil) (pss_one (ps_ret (pe_ifExp (pt_cmpR op_lt (pe_lenSetT (K := K) (α := (Int × Int)) rfl hr.units (by rfl) T.n_len (by rfl) T.n_set (pv 6)) (pe_callB (call_lenLK (K := K)) (by rfl) T.n_len (by decide +kernel) (pa_cons (pv 6) pa_nil)) (nomark _)) (pe_tup (pa_cons pe_str pa_nil)) pe_non)))))))))), ?_⟩
    have g0 : Gr M0 F0 H0 F0 H0 := Gr.refl hS0
    unfold m_way_fault at hm
    refine p_seq ?_
    refine p_if ?_
    refine ⟨(V.ref p_x_houses), rfl, (by show 0 ≤ sizeLine; decide), fun p1 np2 => ?_⟩
    have g3 := g0.own (o := (.lst [])) np2
    have ow4 : Ow H0 F0 (upd H0 p1 (.lst [])) p1 [] := Ow.new g0 np2
    have rH6 : R K (upd H0 p1 (.lst [])) (V.ref p_x_houses) x_houses := (R.mkl (g3.seq nm_x_houses hS_x_houses) hl_x_houses (RpA.up hA_x_houses g3.fh))
    have rH7 : R K (upd H0 p1 (.lst [])) (V.ref p1) ([] : (List Int)) := (R.mkl ow4.sq (by show 0 ≤ sizeLine; decide) (RpA.up RpA.nil g3.fh))
    refine ⟨_, _, (Rp.dp _ _ rH6), (Rp.dp _ _ rH7), (R.shaped rH6), (R.shaped rH7), _, rfl, ?_⟩
    obtain ⟨c8, hc9, hm⟩ := bnd hm
    refine orJT (M := M0) (F := F0) (c := c8) (P := fun _ _ => True) (fun ha => ?_) (fun ha => ⟨(sjoin (ifT ha hc9)).symm, trivial⟩) g3.fh ?_
    · intro Q11 q12
      have hc9 := ifF ha hc9
      obtain ⟨t13, hb14, hc9⟩ := bnd hc9
      obtain ⟨v15, ha16, r17⟩ := RL.at hA_x_houses hb14
      obtain rfl := R.int_v r17
      obtain ⟨p18, v21, v22, v23, v24, ev19, hS20, r25, r26, r27, r28⟩ := R.p4_v r_x_net
      obtain rfl := R.int_v r25
      obtain rfl := R.int_v r26
      obtain ⟨t29, hb30, hc9⟩ := bnd hc9
      obtain ⟨p31, ws32, ev33, hS34, hl35, hA36⟩ := R.lst_v r28
      obtain ⟨v37, ha38, r39⟩ := RL.at hA36 hb30
      obtain rfl := R.int_v r39
      obtain rfl := sjoin hc9
      refine ⟨(V.ref p_x_houses), rfl, p_x_houses, ws_x_houses, _, (V.int t13), rfl, rfl, (g3.seq nm_x_houses hS_x_houses), ha16, v_x_net, rfl, p18, _, _, v24, ev19, rfl, (SqT_mono g3.fh hS20), rfl, (V.int x_door), rfl, p31, ws32, _, (V.int t29), ev33, rfl, (Same.seq g3.fh hS34), ha38, rfl, _, rfl, (q12 _ _ (Gr.refl (M := M0) g3.fh) trivial)⟩
    intro F40 H41 g42 hB43
    have g44 := Gr.trans g3 g42
    have ow45 := ow4.gr0 g42
    refine (iteB (fun hc => ?_) (fun hc => ?_))
    · have hm := ifT hc hm
      refine p_ret ?_
      refine ⟨(by show 1 ≤ sizeLine; decide), fun p46 np47 => ?_⟩
      have ne48 := ow45.ne np47
      have sm49 := same_new (o := (.tup [(V.str ("start" : Str))])) (g44.noneF np47)
      have g50 := g44.frz (o := (.tup [(V.str ("start" : Str))])) np47
      have ow51 := ow45.frz (o := (.tup [(V.str ("start" : Str))])) np47
      have r52 : R K (upd F40 p46 (.tup [(V.str ("start" : Str))])) (.ref p46) ((T1.mk ("start" : Str)) : (T1 Str)) := R.mk1 fzT (Rp.str ("start" : Str) ⟨by decide +kernel, by decide +kernel⟩)
      have r53 : R K (upd F40 p46 (.tup [(V.str ("start" : Str))])) (V.ref p46) (some (((Sum.inl) (T1.mk ("start" : Str))) : ((T1 Str) ⊕ (Str × Int)))) := r52
      obtain rfl := sjoin hm
      exact (hQ _ _ _ g50 r53)
    · have hm := ifF hc hm
      refine p_next ?_
      refine p_nx ?_
      refine p_seq ?_
      refine p_asg ?_
      refine ⟨v_x_net, rfl, (V.ref p_x_broken), rfl, F40, v_x_net, x_net, p_x_broken, ws_x_broken, x_broken, rfl, g44.fh, (r_x_net.up g42.ff), (g44.seq nm_x_broken hS_x_broken), hl_x_broken, (hA_x_broken.up g42.ff), id, fun p58 ws59 F55 H56 g57 np60 h61 nF62 hl63 hA64 => ?_⟩
      have ne65 := ow45.ne np60
      have n066 := g44.none0 np60
      have g67 := Gr.trans g44 g57
      have ow68 := ow45.gr0 g57
      have ow69 : Ow H0 F55 H56 p58 ws59 := ⟨h61, nF62, n066⟩
      obtain ⟨r70, hb71, hm⟩ := bnd hm
      refine ⟨v_x_order, rfl, (V.ref p_x_houses), rfl, F55, p58, ws59, (m_whole_pairs x_net x_broken), v_x_order, x_order, p_x_houses, ws_x_houses, x_houses, r70, rfl, g67.fh, ow69.sq, hl63, hA64, id, (r_x_order.up (Same.trans g42.ff g57.ff)), (g67.seq nm_x_houses hS_x_houses), hl_x_houses, (hA_x_houses.up (Same.trans g42.ff g57.ff)), id, hb71, fun v75 F72 H73 g74 r76 => ?_⟩
      have g77 := Gr.trans g67 g74
      have ow78 := ow68.gr0 g74
      have ow79 := ow69.gr0 g74
      refine p_name ?_
      refine p_nx ?_
      refine p_seq ?_
      refine p_if ?_
      refine ⟨v75, rfl, _, rfl, (isN_eq r76), _, rfl, (iteB (fun hc => ?_) (fun hc => ?_))⟩
      · have hm := ifT hc hm
        refine p_ret ?_
        have r80 : R K F72 v75 (((r70).map (Sum.inr : (Str × Int) → ((T1 Str) ⊕ (Str × Int)))) : (Option ((T1 Str) ⊕ (Str × Int)))) := R.omap (fun _ => rfl) r76
        obtain rfl := sjoin hm
        refine ⟨v75, rfl, (hQ _ _ _ g77 r80)⟩
      · have hm := ifF hc hm
        refine p_next ?_
        refine p_nx ?_
        refine p_seq ?_
        refine p_if ?_
        obtain ⟨p81, v84, v85, v86, v87, ev82, hS83, r88, r89, r90, r91⟩ := R.p4_v r_x_order
        obtain rfl := R.int_v r88
        refine ⟨v_x_order, rfl, p81, _, _, v87, ev82, rfl, (SqT_mono g77.fh (SqT_mono (Same.trans g42.ff (Same.trans g57.ff g74.ff)) hS83)), rfl, _, rfl, (isN_eq (r91.up (Same.trans g42.ff (Same.trans g57.ff g74.ff)))), _, rfl, ?_⟩
        obtain ⟨c92, hc93, hm⟩ := bnd hm
        refine andJT (M := M0) (F := F72) (c := c92) (P := fun _ _ => True) (fun ha => ?_) (fun ha => ⟨(sjoin (ifF ha hc93)).symm, trivial⟩) g77.fh ?_
        · intro Q95 q96
          have hc93 := ifT ha hc93
          obtain ⟨t97, hb98, hc93⟩ := bnd hc93
          have eq99 : v87 = V.int t97 := R.int_v (getO_ok (x := t97) hb98 (r91.up (Same.trans g42.ff (Same.trans g57.ff g74.ff))))
          obtain rfl := sjoin hc93
          refine ⟨(V.ref p_x_houses), rfl, p_x_houses, ws_x_houses, _, rfl, (.inl (g77.seq nm_x_houses hS_x_houses)), (RL.len (hA_x_houses.up (Same.trans g42.ff (Same.trans g57.ff g74.ff)))), _, _, rfl, rfl, v_x_order, rfl, p81, _, _, v87, ev82, rfl, (SqT_mono g77.fh (SqT_mono (Same.trans g42.ff (Same.trans g57.ff g74.ff)) hS83)), rfl, _, _, rfl, eq99, _, rfl, (q96 _ _ (Gr.refl (M := M0) g77.fh) trivial)⟩
        intro F100 H101 g102 hB103
        have g104 := Gr.trans g77 g102
        have ow105 := ow78.gr0 g102
        have ow106 := ow79.gr0 g102
        refine (iteB (fun hc => ?_) (fun hc => ?_))
        · have hm := ifT hc hm
          refine p_ret ?_
          refine ⟨(by show 1 ≤ sizeLine; decide), fun p107 np108 => ?_⟩
          have ne109 := ow105.ne np108
          have ne110 := ow106.ne np108
          have sm111 := same_new (o := (.tup [(V.str ("most" : Str))])) (g104.noneF np108)
          have g112 := g104.frz (o := (.tup [(V.str ("most" : Str))])) np108
          have ow113 := ow105.frz (o := (.tup [(V.str ("most" : Str))])) np108
          have ow114 := ow106.frz (o := (.tup [(V.str ("most" : Str))])) np108
          have r115 : R K (upd F100 p107 (.tup [(V.str ("most" : Str))])) (.ref p107) ((T1.mk ("most" : Str)) : (T1 Str)) := R.mk1 fzT (Rp.str ("most" : Str) ⟨by decide +kernel, by decide +kernel⟩)
          have r116 : R K (upd F100 p107 (.tup [(V.str ("most" : Str))])) (V.ref p107) (some (((Sum.inl) (T1.mk ("most" : Str))) : ((T1 Str) ⊕ (Str × Int)))) := r115
          obtain rfl := sjoin hm
          exact (hQ _ _ _ g112 r116)
        · have hm := ifF hc hm
          refine p_next ?_
          refine p_nx ?_
          refine p_seq ?_
          refine p_if ?_
          obtain ⟨t117, hb118, hm⟩ := bnd hm
          obtain ⟨v119, ha120, r121⟩ := RL.at (hA_x_houses.up (Same.trans g42.ff (Same.trans g57.ff (Same.trans g74.ff g102.ff)))) hb118
          obtain rfl := R.int_v r121
          obtain ⟨p122, v125, v126, v127, v128, ev123, hS124, r129, r130, r131, r132⟩ := R.p4_v r_x_net
          obtain rfl := R.int_v r129
          obtain rfl := R.int_v r130
          obtain ⟨t133, hb134, hm⟩ := bnd hm
          obtain ⟨p135, ws136, ev137, hS138, hl139, hA140⟩ := R.lst_v r132
          obtain ⟨v141, ha142, r143⟩ := RL.at (hA140.up (Same.trans g42.ff (Same.trans g57.ff (Same.trans g74.ff g102.ff)))) hb134
          obtain rfl := R.int_v r143
          refine ⟨(V.ref p_x_houses), rfl, _, rfl, p_x_houses, ws_x_houses, _, (V.int t117), rfl, rfl, (g104.seq nm_x_houses hS_x_houses), ha120, v_x_net, rfl, p122, _, _, v128, ev123, rfl, (SqT_mono g104.fh (SqT_mono (Same.trans g42.ff (Same.trans g57.ff (Same.trans g74.ff g102.ff))) hS124)), rfl, v_x_order, rfl, p81, _, _, (V.int x_order.a), ev82, rfl, (SqT_mono g104.fh (SqT_mono (Same.trans g42.ff (Same.trans g57.ff (Same.trans g74.ff g102.ff))) hS83)), rfl, p135, ws136, _, (V.int t133), ev137, rfl, (Same.seq g104.fh (Same.seq (Same.trans g42.ff (Same.trans g57.ff (Same.trans g74.ff g102.ff))) hS138)), ha142, rfl, _, rfl, (iteB (fun hc => ?_) (fun hc => ?_))⟩
          · have hm := ifT hc hm
            refine p_ret ?_
            refine ⟨(by show 1 ≤ sizeLine; decide), fun p144 np145 => ?_⟩
            have ne146 := ow105.ne np145
            have ne147 := ow106.ne np145
            have sm148 := same_new (o := (.tup [(V.str ("goal" : Str))])) (g104.noneF np145)
            have g149 := g104.frz (o := (.tup [(V.str ("goal" : Str))])) np145
            have ow150 := ow105.frz (o := (.tup [(V.str ("goal" : Str))])) np145
            have ow151 := ow106.frz (o := (.tup [(V.str ("goal" : Str))])) np145
            have r152 : R K (upd F100 p144 (.tup [(V.str ("goal" : Str))])) (.ref p144) ((T1.mk ("goal" : Str)) : (T1 Str)) := R.mk1 fzT (Rp.str ("goal" : Str) ⟨by decide +kernel, by decide +kernel⟩)
            have r153 : R K (upd F100 p144 (.tup [(V.str ("goal" : Str))])) (V.ref p144) (some (((Sum.inl) (T1.mk ("goal" : Str))) : ((T1 Str) ⊕ (Str × Int)))) := r152
            obtain rfl := sjoin hm
            exact (hQ _ _ _ g149 r153)
          · have hm := ifF hc hm
            refine p_next ?_
            refine p_nx ?_
            refine p_seq ?_
            refine p_asg ?_
            obtain ⟨r154, hb155, hm⟩ := bnd hm
            refine ⟨v_x_order, rfl, (V.ref p_x_houses), rfl, F100, v_x_order, x_order, p_x_houses, ws_x_houses, x_houses, r154, rfl, g104.fh, (r_x_order.up (Same.trans g42.ff (Same.trans g57.ff (Same.trans g74.ff g102.ff)))), (g104.seq nm_x_houses hS_x_houses), hl_x_houses, (hA_x_houses.up (Same.trans g42.ff (Same.trans g57.ff (Same.trans g74.ff g102.ff)))), id, hb155, fun p159 ws160 F156 H157 g158 np161 h162 nF163 hl164 hA165 => ?_⟩
            have ne166 := ow105.ne np161
            have ne167 := ow106.ne np161
            have n0168 := g104.none0 np161
            have g169 := Gr.trans g104 g158
            have ow170 := ow105.gr0 g158
            have ow171 := ow106.gr0 g158
            have ow172 : Ow H0 F156 H157 p159 ws160 := ⟨h162, nF163, n0168⟩
            refine p_name ?_
            refine p_nx ?_
            refine p_seq ?_
            refine p_if ?_
            obtain ⟨t173, hb174, hm⟩ := bnd hm
            obtain ⟨v175, ha176, r177⟩ := RL.at hA165 hb174
            obtain ⟨p178, v181, v182, ev179, hS180, r183, r184⟩ := R.p2_v r177
            obtain rfl := R.int_v r183
            obtain rfl := R.int_v r184
            obtain ⟨p185, ws186, ev187, hS188, hl189, hA190⟩ := R.vt_v r89
            refine ⟨(V.ref p159), rfl, _, rfl, p159, ws160, _, v175, rfl, rfl, ow172.sq, ha176, p178, _, _, (V.int t173.1), ev179, rfl, (SqT_mono g169.fh hS180), rfl, v_x_order, rfl, p81, _, _, v85, ev82, rfl, (SqT_mono g169.fh (SqT_mono (Same.trans g42.ff (Same.trans g57.ff (Same.trans g74.ff (Same.trans g102.ff g158.ff)))) hS83)), rfl, p185, ws186, _, (by rw [ev187]), (.inr (SqT_mono g169.fh (SqT_mono (Same.trans g42.ff (Same.trans g57.ff (Same.trans g74.ff (Same.trans g102.ff g158.ff)))) hS188))), (RL.len (hA190.up (Same.trans g42.ff (Same.trans g57.ff (Same.trans g74.ff (Same.trans g102.ff g158.ff)))))), _, _, rfl, rfl, _, rfl, (iteB (fun hc => ?_) (fun hc => ?_))⟩
            · have hm := ifT hc hm
              refine p_ret ?_
              refine ⟨(by show 1 ≤ sizeLine; decide), fun p191 np192 => ?_⟩
              have ne193 := ow170.ne np192
              have ne194 := ow171.ne np192
              have ne195 := ow172.ne np192
              have sm196 := same_new (o := (.tup [(V.str ("by" : Str))])) (g169.noneF np192)
              have g197 := g169.frz (o := (.tup [(V.str ("by" : Str))])) np192
              have ow198 := ow170.frz (o := (.tup [(V.str ("by" : Str))])) np192
              have ow199 := ow171.frz (o := (.tup [(V.str ("by" : Str))])) np192
              have ow200 := ow172.frz (o := (.tup [(V.str ("by" : Str))])) np192
              have r201 : R K (upd F156 p191 (.tup [(V.str ("by" : Str))])) (.ref p191) ((T1.mk ("by" : Str)) : (T1 Str)) := R.mk1 fzT (Rp.str ("by" : Str) ⟨by decide +kernel, by decide +kernel⟩)
              have r202 : R K (upd F156 p191 (.tup [(V.str ("by" : Str))])) (V.ref p191) (some (((Sum.inl) (T1.mk ("by" : Str))) : ((T1 Str) ⊕ (Str × Int)))) := r201
              obtain rfl := sjoin hm
              exact (hQ _ _ _ g197 r202)
            · have hm := ifF hc hm
              refine p_next ?_
              refine p_nx ?_
              refine p_ret ?_
              obtain ⟨t203, hb204, hm⟩ := bnd hm
              obtain ⟨hk205, hls_⟩ := lsetT_ok hb204
              subst hls_
              refine ⟨(V.ref p159), rfl, p159, ws160, r154, rfl, ow172.sq, (RpA.up hA165 g169.fh), hk205, (V.ref p159), rfl, p159, ws160, _, rfl, (.inl ow172.sq), (RL.len hA165), _, _, rfl, rfl, _, rfl, ?_⟩
              refine ifJ (M := M0) (F := F156) (P := fun v' F' H' => R K F' v' ((if (decide ((((undup r154).length : Nat) : Int) < (((r154).length : Nat) : Int))) then (some (T1.mk ("twice" : Str))) else (none : (Option (T1 Str)))) : (Option (T1 Str)))) (fun ha => ?_) (fun ha => ?_) ?_
              · intro Q208 q209
                have ha : (decide ((((undup r154).length : Nat) : Int) < (((r154).length : Nat) : Int))) = true := ha
                refine ⟨(by show 1 ≤ sizeLine; decide), fun p210 np211 => ?_⟩
                have ne212 := ow170.ne np211
                have ne213 := ow171.ne np211
                have ne214 := ow172.ne np211
                have sm215 := same_new (o := (.tup [(V.str ("twice" : Str))])) (g169.noneF np211)
                have g216 := g169.frz (o := (.tup [(V.str ("twice" : Str))])) np211
                have g217 := (Gr.refl (M := M0) g169.fh).frz (o := (.tup [(V.str ("twice" : Str))])) np211
                have ow218 := ow170.frz (o := (.tup [(V.str ("twice" : Str))])) np211
                have ow219 := ow171.frz (o := (.tup [(V.str ("twice" : Str))])) np211
                have ow220 := ow172.frz (o := (.tup [(V.str ("twice" : Str))])) np211
                have r221 : R K (upd F156 p210 (.tup [(V.str ("twice" : Str))])) (.ref p210) ((T1.mk ("twice" : Str)) : (T1 Str)) := R.mk1 fzT (Rp.str ("twice" : Str) ⟨by decide +kernel, by decide +kernel⟩)
                exact (q209 _ _ _ g217 (by rw [if_pos ha]; exact r221))
              · intro Q222 q223
                have ha : (decide ((((undup r154).length : Nat) : Int) < (((r154).length : Nat) : Int))) = false := ha
                exact (q223 _ _ _ (Gr.refl (M := M0) g169.fh) (by rw [if_neg (ne_true_of_eq_false ha)]; exact Rp.non))
              intro v227 F224 H225 g226 hp228
              have g230 := Gr.trans g169 g226
              have ow231 := ow170.gr0 g226
              have ow232 := ow171.gr0 g226
              have ow233 := ow172.gr0 g226
              have r234 : R K F224 v227 ((((if (decide ((((undup r154).length : Nat) : Int) < (((r154).length : Nat) : Int))) then (some (T1.mk ("twice" : Str))) else (none : (Option (T1 Str))))).map (Sum.inl : (T1 Str) → ((T1 Str) ⊕ (Str × Int)))) : (Option ((T1 Str) ⊕ (Str × Int)))) := R.omap (fun _ => rfl) hp228
              obtain rfl := sjoin hm
              exact (hQ _ _ _ g230 r234)
end K22
namespace K22
open PySem PySem.Spec PyProof.Rows L2 TL G
theorem ok_l_bag {P : Program} {w : World} {K : PySem.W.Frag} {mg : Str → Option Value} {base : Heap} (T : Txt K mg) : FnOk P w K mg base CX0 1 T.a_l_bag T.d_l_bag ["_law_script"] (sp_l_bag K) := by
  refine fd_ok T.F_l_bag sc_l_bag (fun vs H Q E h => ?_) (fun cdv A outer s H0 vs Q E hr h => ?_)
  · obtain ⟨_, _, rfl, _⟩ := h
    rfl
  · obtain ⟨a, ns, rfl, hS, hl, hQ⟩ := h
    refine ⟨_, (pss_cons (ps_set (i := 1) sc_l_bag.nd rfl (.inl rfl) pe_int)
      (pss_cons (ps_for PassesOwn.never rfl (pi_list (pe_slice sl_list (pv 0) po_none (po_some pe_int))) (pg_name (i := 2) sc_l_bag.nd rfl (Or.inl rfl))
          (pss_one (ps_set (i := 1) sc_l_bag.nd rfl (.inl rfl) (pe_op op_mod (pe_op op_add (pe_op op_add (pe_op op_mul (pv 1) pe_int) (pe_op op_mod (pv 2) pe_int)) pe_int) pe_int))))
      (pss_one (ps_ret (pe_lst (pa_cons (pe_lc (own := [("_law_cell", 2)]) rfl sc_l_bag.nd (pi_list (pe_slice sl_list (pv 0) po_none (po_some pe_int)))
          (blkOk_by (own := [("_law_cell", 2)]) (N := N_l_bag) (sc := defScope s_l_bag) (by decide +kernel)) (fun _ _ _ _ _ => pg_name (i := 2) sc_l_bag.nd rfl (Or.inl rfl)) (fun _ _ _ _ _ => pts_nil)
          (fun _ _ _ _ _ => pe_op op_mod (pe_callB call_abs (by rfl) T.n_abs (by decide +kernel) (pa_cons (pv 2) pa_nil)) (pe_op op_powW (pe_op op_pow pe_int pe_int) pe_int)))
        (pa_cons pe_int (pa_cons pe_int (pa_cons (pv 1) (pa_cons pe_int pa_nil)))))))))), ?_⟩
    have g0 : Gr M0 (fun _ => none) H0 (fun _ => none) H0 := Gr.refl (fun _ _ h => nomatch h)
    have hcut : ∀ (lo hi : Option Int), cutV (ns.map V.int) lo hi = (cutL ns lo hi).map V.int := fun lo hi => by
      unfold cutV cutL
      rw [List.length_map, List.map_take, List.map_drop]
    have hcl : ∀ (lo hi : Option Int), (cutL ns lo hi).length ≤ 63 := fun lo hi => by
      unfold cutL
      rw [List.length_take, List.length_drop]
      omega
    refine p_seq ?_
    refine p_asg ?_
    refine p_name ?_
    refine p_nx ?_
    refine p_seq ?_
    refine p_for ?_
    refine ⟨.ref a, rfl, 63, rfl, a, ns.map V.int, rfl, hS, fun p np => ?_⟩
    rw [hcut]
    generalize hcs : cutL ns none (some 63) = cs
    have hc1 : cs.length ≤ 63 := by rw [← hcs]; exact hcl _ _
    have hc2 : (cs.map V.int).length = cs.length := List.length_map ..
    have g1 := g0.own (o := .lst (cs.map V.int)) np
    have ow1 : Ow H0 (fun _ => none) _ p (cs.map V.int) := Ow.new g0 np
    generalize hH1 : upd H0 p (.lst (cs.map V.int)) = H1 at g1 ow1 ⊢
    refine ⟨p, rfl, ⟨_, ow1.sq⟩, ?_⟩
    refine for_list (xs := cs.map V.int) (fun i σ' H' => ∃ (z : Int) (c : Option V), σ' = [some (.ref a), some (.int z), c] ∧ 0 ≤ z ∧ z < 2147483648 ∧ H' = H1) ⟨_, none, rfl, by decide, by decide, rfl⟩ (fun i σ' H' _ hP => ?_) (fun i x σ' H' hx hP => ?_) (fun σ' H' hP => ?_)
    · obtain ⟨z, c, _, _, _, rfl⟩ := hP
      exact ow1.sq
    · obtain ⟨z, c, rfl, h1, h2, rfl⟩ := hP
      obtain ⟨x, rfl⟩ : ∃ x', x = V.int x' := by
        rw [List.getElem?_map] at hx
        obtain ⟨y, _, e⟩ := Option.map_eq_some_iff.mp hx
        exact ⟨y, e.symm⟩
      refine p_asg ?_
      refine ⟨.int z, rfl, _, _, rfl, rfl, (.inr ⟨by decide, by decide⟩), .int x, rfl, _, _, rfl, rfl, (show (0 : Int) < 2147483629 by decide), _, _, rfl, rfl, _, _, rfl, rfl, _, _, rfl, rfl, (show (0 : Int) < 2147483647 by decide), ?_⟩
      refine ⟨_, _, rfl, Int.emod_nonneg _ (by decide), ?_, rfl⟩
      exact Int.lt_trans (Int.emod_lt_of_pos _ (by decide)) (by decide)
    · obtain ⟨z, c, rfl, h1, h2, rfl⟩ := hP
      refine p_nx ?_
      refine p_ret ?_
      have hS1 : SqL K H' a (ns.map V.int) := g1.seq id hS
      refine ⟨.ref a, rfl, 63, rfl, a, ns.map V.int, rfl, hS1, fun p2 np2 => ?_⟩
      rw [hcut, hcs]
      have g2 := g1.own (o := .lst (cs.map V.int)) np2
      have ow2 : Ow H0 (fun _ => none) _ p2 (cs.map V.int) := Ow.new g1 np2
      generalize hH2 : upd H' p2 (.lst (cs.map V.int)) = H2 at g2 ow2 ⊢
      refine ⟨p2, rfl, ⟨_, ow2.sq⟩, fun D nD => ?_⟩
      refine lc_list (xs := cs.map V.int) (fun i H' => ∃ ds : List Int, ds.length = i ∧ H' = upd H2 D (.lst (ds.map V.int))) ⟨[], rfl, rfl⟩ (fun i H' _ hP => ?_) (fun i x H' hx hP => ?_) (fun H' hP => ?_)
      · obtain ⟨ds, _, rfl⟩ := hP
        exact (ow2.own nD).sq
      · obtain ⟨ds, hds, rfl⟩ := hP
        have hi : i < cs.length := by rw [← hc2]; exact (List.getElem?_eq_some_iff.mp hx).1
        obtain ⟨x, rfl⟩ : ∃ x', x = V.int x' := by
          rw [List.getElem?_map] at hx
          obtain ⟨y, _, e⟩ := Option.map_eq_some_iff.mp hx
          exact ⟨y, e.symm⟩
        refine ⟨rfl, p_yes ?_⟩
        refine ⟨.int x, rfl, x, rfl, _, _, rfl, rfl, ⟨by decide, by decide, by decide⟩, _, _, rfl, rfl, ⟨by decide, by decide +kernel⟩, _, _, rfl, rfl, (show (0 : Int) < ((10 : Int) ^ (60 : Int).toNat) ^ (10 : Int).toNat by decide +kernel), ?_⟩
        refine ⟨_, upd_same, ?_, ds ++ [(if x < 0 then -x else x) % ((10 : Int) ^ (60 : Int).toNat) ^ (10 : Int).toNat], ?_, ?_⟩
        · rw [List.length_map, sizeLine_eq]; omega
        · rw [List.length_append, hds]; rfl
        · rw [upd_upd, List.map_append]; rfl
      · obtain ⟨ds, hds, rfl⟩ := hP
        rw [hc2] at hds
        refine ⟨.int z, rfl, (by show 5 ≤ sizeLine; decide), fun B nB => ?_⟩
        have hne : D ≠ B := fun e => by rw [← e, upd_same] at nB; cases nB
        exact hQ B D ⟨ds, 0, 0, z, 0⟩ (fun _ => none) _ (fun _ _ h => nomatch h) ⟨upd_same, by rw [upd_ne hne, upd_same], hne.symm, rfl, rfl⟩ ⟨h1, h2, by show ds.length ≤ 63; omega⟩ (((g2.own nD).own nB).seq id hS) (fun o ho z => by
          have m2 := g2.keep a o id ho
          rcases z with rfl | rfl
          · rw [upd_ne (fun e => by rw [e] at m2; rw [m2] at nD; cases nD)] at nB
            rw [m2] at nB
            cases nB
          · rw [m2] at nD
            cases nD)

end K22
namespace K22
open PySem PySem.Spec PyProof.Rows L2 TL G
theorem ok_l_stirred {P : Program} {w : World} {K : PySem.W.Frag} {mg : Str → Option Value} {base : Heap} (T : Txt K mg) : FnOk P w K mg base CX0 1 T.a_l_stirred T.d_l_stirred ["_law_bag_here", "_law_many"] (sp_l_stirred K) := by
  refine fd_ok T.F_l_stirred sc_l_stirred (fun vs H Q E h => ?_) (fun cdv A outer s H0 vs Q E hr h => ?_)
  · obtain ⟨_, _, _, _, _, _, _, rfl, _⟩ := h
    rfl
  · obtain ⟨F0, B, C, b, n, r, b', rfl, hS0, hB, hm, hQ⟩ := h
    refine ⟨_, (pss_cons (ps_set (i := 2) sc_l_stirred.nd rfl (.inl rfl) pe_int)
      (pss_cons (ps_for PassesOwn.never rfl (pi_range1 (by rfl) T.n_range (pa_cons (pe_op op_add pe_int (pe_op op_fdiv (pe_bits (pv 1)) pe_int)) pa_nil)) (pg_name (i := 3) sc_l_stirred.nd rfl (Or.inl rfl))
          (pss_cons (ps_asg (pe_op op_add (pe_ix ix_list (pv 0) pe_int (fun _ _ => rfl)) pe_int) (pg_sub (pv 0) pe_int set_list))
          (pss_cons (ps_asg (pe_op op_mod (pe_op op_add (pe_op op_add (pe_op op_add (pe_op op_pow (pe_ix ix_list (pv 0) pe_int (fun _ _ => rfl)) pe_int) (pe_op op_mul pe_int (pe_ix ix_list (pv 0) pe_int (fun _ _ => rfl)))) (pe_op op_mul pe_int (pe_ix ix_list (pv 0) pe_int (fun _ _ => rfl)))) pe_int) pe_int) (pg_sub (pv 0) pe_int set_list))
          (pss_one (ps_set (i := 2) sc_l_stirred.nd rfl (.inl rfl) (pe_op op_add (pe_op op_mul (pv 2) pe_int) (pe_op op_fdiv (pe_ix ix_list (pv 0) pe_int (fun _ _ => rfl)) pe_int)))))))
      (pss_one (ps_ret (pe_op op_mod (pv 2) (pv 1)))))), ?_⟩
    have g0 : Gr (Bc B C) F0 H0 F0 H0 := Gr.refl hS0
    unfold m_l_stirred at hm
    have hc : (0 < n ∧ Builtin.Int.intBits n < 9000) ∧ (0 ≤ b.stir ∧ b.stir < 2147483648) := by
      by_cases hc : (0 < n ∧ Builtin.Int.intBits n < 9000) ∧ (0 ≤ b.stir ∧ b.stir < 2147483648)
      · exact hc
      · rw [if_neg hc] at hm; cases hm
    rw [if_pos hc] at hm
    obtain ⟨⟨hn, hn2⟩, hs0, hs1⟩ := hc
    obtain ⟨cs, a0, lf, sd, ct⟩ := b
    simp only at hm hs0 hs1
    obtain ⟨rfl, rfl⟩ := pjoin hm
    have lB : ∀ {H : Hp} {a : Nat} {l z c : Int}, BagAt F0 H B C ⟨cs, a, l, z, c⟩ → SqL K H B [V.ref C, .int (a : Nat), .int l, .int z, .int c] := fun h => .inl (.inl h.hB)
    refine p_seq ?_
    refine p_asg ?_
    refine p_name ?_
    refine p_nx ?_
    refine p_seq ?_
    refine p_for ?_
    generalize hbn : Builtin.Int.intBits n = bn at hn2 ⊢
    have htn : ((1 : Int) + ((bn : Nat) : Int) / 27).toNat = 1 + bn / 27 := by omega
    refine ⟨.int n, rfl, n, rfl, _, _, rfl, rfl, ⟨by decide, by decide⟩, _, _, rfl, rfl, (1 : Int) + ((bn : Nat) : Int) / 27, by rw [← hbn], by omega, by omega, ?_⟩
    rw [htn]
    refine for_range (lo := 0) (n := 1 + bn / 27) (fun i σ' H' => ∃ (o : Option V), σ' = [some (.ref B), some (.int n), some (.int (stirN sd ct i).2.2), o] ∧ Gr (Bc B C) F0 H0 F0 H' ∧ BagAt F0 H' B C ⟨cs, a0, lf, (stirN sd ct i).1, (stirN sd ct i).2.1⟩ ∧ 0 ≤ (stirN sd ct i).1 ∧ (stirN sd ct i).1 < 2147483648) ⟨none, rfl, g0, hB, hs0, hs1⟩ (fun i σ' H' hi hP => ?_) (fun σ' H' hP => ?_)
    · obtain ⟨o, rfl, g, hB, h0, h1⟩ := hP
      generalize hS : stirN sd ct i = S at hB h0 h1 ⊢
      obtain ⟨z, c, f⟩ := S
      have hS' : stirN sd ct (i + 1) = (nxt z (c + 1), c + 1, f * 134217728 + nxt z (c + 1) / 16) := by
        show (nxt (stirN sd ct i).1 ((stirN sd ct i).2.1 + 1), (stirN sd ct i).2.1 + 1, (stirN sd ct i).2.2 * 134217728 + nxt (stirN sd ct i).1 ((stirN sd ct i).2.1 + 1) / 16) = _
        rw [hS]
      simp only at hB h0 h1 ⊢
      have hpow : CPow z 3 := ⟨by decide, by decide, by omega⟩
      refine p_seq ?_
      refine p_asg ?_
      refine ⟨_, rfl, _, _, 4, .int c, rfl, rfl, lB hB, rfl, _, _, rfl, rfl, _, rfl, B, _, 4, 4, rfl, rfl, hB.hB, rfl, ?_⟩
      have hB2 := G.BagAt2.put (b' := ⟨cs, a0, lf, z, c + 1⟩) hB rfl
      have g2 := g.mut (o := .lst [.ref C, .int (a0 : Nat), .int lf, .int z, .int (c + 1)]) hB.fB (.inr (.inl rfl))
      refine p_nx ?_
      refine p_seq ?_
      refine p_asg ?_
      refine ⟨_, rfl, _, _, 3, .int z, rfl, rfl, lB hB2, rfl, _, _, rfl, rfl, hpow, _, rfl, _, _, 3, .int z, rfl, rfl, lB hB2, rfl, _, _, rfl, rfl, (.inl ⟨by decide, by decide⟩), _, _, rfl, rfl, _, rfl, _, _, 4, .int (c + 1), rfl, rfl, lB hB2, rfl, _, _, rfl, rfl, (.inl ⟨by decide, by decide⟩), _, _, rfl, rfl, _, _, rfl, rfl, _, _, rfl, rfl, (show (0 : Int) < 2147483647 by decide), _, rfl, B, _, 3, 3, rfl, rfl, hB2.hB, rfl, ?_⟩
      have hB3 := G.BagAt2.put (b' := ⟨cs, a0, lf, nxt z (c + 1), c + 1⟩) hB2 rfl
      have g3 := g2.mut (o := .lst [.ref C, .int (a0 : Nat), .int lf, .int (nxt z (c + 1)), .int (c + 1)]) hB2.fB (.inr (.inl rfl))
      refine p_nx ?_
      refine p_asg ?_
      refine ⟨.int f, rfl, _, _, rfl, rfl, (.inr ⟨by decide, by decide⟩), _, rfl, _, _, 3, .int (nxt z (c + 1)), rfl, rfl, lB hB3, rfl, _, _, rfl, rfl, ⟨by decide, by decide⟩, _, _, rfl, rfl, ?_⟩
      refine p_name ?_
      refine ⟨_, by rw [hS'] <;> rfl, g3, by rw [hS']; exact hB3, ?_, ?_⟩
      · rw [hS']; exact Int.emod_nonneg _ (by decide)
      · rw [hS']
        have : nxt z (c + 1) < 2147483647 := Int.emod_lt_of_pos _ (by decide)
        show nxt z (c + 1) < 2147483648
        omega
    · obtain ⟨o, rfl, g, hB, h0, h1⟩ := hP
      refine p_nx ?_
      refine p_ret ?_
      refine ⟨_, rfl, .int n, rfl, _, _, rfl, rfl, hn, ?_⟩
      subst hbn
      exact hQ _ _ g hB
theorem ok_l_draw {P : Program} {w : World} {K : PySem.W.Frag} {mg : Str → Option Value} {base : Heap} (T : Txt K mg) : FnOk P w K mg base CX0 2 T.a_l_draw T.d_l_draw ["_law_bag_here", "_law_many"] (sp_l_draw K) := by
  have G_l_stirred : FnOk P w K mg base CX0 1 T.a_l_stirred T.d_l_stirred ["_law_bag_here", "_law_many"] (sp_l_stirred K) := ok_l_stirred T
  have b_l_stirred := T.F_l_stirred.bindsN (ps := ["_law_bag_here", "_law_many"]) fun _ _ _ _ _ _ us hl => match us, hl with | [_, _], _ => rfl
  refine fd_ok T.F_l_draw sc_l_draw (fun vs H Q E h => ?_) (fun cdv A outer s H0 vs Q E hr h => ?_)
  · obtain ⟨_, _, _, _, _, _, _, rfl, _⟩ := h
    rfl
  · obtain ⟨F0, B, C, b, n, r, b', rfl, hS0, hB, hm, hQ⟩ := h
    refine ⟨_, (pss_cons (ps_if (PW.pt (pw_and (pt_cmpR op_eq (pe_ix ix_list (pv 0) pe_int (fun _ _ => rfl)) pe_int (nomark _)) (pw_and1 (pt_cmpR op_lt (pe_ix ix_list (pv 0) pe_int (fun _ _ => rfl)) (pe_callB call_lenL (by rfl) T.n_len (by decide +kernel) (pa_cons (pe_ix ix_list (pv 0) pe_int (fun _ _ => rfl)) pa_nil)) (nomark _)))))
          (pss_cons (ps_asg (pe_ix ix_list (pe_ix ix_list (pv 0) pe_int (fun _ _ => rfl)) (pe_ix ix_list (pv 0) pe_int (fun _ _ => rfl)) (fun _ _ => rfl)) (pg_sub (pv 0) pe_int set_list))
          (pss_one (ps_asg (pe_op op_add (pe_ix ix_list (pv 0) pe_int (fun _ _ => rfl)) pe_int) (pg_sub (pv 0) pe_int set_list))))
          (pss_one (ps_if (pt_cmpR op_eq (pe_ix ix_list (pv 0) pe_int (fun _ _ => rfl)) pe_int (nomark _)) (pss_one (ps_ret (pe_call G_l_stirred (hr.mono (by decide)) (by rfl) T.g_l_stirred T.F_l_stirred.kp b_l_stirred .nil pass0 (pa_cons (pv 0) (pa_cons (pv 1) pa_nil))))) pss_nil)))
      (pss_cons (ps_set (i := 2) sc_l_draw.nd rfl (.inl rfl) (pe_op op_mod (pe_ix ix_list (pv 0) pe_int (fun _ _ => rfl)) (pv 1)))
      (pss_cons (ps_asg (pe_op op_fdivW (pe_ix ix_list (pv 0) pe_int (fun _ _ => rfl)) (pv 1)) (pg_sub (pv 0) pe_int set_list))
      (pss_one (ps_ret (pv 2)))))), ?_⟩
    have g0 : Gr (Bc B C) F0 H0 F0 H0 := Gr.refl hS0
    unfold m_l_draw at hm
    have hc : (0 < n ∧ n.natAbs.log2 < 9000) ∧ b.cells.length ≤ sizeLine := by
      by_cases hc : (0 < n ∧ n.natAbs.log2 < 9000) ∧ b.cells.length ≤ sizeLine
      · exact hc
      · rw [if_neg hc] at hm; cases hm
    rw [if_pos hc] at hm
    obtain ⟨⟨hn, hn2⟩, hsz⟩ := hc
    obtain ⟨cs, a, lf, sd, ct⟩ := b
    simp only at hm hsz
    have lB : ∀ {H : Hp} {a : Nat} {l z c : Int}, BagAt F0 H B C ⟨cs, a, l, z, c⟩ → SqL K H B [V.ref C, .int (a : Nat), .int l, .int z, .int c] := fun h => .inl (.inl h.hB)
    have lC : ∀ {H : Hp} {b1 : Bag}, BagAt F0 H B C b1 → SqL K H C (b1.cells.map V.int) := fun h => .inl (.inl h.hC)
    have hz : (cs.map V.int).length = cs.length := List.length_map ..
    refine p_seq ?_
    refine p_if ?_
    refine ⟨_, rfl, _, _, 2, .int lf, rfl, rfl, lB hB, rfl, rfl, _, rfl, ?_⟩
    by_cases h0 : lf = 0
    · subst h0
      rw [if_pos rfl] at hm
      refine ifTr (decide_eq_true rfl) ?_
      refine ⟨_, rfl, _, _, 1, .int (a : Nat), rfl, rfl, lB hB, rfl, _, rfl, _, _, 0, .ref C, rfl, rfl, lB hB, rfl, C, _, _, rfl, .inl (lC hB), hz, _, _, rfl, rfl, _, rfl, ?_⟩
      by_cases hl : a < cs.length
      · obtain ⟨x, hx⟩ : ∃ x, cs[a]? = some x := ⟨_, List.getElem?_eq_getElem hl⟩
        rw [hx] at hm
        obtain ⟨rfl, rfl⟩ := pjoin hm
        refine ifTr (decide_eq_true (Int.ofNat_lt.mpr hl)) ?_
        refine p_seq ?_
        refine p_asg ?_
        refine ⟨_, rfl, _, _, 0, .ref C, rfl, rfl, lB hB, rfl, _, rfl, _, _, 1, .int (a : Nat), rfl, rfl, lB hB, rfl, _, _, (a : Nat), .int x, rfl, rfl, lC hB, atI_map hx, _, rfl, B, _, 2, 2, rfl, rfl, hB.hB, rfl, ?_⟩
        have hB2 := G.BagAt2.put (b' := ⟨cs, a, x, sd, ct⟩) hB rfl
        have g2 := g0.mut (o := .lst [.ref C, .int (a : Nat), .int x, .int sd, .int ct]) hB.fB (.inr (.inl rfl))
        refine p_nx ?_
        refine p_asg ?_
        refine ⟨_, rfl, _, _, 1, .int (a : Nat), rfl, rfl, lB hB2, rfl, _, _, rfl, rfl, _, rfl, B, _, 1, 1, rfl, rfl, hB2.hB, rfl, ?_⟩
        have hB3 := G.BagAt2.put (b' := ⟨cs, a + 1, x, sd, ct⟩) hB2 rfl
        have g3 := g2.mut (o := .lst [.ref C, .int ((a + 1 : Nat) : Int), .int x, .int sd, .int ct]) hB2.fB (.inr (.inl rfl))
        refine p_nx ?_
        refine p_seq ?_
        refine p_asg ?_
        refine ⟨_, rfl, _, _, 2, .int x, rfl, rfl, lB hB3, rfl, .int n, rfl, _, _, rfl, rfl, hn, ?_⟩
        refine p_name ?_
        refine p_nx ?_
        refine p_seq ?_
        refine p_asg ?_
        refine ⟨_, rfl, _, _, 2, .int x, rfl, rfl, lB hB3, rfl, .int n, rfl, x, n, rfl, rfl, ⟨hn, hn2⟩, _, rfl, B, _, 2, 2, rfl, rfl, hB3.hB, rfl, ?_⟩
        refine p_nx ?_
        refine p_ret ?_
        refine ⟨_, rfl, ?_⟩
        exact hQ _ _ (g3.mut hB3.fB (.inr (.inl rfl))) (G.BagAt2.put (b' := ⟨cs, a + 1, x / n, sd, ct⟩) hB3 rfl)
      · rw [List.getElem?_eq_none (by omega)] at hm
        refine ifFr (decide_eq_false fun e => hl (Int.ofNat_lt.mp e)) ?_
        refine p_if ?_
        refine ⟨_, rfl, _, _, 2, .int 0, rfl, rfl, lB hB, rfl, rfl, _, rfl, ?_⟩
        refine ifTr (decide_eq_true rfl) ?_
        refine p_ret ?_
        refine ⟨.ref B, rfl, .int n, rfl, F0, B, C, _, n, r, b', rfl, g0.fh, hB, hm, fun F' H' g hB' => ?_⟩
        exact hQ _ _ (g0.trans g) hB'
    · rw [if_neg h0] at hm
      obtain ⟨rfl, rfl⟩ := pjoin hm
      refine ifFr (decide_eq_false fun e => h0 (V.int.inj e)) ?_
      refine ifFr rfl ?_
      refine p_if ?_
      refine ⟨_, rfl, _, _, 2, .int lf, rfl, rfl, lB hB, rfl, rfl, _, rfl, ?_⟩
      refine ifFr (decide_eq_false fun e => h0 (V.int.inj e)) ?_
      refine p_next ?_
      refine p_nx ?_
      refine p_seq ?_
      refine p_asg ?_
      refine ⟨_, rfl, _, _, 2, .int lf, rfl, rfl, lB hB, rfl, .int n, rfl, _, _, rfl, rfl, hn, ?_⟩
      refine p_name ?_
      refine p_nx ?_
      refine p_seq ?_
      refine p_asg ?_
      refine ⟨_, rfl, _, _, 2, .int lf, rfl, rfl, lB hB, rfl, .int n, rfl, lf, n, rfl, rfl, ⟨hn, hn2⟩, _, rfl, B, _, 2, 2, rfl, rfl, hB.hB, rfl, ?_⟩
      refine p_nx ?_
      refine p_ret ?_
      refine ⟨_, rfl, ?_⟩
      exact hQ _ _ (g0.mut hB.fB (.inr (.inl rfl))) (G.BagAt2.put (b' := ⟨cs, a, lf / n, sd, ct⟩) hB rfl)

end K22
namespace K22
open PySem PySem.Spec PyProof.Rows L2 TL G
theorem ok_al1 {P : Program} {w : World} {K : PySem.W.Frag} {mg : Str → Option Value} {base : Heap} (T : Txt K mg) (n : Nat) (ih : FnOk P w K mg base CX0 n T.a_l_alike T.d_l_alike ["_law_found", "_law_due"] (spA n K)) : FnOk P w K mg base CX0 (n + 1) T.a_l_alike T.d_l_alike ["_law_found", "_law_due"] (sp_alike n K) := by
  have b_l_alike := T.F_l_alike.bindsN (ps := ["_law_found", "_law_due"]) fun _ _ _ _ _ _ us hl => match us, hl with | [_, _], _ => rfl
  refine fd_ok T.F_l_alike sc_l_alike (fun vs H Q E h => ?_) (fun cdv A outer s H0 vs Q E hr h => ?_)
  · obtain ⟨_, _, _, rfl, _⟩ := h
    rfl
  · obtain ⟨v1, v2, d, rfl, r1, r2, hd, hQ⟩ := h
    refine ⟨_, (pss_cons (ps_if (pt_val (pe_callB call_isiT (by rfl) T.n_isinstance (by decide +kernel) (pa_cons (pv 1) (pa_cons (pe_tup (pa_cons (pe_bltn (v := .ty "list") (by rfl) T.n_list (by decide +kernel) rfl) (pa_cons (pe_bltn (v := .ty "tuple") (by rfl) T.n_tuple (by decide +kernel) rfl) pa_nil))) pa_nil))))
        (pss_cons (ps_if (PW.pt (pw_or (pt_not (pt_val (pe_callB call_isiT (by rfl) T.n_isinstance (by decide +kernel) (pa_cons (pv 0) (pa_cons (pe_tup (pa_cons (pe_bltn (v := .ty "list") (by rfl) T.n_list (by decide +kernel) rfl) (pa_cons (pe_bltn (v := .ty "tuple") (by rfl) T.n_tuple (by decide +kernel) rfl) pa_nil))) pa_nil)))))
            (pw_or1 (pt_cmpR op_ne (pe_callB call_isi (by rfl) T.n_isinstance (by decide +kernel) (pa_cons (pv 0) (pa_cons (pe_bltn (v := .ty "list") (by rfl) T.n_list (by decide +kernel) rfl) pa_nil))) (pe_callB call_isi (by rfl) T.n_isinstance (by decide +kernel) (pa_cons (pv 1) (pa_cons (pe_bltn (v := .ty "list") (by rfl) T.n_list (by decide +kernel) rfl) pa_nil))) (nomark _))))) (pss_one (ps_ret pe_bl)) pss_nil)
          (pss_cons (ps_if (pt_cmpR op_ne (pe_callB call_lenL (by rfl) T.n_len (by decide +kernel) (pa_cons (pv 0) pa_nil)) (pe_callB call_lenL (by rfl) T.n_len (by decide +kernel) (pa_cons (pv 1) pa_nil)) (nomark _)) (pss_one (ps_ret pe_bl)) pss_nil)
          (pss_one (ps_ret (pe_callB (cr_all rfl) (by rfl) T.n_all (by decide +kernel) (pa_cons (pe_lc (own := [("_law_k", 2)]) rfl sc_l_alike.nd (pi_range1 (by rfl) T.n_range (pa_cons (pe_callB call_lenL (by rfl) T.n_len (by decide +kernel) (pa_cons (pv 1) pa_nil)) pa_nil))
              (blkOk_by (own := [("_law_k", 2)]) (N := N_l_alike) (sc := defScope s_l_alike) (by decide +kernel)) (fun _ _ _ _ _ => pg_name (i := 2) sc_l_alike.nd rfl (Or.inl rfl)) (fun _ _ _ _ _ => pts_nil)
              (fun _ _ _ _ _ => pe_call ih hr (by rfl) T.g_l_alike T.F_l_alike.kp b_l_alike .nil pass0 (pa_cons (pe_ix (r := rIx K) ix_seq (pv 0) (pv 2) (fun _ _ => rfl)) (pa_cons (pe_ix (r := rIx K) ix_seq (pv 1) (pv 2) (fun _ _ => rfl)) pa_nil)))) pa_nil)))))) pss_nil)
      (pss_cons (ps_if (PW.pt (pw_or (pt_cmpR op_ne (pe_callB call_isi (by rfl) T.n_isinstance (by decide +kernel) (pa_cons (pv 0) (pa_cons (pe_bltn (v := .ty "bool") (by rfl) T.n_bool (by decide +kernel) rfl) pa_nil))) (pe_callB call_isi (by rfl) T.n_isinstance (by decide +kernel) (pa_cons (pv 1) (pa_cons (pe_bltn (v := .ty "bool") (by rfl) T.n_bool (by decide +kernel) rfl) pa_nil))) (nomark _)) (pw_or1 (pt_cmpR op_ne (pe_callB call_isi (by rfl) T.n_isinstance (by decide +kernel) (pa_cons (pv 0) (pa_cons (pe_bltn (v := .ty "int") (by rfl) T.n_int (by decide +kernel) rfl) pa_nil))) (pe_callB call_isi (by rfl) T.n_isinstance (by decide +kernel) (pa_cons (pv 1) (pa_cons (pe_bltn (v := .ty "int") (by rfl) T.n_int (by decide +kernel) rfl) pa_nil))) (nomark _))))) (pss_one (ps_ret pe_bl)) pss_nil)
        (pss_one (ps_ret (pe_and (pe_cmpR op_eq (pe_callB call_isi (by rfl) T.n_isinstance (by decide +kernel) (pa_cons (pv 0) (pa_cons (pe_bltn (v := .ty "str") (by rfl) T.n_str (by decide +kernel) rfl) pa_nil))) (pe_callB call_isi (by rfl) T.n_isinstance (by decide +kernel) (pa_cons (pv 1) (pa_cons (pe_bltn (v := .ty "str") (by rfl) T.n_str (by decide +kernel) rfl) pa_nil))) (nomark _)) (pe_one (pe_cmpR op_eq (pv 0) (pv 1) (nomark _)))))))), ?_⟩
    have g0 : Gr M0 H0 H0 H0 H0 := Gr.refl (Same.refl _)
    refine p_seq ?_
    refine p_if ?_
    refine ⟨v2, rfl, (by show 2 ≤ sizeLine; decide), fun p1 np1 => ?_⟩
    refine ⟨v2, p1, [.ty "list", .ty "tuple"], _, [.type "list", .type "tuple"], _, rfl, upd_same, .cons (.ty _) (.cons (.ty _) .nil), (r2.up (same_new np1)).ty, kit_lt r2.knd, _, rfl, ?_⟩
    have g1 := g0.frz (o := .tup [.ty "list", .ty "tuple"]) np1
    have q1 := r1.up (same_new (o := .tup [.ty "list", .ty "tuple"]) np1)
    have q2 := r2.up (same_new (o := .tup [.ty "list", .ty "tuple"]) np1)
    generalize upd H0 p1 (.tup [.ty "list", .ty "tuple"]) = H1 at g1 q1 q2 ⊢
    refine iteB (fun hc => ?_) (fun hc => ?_)
    · refine p_seq ?_
      refine p_if ?_
      refine ⟨v1, rfl, (by show 2 ≤ sizeLine; decide), fun p2 np2 => ?_⟩
      refine ⟨v1, p2, [.ty "list", .ty "tuple"], _, [.type "list", .type "tuple"], _, rfl, upd_same, .cons (.ty _) (.cons (.ty _) .nil), (q1.up (same_new np2)).ty, kit_lt q1.knd, _, rfl, ?_⟩
      have g2 := g1.frz (o := .tup [.ty "list", .ty "tuple"]) np2
      have t1 := q1.up (same_new (o := .tup [.ty "list", .ty "tuple"]) np2)
      have t2 := q2.up (same_new (o := .tup [.ty "list", .ty "tuple"]) np2)
      generalize upd H1 p2 (.tup [.ty "list", .ty "tuple"]) = H2 at g2 t1 t2 ⊢
      refine ifFr (by rw [hc]; rfl) ?_
      refine ⟨v1, rfl, v1, .ty "list", _, .type "list", _, rfl, .ty _, t1.ty, kit_one t1.knd "list" (.inl rfl), v2, rfl, v2, .ty "list", _, .type "list", _, rfl, .ty _, t2.ty, kit_one t2.knd "list" (.inl rfl), rfl, _, rfl, ?_⟩
      refine ifFr (by simp) ?_
      refine p_next ?_
      refine p_nx ?_
      obtain ⟨a1, ws1, a2, ws2, ds, m, rfl, rfl, s1, s2, l1, l2, e1, e2, hn, hdp⟩ := al_sq t1 t2 hc hd
      subst hn
      refine p_seq ?_
      refine p_if ?_
      refine ⟨_, rfl, a1, ws1, _, rfl, s1, rfl, _, rfl, a2, ws2, _, rfl, s2, rfl, rfl, _, rfl, ?_⟩
      refine ifFr (by rw [e1.length, e2.length]; simp) ?_
      refine p_next ?_
      refine p_nx ?_
      refine p_ret ?_
      have hl2 : (ws2.length : Int) < 2 ^ 62 := by
        have := l2
        rw [sizeLine_eq] at this
        omega
      refine ⟨_, rfl, a2, ws2, _, rfl, s2, rfl, _, rfl, (by omega), hl2, fun D nD => ?_⟩
      refine lc_range (lo := 0) (n := ((ws2.length : Nat) : Int).toNat) (fun i H' => Gr M0 H0 H0 H2 H' ∧ Ow H0 H2 H' D (List.replicate i (.bl true))) ⟨g2.own nD, Ow.new g2 nD⟩ (fun i H' hi hP => ?_) (fun H' hP => ?_)
      · obtain ⟨g, ow⟩ := hP
        refine ⟨rfl, p_yes ?_⟩
        have hi2 : i < ws2.length := by simpa using hi
        obtain ⟨u2, hu2⟩ : ∃ u, ws2[i]? = some u := ⟨_, List.getElem?_eq_getElem hi2⟩
        obtain ⟨di, hdi, ru2⟩ := e2.get hu2
        obtain ⟨u1, hu1, ru1⟩ := e1.back hdi
        refine ⟨_, rfl, _, rfl, ix_go (sq_up s1 g.fh) hu1 ⟨_, rfl, _, rfl, ix_go (sq_up s2 g.fh) hu2 ?_⟩⟩
        refine ⟨u1, u2, di, rfl, ru1.up g.fh, ru2.up g.fh, hdp di (List.mem_of_getElem? hdi), fun F1 H3 g3 => ?_⟩
        have g4 := Gr.apart g g3
        have ow4 := ow.apart g3
        refine ⟨_, ow4.h, ?_, ?_⟩
        · rw [List.length_replicate]; omega
        · have e : List.replicate i (V.bl true) ++ [V.bl true] = List.replicate (i + 1) (V.bl true) := List.replicate_succ'.symm
          rw [e]
          exact ⟨g4.put ow4, ow4.put⟩
      · obtain ⟨g, ow⟩ := hP
        refine ⟨D, List.replicate (((ws2.length : Nat) : Int).toNat) true, rfl, ?_, ?_⟩
        · rw [List.map_replicate]; exact ow.sq
        · rw [show (List.replicate (((ws2.length : Nat) : Int).toNat) true).all id = true by simp]
          exact hQ _ _ g
    · refine p_next ?_
      refine p_nx ?_
      have hv : v1 = v2 ∧ scal v1 v2 = true := al_sc q1 q2 hc
      refine p_seq ?_
      refine p_if ?_
      refine ⟨v1, rfl, v1, .ty _, _, .type _, _, rfl, .ty _, q1.ty, kit_one q1.knd _ (.inr (.inl rfl)), v2, rfl, v2, .ty _, _, .type _, _, rfl, .ty _, q2.ty, kit_one q2.knd _ (.inr (.inl rfl)), rfl, _, rfl, ?_⟩
      refine ifFr (by simp) ?_
      refine ⟨v1, rfl, v1, .ty _, _, .type _, _, rfl, .ty _, q1.ty, kit_int q1.knd, v2, rfl, v2, .ty _, _, .type _, _, rfl, .ty _, q2.ty, kit_int q2.knd, rfl, _, rfl, ?_⟩
      refine ifFr (by simp) ?_
      refine p_next ?_
      refine p_nx ?_
      refine p_ret ?_
      refine ⟨v1, rfl, v1, .ty _, _, .type _, _, rfl, .ty _, q1.ty, kit_one q1.knd _ (.inr (.inr rfl)), v2, rfl, v2, .ty _, _, .type _, _, rfl, .ty _, q2.ty, kit_one q2.knd _ (.inr (.inr rfl)), rfl, ?_⟩
      refine ⟨_, rfl, ifTr (decide_eq_true rfl) ?_⟩
      refine ⟨v1, rfl, v2, rfl, hv.2, ?_⟩
      rw [decide_eq_true hv.1]
      exact hQ _ _ g1
theorem ok_l_alike {P : Program} {w : World} {K : PySem.W.Frag} {mg : Str → Option Value} {base : Heap} (T : Txt K mg) : ∀ n : Nat, FnOk P w K mg base CX0 n T.a_l_alike T.d_l_alike ["_law_found", "_law_due"] (spA n K)
  | 0 => ⟨fun _ _ _ _ h => h.elim, fun _ _ _ _ _ _ _ _ _ _ _ _ _ h => h.elim⟩
  | n + 1 => ok_al1 T n (ok_l_alike T n)

end K22
namespace K22
open PySem PySem.Spec PyProof.Rows L2 TL G
theorem ok_l_liked {P : Program} {w : World} {K : PySem.W.Frag} {mg : Str → Option Value} {base : Heap} (T : Txt K mg) : FnOk P w K mg base CX0 1 T.a_l_liked T.d_l_liked ["_law_style", "_law_pair", "_law_homes"] (sp_l_liked K) := by
  refine fd_ok T.F_l_liked sc_l_liked (fun vs H Q E h => ?_) (fun cdv A outer s H0 vs Q E hr h => ?_)
  · obtain ⟨_, _, _, _, _, rfl, _⟩ := h
    rfl
  · obtain ⟨y_style, v_y_pair, y_pair, y_homes, r, rfl, r_y_pair, hm, hQ⟩ := h
    refine ⟨_, (pss_cons (ps_set (i := 3) sc_l_liked.nd rfl (.inl rfl) (pe_op op_sub (pe_ix (ix_tupK (K := K)) (pv 1) pe_int (fun _ _ => rfl)) (pe_ix (ix_tupK (K := K)) (pv 1) pe_int (fun _ _ => rfl)))) (pss_cons (ps_if (pt_cmpR op_eq (pv 0) pe_int (nomark _)) (pss_one (ps_ret (pe_cmpR op_eq (pv 3) pe_int (nomark _)))) pss_nil) (pss_cons (ps_if (pt_cmpR op_eq (pv 0) pe_int (nomark _)) (pss_one (ps_ret (pe_cmpR (op_inI (K := K)) (pv 3) (pe_lst (pa_cons pe_int (pa_cons (pe_op op_sub (pv 2) pe_int) pa_nil))) rfl))) pss_nil) (pss_one (ps_ret (pe_and (pe_cmpR op_eq (pv 0) pe_int (nomark _)) (pe_one (pe_or (pe_cmpR op_eq (pv 3) pe_int (nomark _)) (pe_one (pe_and (pe_cmpR op_eq (pv 3) pe_int (nomark _)) (pe_one (pe_cmpR op_gt (pe_op op_mod (pe_ix (ix_tupK (K := K)) (pv 1) pe_int (fun _ _ => rfl)) pe_int) pe_int (nomark _))))))))))))), ?_⟩
    have g0 : Gr M0 H0 H0 H0 H0 := Gr.refl (Same.refl _)
    unfold m_l_liked at hm
    refine p_seq ?_
    refine p_asg ?_
    obtain ⟨p1, v4, v5, ev2, hS3, r6, r7⟩ := R.p2_v r_y_pair
    obtain rfl := R.int_v r6
    obtain rfl := R.int_v r7
    refine ⟨v_y_pair, rfl, p1, _, _, (V.int y_pair.2), ev2, rfl, (SqT_mono g0.fh hS3), rfl, v_y_pair, rfl, p1, _, _, (V.int y_pair.1), ev2, rfl, (SqT_mono g0.fh hS3), rfl, _, _, rfl, rfl, ?_⟩
    obtain ⟨y_apart8, hb9, hm⟩ := bnd hm
    have hx10 : (y_pair.2 - y_pair.1) = y_apart8 := sjoin hb9
    refine p_nm (v' := (V.int y_apart8)) (congrArg V.int hx10) ?_
    refine p_nx ?_
    refine p_seq ?_
    refine p_if ?_
    refine ⟨(V.int y_style), rfl, rfl, _, rfl, (iteB (fun hc => ?_) (fun hc => ?_))⟩
    · have hm := ifT hc hm
      refine p_ret ?_
      obtain rfl := sjoin hm
      refine ⟨(V.int y_apart8), rfl, rfl, (hQ _ _ g0)⟩
    · have hm := ifF hc hm
      refine p_next ?_
      refine p_nx ?_
      refine p_seq ?_
      refine p_if ?_
      refine ⟨(V.int y_style), rfl, rfl, _, rfl, (iteB (fun hc => ?_) (fun hc => ?_))⟩
      · have hm := ifT hc hm
        refine p_ret ?_
        refine ⟨(V.int y_apart8), rfl, (V.int y_homes), rfl, _, _, rfl, rfl, (by show 2 ≤ sizeLine; decide), fun p11 np12 => ?_⟩
        have g13 := g0.own (o := (.lst [(V.int (1 : Int)), (V.int (y_homes - (1 : Int)))])) np12
        have ow14 : Ow H0 H0 (upd H0 p11 (.lst [(V.int (1 : Int)), (V.int (y_homes - (1 : Int)))])) p11 [(V.int (1 : Int)), (V.int (y_homes - (1 : Int)))] := Ow.new g0 np12
        have hA15 : RL K H0 [(V.int (1 : Int)), (V.int (y_homes - (1 : Int)))] ([(1 : Int), (y_homes - (1 : Int))] : List Int) := (RpA.cons (Rp.int (1 : Int)) (RpA.cons (Rp.int (y_homes - (1 : Int))) RpA.nil))
        obtain rfl := sjoin hm
        refine ⟨_, p11, _, rfl, rfl, (.inl (by rw [← RL.ints hA15]; exact ow14.sq)), (hQ _ _ g13)⟩
      · have hm := ifF hc hm
        refine p_next ?_
        refine p_nx ?_
        refine p_ret ?_
        refine ⟨(V.int y_style), rfl, rfl, _, rfl, ?_⟩
        refine andJV (M := M0) (F := H0) (c := ((eqI y_style (3 : Int)) && ((eqI y_apart8 (4 : Int)) || ((eqI y_apart8 (1 : Int)) && (decide ((0 : Int) < (y_pair.2 % (4 : Int)))))))) (P := fun _ _ => True) (fun ha => ?_) (fun ha => ⟨(anF ha), trivial⟩) g0.fh ?_
        · intro Q19 q20
          refine ⟨(V.int y_apart8), rfl, rfl, _, rfl, ?_⟩
          refine orJV (M := M0) (F := H0) (c := ((eqI y_apart8 (4 : Int)) || ((eqI y_apart8 (1 : Int)) && (decide ((0 : Int) < (y_pair.2 % (4 : Int))))))) (P := fun _ _ => True) (fun ha => ?_) (fun ha => ⟨(orTt ha), trivial⟩) g0.fh ?_
          · intro Q24 q25
            refine ⟨(V.int y_apart8), rfl, rfl, _, rfl, ?_⟩
            refine andJV (M := M0) (F := H0) (c := ((eqI y_apart8 (1 : Int)) && (decide ((0 : Int) < (y_pair.2 % (4 : Int)))))) (P := fun _ _ => True) (fun ha => ?_) (fun ha => ⟨(anF ha), trivial⟩) g0.fh ?_
            · intro Q29 q30
              refine ⟨v_y_pair, rfl, p1, _, _, (V.int y_pair.2), ev2, rfl, (SqT_mono g0.fh hS3), rfl, _, _, rfl, rfl, (show (0 : Int) < 4 by decide), _, _, rfl, rfl, (qTv ha (q30 _ _ (Gr.refl (M := M0) g0.fh) trivial))⟩
            intro F31 H32 g33 hB34
            have g35 := Gr.trans g0 g33
            have g36 := Gr.trans (Gr.refl (M := M0) g0.fh) g33
            have g37 := Gr.trans (Gr.refl (M := M0) g0.fh) g33
            exact (qOv ha (q25 _ _ g37 trivial))
          intro F38 H39 g40 hB41
          have g42 := Gr.trans g0 g40
          have g43 := Gr.trans (Gr.refl (M := M0) g0.fh) g40
          exact (qTv ha (q20 _ _ g43 trivial))
        intro F44 H45 g46 hB47
        have g48 := Gr.trans g0 g46
        obtain rfl := sjoin hm
        exact (hQ _ _ g48)
end K22
namespace K22
open PySem PySem.Spec PyProof.Rows L2 TL G
theorem ok_l_town_drawn {P : Program} {w : World} {K : PySem.W.Frag} {mg : Str → Option Value} {base : Heap} (T : Txt K mg) : FnOk P w K mg base CX0 3 T.a_l_town_drawn T.d_l_town_drawn ["_law_bag_here"] (sp_l_town_drawn K) := by
  have G_l_draw : FnOk P w K mg base CX0 2 T.a_l_draw T.d_l_draw ["_law_bag_here", "_law_many"] (sp_l_draw K) := ok_l_draw T
  have b_l_draw := T.F_l_draw.bindsN (ps := ["_law_bag_here", "_law_many"]) fun _ _ _ _ _ _ us hl => match us, hl with | [_, _], _ => rfl
  have G_l_liked : FnOk P w K mg base CX0 1 T.a_l_liked T.d_l_liked ["_law_style", "_law_pair", "_law_homes"] (sp_l_liked K) := ok_l_liked T
  have b_l_liked := T.F_l_liked.bindsN (ps := ["_law_style", "_law_pair", "_law_homes"]) fun _ _ _ _ _ _ us hl => match us, hl with | [_, _, _], _ => rfl
  refine fd_ok T.F_l_town_drawn sc_l_town_drawn (fun vs H Q E h => ?_) (fun cdv A outer s H0 vs Q E hr h => ?_)
  · obtain ⟨_, _, _, _, _, _, rfl, _⟩ := h
    rfl
  · obtain ⟨F0, B, C, b, r, b', rfl, hS0, hB, hm, hQ⟩ := h
    refine ⟨_, (pss_cons (ps_set (i := 1) sc_l_town_drawn.nd rfl (.inr rfl) (pe_ix (ix_listK (K := K)) (pe_lst (pa_cons (pe_op op_add pe_int (pe_call G_l_draw (hr.mono (by decide)) (by rfl) T.g_l_draw T.F_l_draw.kp b_l_draw .nil pass0 (pa_cons (pv 0) (pa_cons pe_int pa_nil)))) (pa_cons (pe_op op_add pe_int (pe_call G_l_draw (hr.mono (by decide)) (by rfl) T.g_l_draw T.F_l_draw.kp b_l_draw .nil pass0 (pa_cons (pv 0) (pa_cons pe_int pa_nil)))) (pa_cons pe_int pa_nil)))) (pe_call G_l_draw (hr.mono (by decide)) (by rfl) T.g_l_draw T.F_l_draw.kp b_l_draw .nil pass0 (pa_cons (pv 0) (pa_cons pe_int pa_nil))) (fun _ _ => rfl))) (pss_cons (ps_set (i := 2) sc_l_town_drawn.nd rfl (.inr rfl) (pe_call G_l_draw (hr.mono (by decide)) (by rfl) T.g_l_draw T.F_l_draw.kp b_l_draw .nil pass0 (pa_cons (pv 0) (pa_cons pe_int pa_nil)))) (pss_cons (ps_setLc (i := 3) (own := [("_law_k", 6)]) rfl sc_l_town_drawn.nd rfl rfl (sw_true rfl rfl rfl (by decide +kernel)) (pi_range1 (by rfl) T.n_range (pa_cons (pe_op op_mulW (pv 1) (pv 1)) pa_nil)) (blkOk_by (own := [("_law_k", 6)]) (N := N_l_town_drawn) (sc := defScope s_l_town_drawn) (by decide +kernel)) (fun _ _ _ _ _ => (pg_name (i := 6) sc_l_town_drawn.nd rfl (Or.inl rfl) (.inr rfl))) (fun _ _ _ _ _ => (pts_one (pt_cmpR op_lt (pe_op op_fdivW (pv 6) (pv 1)) (pe_op op_mod (pv 6) (pv 1)) (nomark _)))) (fun _ _ _ _ _ => (pe_tup (pa_cons (pe_op op_fdivW (pv 6) (pv 1)) (pa_cons (pe_op op_mod (pv 6) (pv 1)) pa_nil))))) (pss_cons (ps_set (i := 4) sc_l_town_drawn.nd rfl (.inr rfl) (pe_lc (own := [("_law_pair", 9)]) rfl sc_l_town_drawn.nd (pi_listK (K := K) (pv 3)) (blkOk_by (own := [("_law_pair", 9)]) (N := N_l_town_drawn) (sc := defScope s_l_town_drawn) (by decide +kernel)) (fun _ _ _ _ _ => (pg_name (i := 9) sc_l_town_drawn.nd rfl (Or.inl rfl) (.inr rfl))) (fun _ _ _ _ _ => (pts_one (pt_val (pe_call G_l_liked (hr.mono (by decide)) (by rfl) T.g_l_liked T.F_l_liked.kp b_l_liked .nil pass0 (pa_cons (pv 2) (pa_cons (pv 9) (pa_cons (pv 1) pa_nil))))))) (fun _ _ _ _ _ => (pv 9)))) (pss_cons (ps_setLc (i := 5) (own := [("_law_pair", 9)]) rfl sc_l_town_drawn.nd rfl rfl (sw_true rfl rfl rfl (by decide +kernel)) (pi_listK (K := K) (pv 3)) (blkOk_by (own := [("_law_pair", 9)]) (N := N_l_town_drawn) (sc := defScope s_l_town_drawn) (by decide +kernel)) (fun _ _ _ _ _ => (pg_name (i := 9) sc_l_town_drawn.nd rfl (Or.inl rfl) (.inr rfl))) (fun _ _ _ _ _ => (pts_one (pt_cmpR (op_notInDK (K := K) (units65 hr)) (pv 9) (pv 4) rfl))) (fun _ _ _ _ _ => (pv 9))) (pss_cons (ps_for PassesOwn.never rfl (pi_range1 (by rfl) T.n_range (pa_cons (pe_callB (call_min2 rfl) (by rfl) T.n_min (by decide +kernel) (pa_cons (pe_callB (call_lenLK (K := K)) (by rfl) T.n_len (by decide +kernel) (pa_cons (pv 5) pa_nil)) (pa_cons (pe_call G_l_draw (hr.mono (by decide)) (by rfl) T.g_l_draw T.F_l_draw.kp b_l_draw .nil pass0 (pa_cons (pv 0) (pa_cons (pe_op op_sub pe_int (pe_callB (call_lenLK (K := K)) (by rfl) T.n_len (by decide +kernel) (pa_cons (pv 4) pa_nil))) pa_nil))) pa_nil))) pa_nil)) (pg_name (i := 6) sc_l_town_drawn.nd rfl (Or.inl rfl)) (pss_one (ps_expr (pe_bmK (K := K) PySem.F.plainAttrs_list PySem.F.slot_list_append PySem.F.type_list_append mt_append (pv 4) (pa_cons (pe_bmK (K := K) PySem.F.plainAttrs_list PySem.F.slot_list_pop PySem.F.type_list_pop mt_popAt (pv 5) (pa_cons (pe_call G_l_draw (hr.mono (by decide)) (by rfl) T.g_l_draw T.F_l_draw.kp b_l_draw .nil pass0 (pa_cons (pv 0) (pa_cons (pe_callB (call_lenLK (K := K)) (by rfl) T.n_len (by decide +kernel) (pa_cons (pv 5) pa_nil)) pa_nil))) pa_nil)) pa_nil))))) (pss_cons (ps_setLc (i := 7) (own := [("_law_k", 6)]) rfl sc_l_town_drawn.nd rfl rfl (sw_true rfl rfl rfl (by decide +kernel)) (pi_range1 (by rfl) T.n_range (pa_cons (pe_callB (call_lenLK (K := K)) (by rfl) T.n_len (by decide +kernel) (pa_cons (pv 4) pa_nil)) pa_nil)) (blkOk_by (own := [("_law_k", 6)]) (N := N_l_town_drawn) (sc := defScope s_l_town_drawn) (by decide +kernel)) (fun _ _ _ _ _ => (pg_name (i := 6) sc_l_town_drawn.nd rfl (Or.inl rfl) (.inr rfl))) (fun _ _ _ _ _ => pts_nil) (fun _ _ _ _ _ => (pe_bmK (K := K) PySem.F.plainAttrs_list PySem.F.slot_list_pop PySem.F.type_list_pop mt_popAt (pv 4) (pa_cons (pe_call G_l_draw (hr.mono (by decide)) (by rfl) T.g_l_draw T.F_l_draw.kp b_l_draw .nil pass0 (pa_cons (pv 0) (pa_cons (pe_callB (call_lenLK (K := K)) (by rfl) T.n_len (by decide +kernel) (pa_cons (pv 4) pa_nil)) pa_nil))) pa_nil)))) (pss_cons (ps_setLc (i := 8) (own := [("_law_k", 6)]) rfl sc_l_town_drawn.nd rfl rfl (sw_true rfl rfl rfl (by decide +kernel)) (pi_range1 (by rfl) T.n_range (pa_cons (pe_op op_add pe_int (pe_call G_l_draw (hr.mono (by decide)) (by rfl) T.g_l_draw T.F_l_draw.kp b_l_draw .nil pass0 (pa_cons (pv 0) (pa_cons pe_int pa_nil)))) pa_nil)) (blkOk_by (own := [("_law_k", 6)]) (N := N_l_town_drawn) (sc := defScope s_l_town_drawn) (by decide +kernel)) (fun _ _ _ _ _ => (pg_name (i := 6) sc_l_town_drawn.nd rfl (Or.inl rfl) (.inr rfl))) (fun _ _ _ _ _ => pts_nil) (fun _ _ _ _ _ => (pe_call G_l_draw (hr.mono (by decide)) (by rfl) T.g_l_draw T.F_l_draw.kp b_l_draw .nil pass0 (pa_cons (pv 0) (pa_cons (pv 1) pa_nil))))) (pss_one (ps_ret (pe_tup (pa_cons (pe_op op_add pe_int (pe_call G_l_draw (hr.mono (by decide)) (by rfl) T.g_l_draw T.F_l_draw.kp b_l_draw .nil pass0 (pa_cons (pv 0) (pa_cons pe_int pa_nil)))) (pa_cons (pv 1) (pa_cons (pv 7) (pa_cons (pv 8) pa_nil))))))))))))))), ?_⟩
    have g0 : Gr (Bc B C) F0 H0 F0 H0 := Gr.refl hS0
    unfold m_l_town_drawn at hm
    refine p_seq ?_
    refine p_asg ?_
    obtain ⟨r1, b2, hb3, hm⟩ := bnd2 hm
    refine ⟨(V.ref B), rfl, F0, B, C, b, (4 : Int), r1, b2, rfl, g0.fh, hB, hb3, fun F4 H5 g6 hB7 => ?_⟩
    have g9 := Gr.trans g0 g6
    obtain ⟨r10, b11, hb12, hm⟩ := bnd2 hm
    refine ⟨_, _, rfl, rfl, (V.ref B), rfl, F4, B, C, b2, (12 : Int), r10, b11, rfl, g9.fh, hB7, hb12, fun F13 H14 g15 hB16 => ?_⟩
    have g18 := Gr.trans g9 g15
    refine ⟨_, _, rfl, rfl, (by show 3 ≤ sizeLine; decide), fun p19 np20 => ?_⟩
    have nb21 := hB16.nb np20
    have g22 := g18.own (o := (.lst [(V.int ((1 : Int) + r1)), (V.int ((1 : Int) + r10)), (V.int (12 : Int))])) np20
    have hB23 := hB16.own (o := (.lst [(V.int ((1 : Int) + r1)), (V.int ((1 : Int) + r10)), (V.int (12 : Int))])) np20
    have ow24 : Ow H0 F13 (upd H14 p19 (.lst [(V.int ((1 : Int) + r1)), (V.int ((1 : Int) + r10)), (V.int (12 : Int))])) p19 [(V.int ((1 : Int) + r1)), (V.int ((1 : Int) + r10)), (V.int (12 : Int))] := Ow.new g18 np20
    have hA25 : RL K F13 [(V.int ((1 : Int) + r1)), (V.int ((1 : Int) + r10)), (V.int (12 : Int))] ([((1 : Int) + r1), ((1 : Int) + r10), (12 : Int)] : List Int) := (RpA.cons (Rp.int ((1 : Int) + r1)) (RpA.cons (Rp.int ((1 : Int) + r10)) (RpA.cons (Rp.int (12 : Int)) RpA.nil)))
    obtain ⟨r26, b27, hb28, hm⟩ := bnd2 hm
    refine ⟨(V.ref B), rfl, F13, B, C, b11, (3 : Int), r26, b27, rfl, g22.fh, hB23, hb28, fun F29 H30 g31 hB32 => ?_⟩
    have g34 := Gr.trans g22 g31
    have ow35 := ow24.gr g31 nb21
    obtain ⟨t36, hb37, hm⟩ := bnd hm
    obtain ⟨v38, ha39, r40⟩ := RL.at (hA25.up g31.ff) hb37
    obtain rfl := R.int_v r40
    refine ⟨p19, [(V.int ((1 : Int) + r1)), (V.int ((1 : Int) + r10)), (V.int (12 : Int))], _, (V.int t36), rfl, rfl, ow35.sq, ha39, ?_⟩
    refine p_name ?_
    refine p_nx ?_
    refine p_seq ?_
    refine p_asg ?_
    obtain ⟨r41, b42, hb43, hm⟩ := bnd2 hm
    refine ⟨(V.ref B), rfl, F29, B, C, b27, (4 : Int), r41, b42, rfl, g34.fh, hB32, hb43, fun F44 H45 g46 hB47 => ?_⟩
    have g49 := Gr.trans g34 g46
    have ow50 := ow35.gr g46 nb21
    refine p_name ?_
    refine p_nx ?_
    refine p_seq ?_
    refine p_asg ?_
    obtain ⟨t51, hb52, hm⟩ := bnd hm
    obtain ⟨hk53, rfl⟩ := mulI_ok hb52
    obtain ⟨l54, hb56, hm⟩ := bnd hm
    obtain ⟨hk55, rfl⟩ := rangeO1_ok hb56
    refine ⟨(V.int t36), rfl, (V.int t36), rfl, _, _, rfl, rfl, hk53, _, rfl, hk55.1.1, hk55.1.2, fun D57 nD58 => ?_⟩
    have ne59 := ow50.ne nD58
    have nb60 := hB47.nb nD58
    have g61 := g49.own (o := (.lst [])) nD58
    have ow62 := ow50.own (o := (.lst [])) nD58
    have hB63 := hB47.own (o := (.lst [])) nD58
    have ow64 : Ow H0 F44 (upd H45 D57 (.lst [])) D57 [] := Ow.new g49 nD58
    obtain ⟨l65, hb66, hm⟩ := bnd hm
    refine lc_range (lo := (0 : Int)) (n := ((t36 * t36)).toNat) (fun i H' => ∃ (F' : Hp) (acc : List V) (ds : List (Int × Int)) (rest : List (Int × Int)), Gr (Bc B C) F0 H0 F' H' ∧ Same F44 F' ∧ Ow H0 F' H' D57 acc ∧ RL K F' acc ds ∧ acc.length ≤ i ∧ Ow H0 F' H' p19 [(V.int ((1 : Int) + r1)), (V.int ((1 : Int) + r10)), (V.int (12 : Int))] ∧ BagAt F' H' B C b42 ∧ m_l_town_drawn_c1 t36 ((rangeL (0 : Int) ((t36 * t36)).toNat).drop i) = some rest ∧ ds ++ rest = l65) ?_ ?_ ?_
    · exact ⟨F44, [], [], l65, g61, Same.refl _, ow64, RpA.nil, Nat.le_refl _, ow62, hB63, hb66, rfl⟩
    · intro i68 H70 hx69 hP
      obtain ⟨F71, acc72, ds73, rest74, g075, sm76, owD77, hA78, hi79, ow080, hB81, hm82, hr83⟩ := hP
      have he85 := rangeL_at (lo := (0 : Int)) hx69
      rw [drop_at he85, m_l_town_drawn_c1.eq_2] at hm82
      obtain ⟨t86, hb87, hm82⟩ := bnd hm82
      obtain ⟨hk88, rfl⟩ := divI_ok hb87
      obtain ⟨t89, hb90, hm82⟩ := bnd hm82
      obtain ⟨hk91, rfl⟩ := modI_ok hb90
      refine ⟨rfl, (V.int ((0 : Int) + ((i68 : Nat) : Int))), rfl, (V.int t36), rfl, _, _, rfl, rfl, hk88, (V.int ((0 : Int) + ((i68 : Nat) : Int))), rfl, (V.int t36), rfl, _, _, rfl, rfl, hk91, _, _, rfl, rfl, _, rfl, (iteB (fun hc => ?_) (fun hc => ?_))⟩
      · have hc : (decide ((((0 : Int) + ((i68 : Nat) : Int)) / t36) < (((0 : Int) + ((i68 : Nat) : Int)) % t36))) = true := hc
        have hm82 := ifT hc hm82
        obtain ⟨t92, hb93, hm82⟩ := bnd hm82
        obtain ⟨hk94, rfl⟩ := divI_ok hb93
        obtain ⟨t95, hb96, hm82⟩ := bnd hm82
        obtain ⟨hk97, rfl⟩ := modI_ok hb96
        refine ⟨(V.int ((0 : Int) + ((i68 : Nat) : Int))), rfl, (V.int t36), rfl, _, _, rfl, rfl, hk94, (V.int ((0 : Int) + ((i68 : Nat) : Int))), rfl, (V.int t36), rfl, _, _, rfl, rfl, hk97, (by show 2 ≤ sizeLine; decide), fun p98 np99 => ?_⟩
        have ne100 := ow080.ne np99
        have ne101 := owD77.ne np99
        have nb102 := hB81.nb np99
        have sm103 := same_new (o := (.tup [(V.int (((0 : Int) + ((i68 : Nat) : Int)) / t36)), (V.int (((0 : Int) + ((i68 : Nat) : Int)) % t36))])) (g075.noneF np99)
        have g104 := g075.frz (o := (.tup [(V.int (((0 : Int) + ((i68 : Nat) : Int)) / t36)), (V.int (((0 : Int) + ((i68 : Nat) : Int)) % t36))])) np99
        have ow105 := ow080.frz (o := (.tup [(V.int (((0 : Int) + ((i68 : Nat) : Int)) / t36)), (V.int (((0 : Int) + ((i68 : Nat) : Int)) % t36))])) np99
        have ow106 := owD77.frz (o := (.tup [(V.int (((0 : Int) + ((i68 : Nat) : Int)) / t36)), (V.int (((0 : Int) + ((i68 : Nat) : Int)) % t36))])) np99
        have hB107 := hB81.frz (o := (.tup [(V.int (((0 : Int) + ((i68 : Nat) : Int)) / t36)), (V.int (((0 : Int) + ((i68 : Nat) : Int)) % t36))])) np99
        have r108 : R K (upd F71 p98 (.tup [(V.int (((0 : Int) + ((i68 : Nat) : Int)) / t36)), (V.int (((0 : Int) + ((i68 : Nat) : Int)) % t36))])) (.ref p98) (((((0 : Int) + ((i68 : Nat) : Int)) / t36), (((0 : Int) + ((i68 : Nat) : Int)) % t36)) : (Int × Int)) := R.mk2 fzT (Rp.int (((0 : Int) + ((i68 : Nat) : Int)) / t36)) (Rp.int (((0 : Int) + ((i68 : Nat) : Int)) % t36))
        have hA109 : RL K (upd F71 p98 (.tup [(V.int (((0 : Int) + ((i68 : Nat) : Int)) / t36)), (V.int (((0 : Int) + ((i68 : Nat) : Int)) % t36))])) (acc72 ++ [(V.ref p98)]) (ds73 ++ [(((((0 : Int) + ((i68 : Nat) : Int)) / t36), (((0 : Int) + ((i68 : Nat) : Int)) % t36)) : (Int × Int))]) := RL.snoc (hA78.up sm103) r108
        obtain ⟨rest110, h111, h112⟩ := bnd hm82
        obtain rfl := sjoin h112
        refine ⟨acc72, ow106.h, (lt_line hi79 hx69 hk55.2), ?_⟩
        have g113 := g104.put (o := (.lst (acc72 ++ [(V.ref p98)]))) ow106
        have ow114 := ow105.other (o := (.lst (acc72 ++ [(V.ref p98)]))) ne59
        have hB115 := hB107.other (o := (.lst (acc72 ++ [(V.ref p98)]))) nb60
        have ow116 := ow106.put (us := (acc72 ++ [(V.ref p98)]))
        exact ⟨(upd F71 p98 (.tup [(V.int (((0 : Int) + ((i68 : Nat) : Int)) / t36)), (V.int (((0 : Int) + ((i68 : Nat) : Int)) % t36))])), (acc72 ++ [(V.ref p98)]), (ds73 ++ [((((0 : Int) + ((i68 : Nat) : Int)) / t36), (((0 : Int) + ((i68 : Nat) : Int)) % t36))]), rest110, g113, (Same.trans sm76 sm103), ow116, hA109, (by rw [List.length_append]; exact Nat.succ_le_succ hi79), ow114, hB115, h111, (snoc_rest hr83)⟩
      · have hc : (decide ((((0 : Int) + ((i68 : Nat) : Int)) / t36) < (((0 : Int) + ((i68 : Nat) : Int)) % t36))) = false := hc
        have hm82 := ifF hc hm82
        exact ⟨F71, acc72, ds73, rest74, g075, sm76, owD77, hA78, (Nat.le_succ_of_le hi79), ow080, hB81, hm82, hr83⟩
    intro H117 hP
    obtain ⟨F118, acc119, ds120, _rest, g0122, sm123, owD124, hA125, hi126, ow0127, hB128, hm129, hr130⟩ := hP
    rw [drop_end (rangeL_len _ _).symm] at hm129
    rw [m_l_town_drawn_c1.eq_1] at hm129
    obtain rfl := sjoin hm129
    rw [List.append_nil] at hr130
    obtain rfl := hr130
    have hl131 : acc119.length ≤ sizeLine := Nat.le_trans hi126 hk55.2
    refine p_name ?_
    refine p_nx ?_
    refine p_seq ?_
    refine p_asg ?_
    refine ⟨(V.ref D57), rfl, D57, rfl, ⟨_, owD124.sq⟩, fun D132 nD133 => ?_⟩
    have ne134 := ow0127.ne nD133
    have ne135 := owD124.ne nD133
    have nb136 := hB128.nb nD133
    have g137 := g0122.own (o := (.lst [])) nD133
    have ow138 := ow0127.own (o := (.lst [])) nD133
    have ow139 := owD124.own (o := (.lst [])) nD133
    have hB140 := hB128.own (o := (.lst [])) nD133
    have ow141 : Ow H0 F118 (upd H117 D132 (.lst [])) D132 [] := Ow.new g0122 nD133
    obtain ⟨l142, hb143, hm⟩ := bnd hm
    refine lc_list (K := K) (a := D57) (xs := acc119) (fun i H' => ∃ (F' : Hp) (acc : List V) (ds : List (Int × Int)) (rest : List (Int × Int)), Gr (Bc B C) F0 H0 F' H' ∧ Same F118 F' ∧ Ow H0 F' H' D132 acc ∧ RL K F' acc ds ∧ acc.length ≤ i ∧ Ow H0 F' H' p19 [(V.int ((1 : Int) + r1)), (V.int ((1 : Int) + r10)), (V.int (12 : Int))] ∧ Ow H0 F' H' D57 acc119 ∧ BagAt F' H' B C b42 ∧ m_l_town_drawn_c2 t36 r41 (ds120.drop i) = some rest ∧ ds ++ rest = l142) ?_ ?_ ?_ ?_
    · exact ⟨F118, [], [], l142, g137, Same.refl _, ow141, RpA.nil, Nat.le_refl _, ow138, ow139, hB140, hb143, rfl⟩
    · intro i H' _ hP
      obtain ⟨F144, acc145, ds146, rest147, g0148, sm149, owD150, hA151, hi152, ow0153, ow1154, hB155, hm156, hr157⟩ := hP
      exact ow1154.sq
    · intro i159 xv158 H161 hx160 hP
      obtain ⟨F162, acc163, ds164, rest165, g0166, sm167, owD168, hA169, hi170, ow0171, ow1172, hB173, hm174, hr175⟩ := hP
      obtain ⟨e176, he177, r178⟩ := RL.get (hA125.up sm167) hx160
      rw [drop_at he177, m_l_town_drawn_c2.eq_2] at hm174
      obtain ⟨r179, hb180, hm174⟩ := bnd hm174
      refine ⟨rfl, (V.int r41), rfl, xv158, rfl, (V.int t36), rfl, r41, xv158, e176, t36, r179, rfl, (Rp.up r178 g0166.fh), hb180, fun F181 H182 g183 => ?_⟩
      have g185 := Gr.apart g0166 g183
      have ow186 := ow0171.apart g183
      have ow187 := ow1172.apart g183
      have ow188 := owD168.apart g183
      have hB189 := hB173.apart g183
      refine ⟨_, rfl, (iteB (fun hc => ?_) (fun hc => ?_))⟩
      · have hc : r179 = true := hc
        have hm174 := ifT hc hm174
        have hA190 : RL K F162 (acc163 ++ [xv158]) (ds164 ++ [(e176 : (Int × Int))]) := RL.snoc hA169 r178
        obtain ⟨rest191, h192, h193⟩ := bnd hm174
        obtain rfl := sjoin h193
        refine ⟨xv158, rfl, acc163, ow188.h, (lt_line hi170 (List.getElem?_eq_some_iff.mp hx160).1 hl131), ?_⟩
        have g194 := g185.put (o := (.lst (acc163 ++ [xv158]))) ow188
        have ow195 := ow186.other (o := (.lst (acc163 ++ [xv158]))) ne134
        have ow196 := ow187.other (o := (.lst (acc163 ++ [xv158]))) ne135
        have hB197 := hB189.other (o := (.lst (acc163 ++ [xv158]))) nb136
        have ow198 := ow188.put (us := (acc163 ++ [xv158]))
        exact ⟨F162, (acc163 ++ [xv158]), (ds164 ++ [e176]), rest191, g194, sm167, ow198, hA190, (by rw [List.length_append]; exact Nat.succ_le_succ hi170), ow195, ow196, hB197, h192, (snoc_rest hr175)⟩
      · have hc : r179 = false := hc
        have hm174 := ifF hc hm174
        exact ⟨F162, acc163, ds164, rest165, g185, sm167, ow188, hA169, (Nat.le_succ_of_le hi170), ow186, ow187, hB189, hm174, hr175⟩
    intro H199 hP
    obtain ⟨F200, acc201, ds202, _rest, g0204, sm205, owD206, hA207, hi208, ow0209, ow1210, hB211, hm212, hr213⟩ := hP
    rw [drop_end (RL.len hA125)] at hm212
    rw [m_l_town_drawn_c2.eq_1] at hm212
    obtain rfl := sjoin hm212
    rw [List.append_nil] at hr213
    obtain rfl := hr213
    have hl214 : acc201.length ≤ sizeLine := Nat.le_trans hi208 hl131
    refine p_name ?_
    refine p_nx ?_
    refine p_seq ?_
    refine p_asg ?_
    refine ⟨(V.ref D57), rfl, D57, rfl, ⟨_, ow1210.sq⟩, fun D215 nD216 => ?_⟩
    have ne217 := ow0209.ne nD216
    have ne218 := ow1210.ne nD216
    have ne219 := owD206.ne nD216
    have nb220 := hB211.nb nD216
    have g221 := g0204.own (o := (.lst [])) nD216
    have ow222 := ow0209.own (o := (.lst [])) nD216
    have ow223 := ow1210.own (o := (.lst [])) nD216
    have ow224 := owD206.own (o := (.lst [])) nD216
    have hB225 := hB211.own (o := (.lst [])) nD216
    have ow226 : Ow H0 F200 (upd H199 D215 (.lst [])) D215 [] := Ow.new g0204 nD216
    refine lc_list (K := K) (a := D57) (xs := acc119) (fun i H' => ∃ (F' : Hp) (acc : List V) (ds : List (Int × Int)), Gr (Bc B C) F0 H0 F' H' ∧ Same F200 F' ∧ Ow H0 F' H' D215 acc ∧ RL K F' acc ds ∧ acc.length ≤ i ∧ Ow H0 F' H' p19 [(V.int ((1 : Int) + r1)), (V.int ((1 : Int) + r10)), (V.int (12 : Int))] ∧ Ow H0 F' H' D57 acc119 ∧ Ow H0 F' H' D132 acc201 ∧ BagAt F' H' B C b42 ∧ ds ++ m_l_town_drawn_c3 ds202 (ds120.drop i) = (m_l_town_drawn_c3 ds202 ds120)) ?_ ?_ ?_ ?_
    · exact ⟨F200, [], [], g221, Same.refl _, ow226, RpA.nil, Nat.le_refl _, ow222, ow223, ow224, hB225, rfl⟩
    · intro i H' _ hP
      obtain ⟨F228, acc229, ds230, g0231, sm232, owD233, hA234, hi235, ow0236, ow1237, ow2238, hB239, hr240⟩ := hP
      exact ow1237.sq
    · intro i242 xv241 H244 hx243 hP
      obtain ⟨F245, acc246, ds247, g0248, sm249, owD250, hA251, hi252, ow0253, ow1254, ow2255, hB256, hr257⟩ := hP
      obtain ⟨e258, he259, r260⟩ := RL.get (hA125.up (Same.trans sm205 sm249)) hx243
      rw [drop_at he259, m_l_town_drawn_c3.eq_2] at hr257
      have rH261 : R K H244 xv241 e258 := (Rp.up r260 g0248.fh)
      have rH262 : R K H244 (V.ref D132) ds202 := (R.mkl ow2255.sq hl214 (RpA.up (hA207.up sm249) g0248.fh))
      refine ⟨rfl, xv241, rfl, (V.ref D132), rfl, _, _, (Rp.dp _ _ rH261), (Rp.dp _ _ rH262), (R.shaped rH261), (R.shaped rH262), _, rfl, (iteB (fun hc => ?_) (fun hc => ?_))⟩
      · have hc : (!inD e258 ds202) = true := hc
        rw [if_pos hc] at hr257
        have hA263 : RL K F245 (acc246 ++ [xv241]) (ds247 ++ [(e258 : (Int × Int))]) := RL.snoc hA251 r260
        refine ⟨xv241, rfl, acc246, owD250.h, (lt_line hi252 (List.getElem?_eq_some_iff.mp hx243).1 hl131), ?_⟩
        have g264 := g0248.put (o := (.lst (acc246 ++ [xv241]))) owD250
        have ow265 := ow0253.other (o := (.lst (acc246 ++ [xv241]))) ne217
        have ow266 := ow1254.other (o := (.lst (acc246 ++ [xv241]))) ne218
        have ow267 := ow2255.other (o := (.lst (acc246 ++ [xv241]))) ne219
        have hB268 := hB256.other (o := (.lst (acc246 ++ [xv241]))) nb220
        have ow269 := owD250.put (us := (acc246 ++ [xv241]))
        exact ⟨F245, (acc246 ++ [xv241]), (ds247 ++ [e258]), g264, sm249, ow269, hA263, (by rw [List.length_append]; exact Nat.succ_le_succ hi252), ow265, ow266, ow267, hB268, (snoc_rest hr257)⟩
      · have hc : (!inD e258 ds202) = false := hc
        rw [if_neg (ne_true_of_eq_false hc)] at hr257
        exact ⟨F245, acc246, ds247, g0248, sm249, owD250, hA251, (Nat.le_succ_of_le hi252), ow0253, ow1254, ow2255, hB256, hr257⟩
    intro H270 hP
    obtain ⟨F271, acc272, ds273, g0275, sm276, owD277, hA278, hi279, ow0280, ow1281, ow2282, hB283, hr284⟩ := hP
    rw [drop_end (RL.len (hA125.up sm205))] at hr284
    rw [m_l_town_drawn_c3.eq_1, List.append_nil] at hr284
    obtain rfl := hr284
    have hl285 : acc272.length ≤ sizeLine := Nat.le_trans hi279 hl131
    obtain ⟨y_left286, hb287, hm⟩ := bnd hm
    have hx288 : (m_l_town_drawn_c3 ds202 ds120) = y_left286 := sjoin hb287
    have hA289 : RL K F271 acc272 y_left286 := RL.re hx288 hA278
    refine p_name ?_
    refine p_nx ?_
    refine p_seq ?_
    refine p_for ?_
    obtain ⟨r290, b291, hb292, hm⟩ := bnd2 hm
    refine ⟨(V.ref D215), rfl, D215, acc272, _, rfl, (.inl owD277.sq), (RL.len hA289), (V.ref B), rfl, (V.ref D132), rfl, D132, acc201, _, rfl, (.inl ow2282.sq), (RL.len (hA207.up sm276)), _, _, rfl, rfl, F271, B, C, b42, ((21 : Int) - (((ds202).length : Nat) : Int)), r290, b291, rfl, g0275.fh, hB283, hb292, fun F293 H294 g295 hB296 => ?_⟩
    have g298 := Gr.trans g0275 g295
    have ow299 := ow0280.gr g295 nb21
    have ow300 := ow1281.gr g295 nb60
    have ow301 := ow2282.gr g295 nb136
    have ow302 := owD277.gr g295 nb220
    obtain ⟨l303, hb305, hm⟩ := bnd hm
    obtain ⟨hk304, rfl⟩ := rangeO1_ok hb305
    refine ⟨_, _, rfl, _, rfl, hk304.1.1, hk304.1.2, ?_⟩
    obtain ⟨y_some306, y_left307, b308, ht309, hm⟩ := bnd3 hm
    refine for_range (lo := (0 : Int)) (n := ((if r290 < (((y_left286).length : Nat) : Int) then r290 else (((y_left286).length : Nat) : Int))).toNat) (fun i σ' H' => ∃ (F' : Hp) (o_y_k : Option V) (y_some : (List (Int × Int))) (ws_y_some : List V) (y_left : (List (Int × Int))) (ws_y_left : List V) (b : Bag), σ' = [(some (V.ref B)), (some (V.int t36)), (some (V.int r41)), (some (V.ref D57)), (some (V.ref D132)), (some (V.ref D215)), o_y_k, none, none, none] ∧ Gr (Bc B C) F0 H0 F' H' ∧ Same F293 F' ∧ Ow H0 F' H' D132 ws_y_some ∧ ws_y_some.length ≤ sizeLine ∧ RL K F' ws_y_some y_some ∧ Ow H0 F' H' D215 ws_y_left ∧ ws_y_left.length ≤ sizeLine ∧ RL K F' ws_y_left y_left ∧ BagAt F' H' B C b ∧ m_l_town_drawn_l4  ((rangeL (0 : Int) ((if r290 < (((y_left286).length : Nat) : Int) then r290 else (((y_left286).length : Nat) : Int))).toNat).drop i) y_some y_left b = some (y_some306, y_left307, b308)) ?_ ?_ ?_
    · exact ⟨F293, none, ds202, acc201, y_left286, acc272, b291, rfl, g298, (Same.refl _), ow301, hl214, (hA207.up (Same.trans sm276 g295.ff)), ow302, hl285, (hA289.up g295.ff), hB296, ht309⟩
    · intro i310 σ' H312 hx311 hP
      obtain ⟨F314, o_y_k315, y_some316, ws_y_some317, y_left318, ws_y_left319, b320, rfl, g321, sm322, ow_y_some323, hl_y_some324, hA_y_some325, ow_y_left326, hl_y_left327, hA_y_left328, hB329, hm330⟩ := hP
      have he332 := rangeL_at (lo := (0 : Int)) hx311
      rw [drop_at he332, m_l_town_drawn_l4.eq_2] at hm330
      refine p_name ?_
      refine p_drop ?_
      obtain ⟨r333, b334, hb335, hm330⟩ := bnd2 hm330
      refine ⟨(V.ref D132), rfl, (.inl ⟨rfl, _, ow_y_some323.sq⟩), (V.ref D215), rfl, (.inl ⟨rfl, _, ow_y_left326.sq⟩), (V.ref B), rfl, (V.ref D215), rfl, D215, ws_y_left319, _, rfl, (.inl ow_y_left326.sq), (RL.len hA_y_left328), F314, B, C, b320, (((y_left318).length : Nat) : Int), r333, b334, rfl, g321.fh, hB329, hb335, fun F336 H337 g338 hB339 => ?_⟩
      have g341 := Gr.trans g321 g338
      have ow342 := ow_y_some323.gr g338 nb136
      have ow343 := ow_y_left326.gr g338 nb220
      obtain ⟨t344, y_left345, hb346, hm330⟩ := bnd2 hm330
      obtain ⟨j347, hj348, hx349, rfl⟩ := popI_ok hb346
      obtain ⟨v350, hv351, r352⟩ := RL.back (hA_y_left328.up g338.ff) hx349
      have hi353 := popI_at (n := ws_y_left319.length) (by rw [RL.len (hA_y_left328.up g338.ff)]; exact hj348) hl_y_left327
      refine ⟨D215, ws_y_left319, _, j347, v350, rfl, rfl, ow343.h, hi353.1.1, hi353.1.2, hi353.2, hv351, ?_⟩
      have hA354 := RL.erase j347 (hA_y_left328.up g338.ff)
      have g355 := g341.put (o := (.lst (ws_y_left319.eraseIdx j347))) ow343
      have ow356 := ow342.other (o := (.lst (ws_y_left319.eraseIdx j347))) ne219
      have hB357 := hB339.other (o := (.lst (ws_y_left319.eraseIdx j347))) nb220
      have ow358 := ow343.put (us := (ws_y_left319.eraseIdx j347))
      obtain ⟨t359, hb360, hm330⟩ := bnd hm330
      obtain ⟨hk361, rfl⟩ := appL_ok hb360
      refine ⟨D132, ws_y_some317, v350, rfl, rfl, ow356.h, (by rw [RL.len (hA_y_some325.up g338.ff)]; exact hk361), ?_⟩
      have hA362 : RL K F336 (ws_y_some317 ++ [v350]) (y_some316 ++ [(t344 : (Int × Int))]) := RL.snoc (hA_y_some325.up g338.ff) r352
      have hl363 : (ws_y_some317 ++ [v350]).length ≤ sizeLine := by rw [List.length_append, RL.len (hA_y_some325.up g338.ff)]; exact hk361
      have g364 := g355.put (o := (.lst (ws_y_some317 ++ [v350]))) ow356
      have ow365 := ow358.other (o := (.lst (ws_y_some317 ++ [v350]))) (Ne.symm ne219)
      have hB366 := hB357.other (o := (.lst (ws_y_some317 ++ [v350]))) nb136
      have ow367 := ow356.put (us := (ws_y_some317 ++ [v350]))
      exact ⟨F336, (some (V.int ((0 : Int) + ((i310 : Nat) : Int)))), (y_some316 ++ [t344]), (ws_y_some317 ++ [v350]), (y_left318.eraseIdx j347), (ws_y_left319.eraseIdx j347), b334, rfl, g364, (Same.trans sm322 g338.ff), ow367, hl363, hA362, ow365, (erase_le hl_y_left327), hA354, hB366, hm330⟩
    intro σ368 H369 hP
    obtain ⟨F370, o_y_k371, y_some372, ws_y_some373, y_left374, ws_y_left375, b376, rfl, g377, sm378, ow_y_some379, hl_y_some380, hA_y_some381, ow_y_left382, hl_y_left383, hA_y_left384, hB385, hm386⟩ := hP
    rw [drop_end (rangeL_len _ _).symm, m_l_town_drawn_l4.eq_1] at hm386
    obtain ⟨rfl, rfl, rfl⟩ := pjoin3 hm386
    refine p_nx ?_
    refine p_seq ?_
    refine p_asg ?_
    obtain ⟨l387, hb389, hm⟩ := bnd hm
    obtain ⟨hk388, rfl⟩ := rangeO1_ok hb389
    refine ⟨(V.ref D132), rfl, D132, ws_y_some373, _, rfl, (.inl ow_y_some379.sq), (RL.len hA_y_some381), _, rfl, hk388.1.1, hk388.1.2, fun D390 nD391 => ?_⟩
    have ne392 := ow_y_some379.ne nD391
    have ne393 := ow_y_left382.ne nD391
    have nb394 := hB385.nb nD391
    have g395 := g377.own (o := (.lst [])) nD391
    have ow396 := ow_y_some379.own (o := (.lst [])) nD391
    have ow397 := ow_y_left382.own (o := (.lst [])) nD391
    have hB398 := hB385.own (o := (.lst [])) nD391
    have ow399 : Ow H0 F370 (upd H369 D390 (.lst [])) D390 [] := Ow.new g377 nD391
    obtain ⟨l400, y_some402, b401, hb403, hm⟩ := bnd3 hm
    refine lc_range (lo := (0 : Int)) (n := ((((y_some372).length : Nat) : Int)).toNat) (fun i H' => ∃ (F' : Hp) (acc : List V) (ds : List (Int × Int)) (rest : List (Int × Int)) (z_y_some : (List (Int × Int))) (wz_y_some : List V) (b : Bag), Gr (Bc B C) F0 H0 F' H' ∧ Same F370 F' ∧ Ow H0 F' H' D390 acc ∧ RL K F' acc ds ∧ acc.length ≤ i ∧ Ow H0 F' H' D215 ws_y_left375 ∧ Ow H0 F' H' D132 wz_y_some ∧ wz_y_some.length ≤ sizeLine ∧ RL K F' wz_y_some z_y_some ∧ BagAt F' H' B C b ∧ m_l_town_drawn_c5  ((rangeL (0 : Int) ((((y_some372).length : Nat) : Int)).toNat).drop i) z_y_some b = some (rest, y_some402, b401) ∧ ds ++ rest = l400) ?_ ?_ ?_
    · exact ⟨F370, [], [], l400, y_some372, ws_y_some373, b376, g395, Same.refl _, ow399, RpA.nil, Nat.le_refl _, ow397, ow396, hl_y_some380, hA_y_some381, hB398, hb403, rfl⟩
    · intro i405 H407 hx406 hP
      obtain ⟨F408, acc409, ds410, rest411, z_y_some412, wz_y_some413, b414, g0415, sm416, owD417, hA418, hi419, ow1420, owz_y_some421, hlz_y_some422, hAz_y_some423, hB424, hm425, hr426⟩ := hP
      have he428 := rangeL_at (lo := (0 : Int)) hx406
      rw [drop_at he428, m_l_town_drawn_c5.eq_2] at hm425
      refine ⟨rfl, (p_yes ?_)⟩
      obtain ⟨r429, b430, hb431, hm425⟩ := bnd2 hm425
      refine ⟨(V.ref D132), rfl, (.inl ⟨rfl, _, owz_y_some421.sq⟩), (V.ref B), rfl, (V.ref D132), rfl, D132, wz_y_some413, _, rfl, (.inl owz_y_some421.sq), (RL.len hAz_y_some423), F408, B, C, b414, (((z_y_some412).length : Nat) : Int), r429, b430, rfl, g0415.fh, hB424, hb431, fun F432 H433 g434 hB435 => ?_⟩
      have g437 := Gr.trans g0415 g434
      have ow438 := owz_y_some421.gr g434 nb136
      have ow439 := ow1420.gr g434 nb220
      have ow440 := owD417.gr g434 nb394
      obtain ⟨t441, y_some442, hb443, hm425⟩ := bnd2 hm425
      obtain ⟨j444, hj445, hx446, rfl⟩ := popI_ok hb443
      obtain ⟨v447, hv448, r449⟩ := RL.back (hAz_y_some423.up g434.ff) hx446
      have hi450 := popI_at (n := wz_y_some413.length) (by rw [RL.len (hAz_y_some423.up g434.ff)]; exact hj445) hlz_y_some422
      refine ⟨D132, wz_y_some413, _, j444, v447, rfl, rfl, ow438.h, hi450.1.1, hi450.1.2, hi450.2, hv448, ?_⟩
      have hA451 := RL.erase j444 (hAz_y_some423.up g434.ff)
      have g452 := g437.put (o := (.lst (wz_y_some413.eraseIdx j444))) ow438
      have ow453 := ow439.other (o := (.lst (wz_y_some413.eraseIdx j444))) (Ne.symm ne219)
      have ow454 := ow440.other (o := (.lst (wz_y_some413.eraseIdx j444))) (Ne.symm ne392)
      have hB455 := hB435.other (o := (.lst (wz_y_some413.eraseIdx j444))) nb136
      have ow456 := ow438.put (us := (wz_y_some413.eraseIdx j444))
      have hA457 : RL K F432 (acc409 ++ [v447]) (ds410 ++ [(t441 : (Int × Int))]) := RL.snoc (hA418.up g434.ff) r449
      obtain ⟨rest458, y_some459, b460, h461, h462⟩ := bnd3 hm425
      obtain ⟨rfl, rfl, rfl⟩ := pjoin3 h462
      refine ⟨acc409, ow454.h, (lt_line hi419 hx406 hk388.2), ?_⟩
      have g463 := g452.put (o := (.lst (acc409 ++ [v447]))) ow454
      have ow464 := ow456.other (o := (.lst (acc409 ++ [v447]))) ne392
      have ow465 := ow453.other (o := (.lst (acc409 ++ [v447]))) ne393
      have hB466 := hB455.other (o := (.lst (acc409 ++ [v447]))) nb394
      have ow467 := ow454.put (us := (acc409 ++ [v447]))
      exact ⟨F432, (acc409 ++ [v447]), (ds410 ++ [t441]), rest458, (z_y_some412.eraseIdx j444), (wz_y_some413.eraseIdx j444), b430, g463, (Same.trans sm416 g434.ff), ow467, hA457, (by rw [List.length_append]; exact Nat.succ_le_succ hi419), ow465, ow464, (erase_le hlz_y_some422), hA451, hB466, h461, (snoc_rest hr426)⟩
    intro H468 hP
    obtain ⟨F469, acc470, ds471, _rest, z_y_some473, wz_y_some474, b472, g0475, sm476, owD477, hA478, hi479, ow1480, owz_y_some481, hlz_y_some482, hAz_y_some483, hB484, hm485, hr486⟩ := hP
    rw [drop_end (rangeL_len _ _).symm] at hm485
    rw [m_l_town_drawn_c5.eq_1] at hm485
    obtain ⟨rfl, rfl, rfl⟩ := pjoin3 hm485
    rw [List.append_nil] at hr486
    obtain rfl := hr486
    have hl487 : acc470.length ≤ sizeLine := Nat.le_trans hi479 hk388.2
    refine p_name ?_
    refine p_nx ?_
    refine p_seq ?_
    refine p_asg ?_
    obtain ⟨r488, b489, hb490, hm⟩ := bnd2 hm
    refine ⟨(V.ref B), rfl, F469, B, C, b472, (8 : Int), r488, b489, rfl, g0475.fh, hB484, hb490, fun F491 H492 g493 hB494 => ?_⟩
    have g496 := Gr.trans g0475 g493
    have ow497 := owz_y_some481.gr g493 nb136
    have ow498 := ow1480.gr g493 nb220
    have ow499 := owD477.gr g493 nb394
    obtain ⟨l500, hb502, hm⟩ := bnd hm
    obtain ⟨hk501, rfl⟩ := rangeO1_ok hb502
    refine ⟨_, _, rfl, rfl, _, rfl, hk501.1.1, hk501.1.2, fun D503 nD504 => ?_⟩
    have ne505 := ow497.ne nD504
    have ne506 := ow498.ne nD504
    have ne507 := ow499.ne nD504
    have nb508 := hB494.nb nD504
    have g509 := g496.own (o := (.lst [])) nD504
    have ow510 := ow497.own (o := (.lst [])) nD504
    have ow511 := ow498.own (o := (.lst [])) nD504
    have ow512 := ow499.own (o := (.lst [])) nD504
    have hB513 := hB494.own (o := (.lst [])) nD504
    have ow514 : Ow H0 F491 (upd H492 D503 (.lst [])) D503 [] := Ow.new g496 nD504
    obtain ⟨l515, b516, hb517, hm⟩ := bnd2 hm
    refine lc_range (lo := (0 : Int)) (n := (((1 : Int) + r488)).toNat) (fun i H' => ∃ (F' : Hp) (acc : List V) (ds : List Int) (rest : List Int) (b : Bag), Gr (Bc B C) F0 H0 F' H' ∧ Same F491 F' ∧ Ow H0 F' H' D503 acc ∧ RL K F' acc ds ∧ acc.length ≤ i ∧ Ow H0 F' H' D132 wz_y_some474 ∧ Ow H0 F' H' D215 ws_y_left375 ∧ Ow H0 F' H' D390 acc470 ∧ BagAt F' H' B C b ∧ m_l_town_drawn_c6 t36 ((rangeL (0 : Int) (((1 : Int) + r488)).toNat).drop i) b = some (rest, b516) ∧ ds ++ rest = l515) ?_ ?_ ?_
    · exact ⟨F491, [], [], l515, b489, g509, Same.refl _, ow514, RpA.nil, Nat.le_refl _, ow510, ow511, ow512, hB513, hb517, rfl⟩
    · intro i519 H521 hx520 hP
      obtain ⟨F522, acc523, ds524, rest525, b526, g0527, sm528, owD529, hA530, hi531, ow0532, ow1533, ow2534, hB535, hm536, hr537⟩ := hP
      have he539 := rangeL_at (lo := (0 : Int)) hx520
      rw [drop_at he539, m_l_town_drawn_c6.eq_2] at hm536
      refine ⟨rfl, (p_yes ?_)⟩
      obtain ⟨r540, b541, hb542, hm536⟩ := bnd2 hm536
      refine ⟨(V.ref B), rfl, (V.int t36), rfl, F522, B, C, b526, t36, r540, b541, rfl, g0527.fh, hB535, hb542, fun F543 H544 g545 hB546 => ?_⟩
      have g548 := Gr.trans g0527 g545
      have ow549 := ow0532.gr g545 nb136
      have ow550 := ow1533.gr g545 nb220
      have ow551 := ow2534.gr g545 nb394
      have ow552 := owD529.gr g545 nb508
      have hA553 : RL K F543 (acc523 ++ [(V.int r540)]) (ds524 ++ [(r540 : Int)]) := RL.snoc (hA530.up g545.ff) (Rp.int r540)
      obtain ⟨rest554, b555, h556, h557⟩ := bnd2 hm536
      obtain ⟨rfl, rfl⟩ := pjoin h557
      refine ⟨acc523, ow552.h, (lt_line hi531 hx520 hk501.2), ?_⟩
      have g558 := g548.put (o := (.lst (acc523 ++ [(V.int r540)]))) ow552
      have ow559 := ow549.other (o := (.lst (acc523 ++ [(V.int r540)]))) ne505
      have ow560 := ow550.other (o := (.lst (acc523 ++ [(V.int r540)]))) ne506
      have ow561 := ow551.other (o := (.lst (acc523 ++ [(V.int r540)]))) ne507
      have hB562 := hB546.other (o := (.lst (acc523 ++ [(V.int r540)]))) nb508
      have ow563 := ow552.put (us := (acc523 ++ [(V.int r540)]))
      exact ⟨F543, (acc523 ++ [(V.int r540)]), (ds524 ++ [r540]), rest554, b541, g558, (Same.trans sm528 g545.ff), ow563, hA553, (by rw [List.length_append]; exact Nat.succ_le_succ hi531), ow559, ow560, ow561, hB562, h556, (snoc_rest hr537)⟩
    intro H564 hP
    obtain ⟨F565, acc566, ds567, _rest, b568, g0569, sm570, owD571, hA572, hi573, ow0574, ow1575, ow2576, hB577, hm578, hr579⟩ := hP
    rw [drop_end (rangeL_len _ _).symm] at hm578
    rw [m_l_town_drawn_c6.eq_1] at hm578
    obtain ⟨rfl, rfl⟩ := pjoin hm578
    rw [List.append_nil] at hr579
    obtain rfl := hr579
    have hl580 : acc566.length ≤ sizeLine := Nat.le_trans hi573 hk501.2
    refine p_name ?_
    refine p_nx ?_
    refine p_ret ?_
    obtain ⟨r581, b582, hb583, hm⟩ := bnd2 hm
    refine ⟨(V.ref B), rfl, F565, B, C, b568, (30 : Int), r581, b582, rfl, g0569.fh, hB577, hb583, fun F584 H585 g586 hB587 => ?_⟩
    have g589 := Gr.trans g0569 g586
    have ow590 := ow0574.gr g586 nb136
    have ow591 := ow1575.gr g586 nb220
    have ow592 := ow2576.gr g586 nb394
    have ow593 := owD571.gr g586 nb508
    have sm594 := ow592.sf
    have g595 := g589.fz ow592
    have ow596 : Ow H0 (upd F584 D390 (.lst acc470)) H585 D132 wz_y_some474 := ow590.fz ne392
    have ow597 : Ow H0 (upd F584 D390 (.lst acc470)) H585 D215 ws_y_left375 := ow591.fz ne393
    have ow598 : Ow H0 (upd F584 D390 (.lst acc470)) H585 D503 acc566 := ow593.fz (Ne.symm ne507)
    have hB599 : BagAt (upd F584 D390 (.lst acc470)) H585 B C b582 := hB587.fz nb394
    have r600 : R K (upd F584 D390 (.lst acc470)) (.ref D390) ds471 := R.mkl fzS hl487 (RpA.up (hA478.up (Same.trans g493.ff (Same.trans sm570 g586.ff))) sm594)
    have sm601 := ow598.sf
    have g602 := g595.fz ow598
    have ow603 : Ow H0 (upd (upd F584 D390 (.lst acc470)) D503 (.lst acc566)) H585 D132 wz_y_some474 := ow596.fz ne505
    have ow604 : Ow H0 (upd (upd F584 D390 (.lst acc470)) D503 (.lst acc566)) H585 D215 ws_y_left375 := ow597.fz ne506
    have hB605 : BagAt (upd (upd F584 D390 (.lst acc470)) D503 (.lst acc566)) H585 B C b582 := hB599.fz nb508
    have r606 : R K (upd (upd F584 D390 (.lst acc470)) D503 (.lst acc566)) (.ref D503) ds567 := R.mkl fzS hl580 (RpA.up (hA572.up (Same.trans g586.ff sm594)) sm601)
    refine ⟨_, _, rfl, rfl, (V.int t36), rfl, (V.ref D390), rfl, (V.ref D503), rfl, (by show 4 ≤ sizeLine; decide), fun p607 np608 => ?_⟩
    have ne609 := ow603.ne np608
    have ne610 := ow604.ne np608
    have nb611 := hB605.nb np608
    have sm612 := same_new (o := (.tup [(V.int ((1 : Int) + r581)), (V.int t36), (V.ref D390), (V.ref D503)])) (g602.noneF np608)
    have g613 := g602.frz (o := (.tup [(V.int ((1 : Int) + r581)), (V.int t36), (V.ref D390), (V.ref D503)])) np608
    have ow614 := ow603.frz (o := (.tup [(V.int ((1 : Int) + r581)), (V.int t36), (V.ref D390), (V.ref D503)])) np608
    have ow615 := ow604.frz (o := (.tup [(V.int ((1 : Int) + r581)), (V.int t36), (V.ref D390), (V.ref D503)])) np608
    have hB616 := hB605.frz (o := (.tup [(V.int ((1 : Int) + r581)), (V.int t36), (V.ref D390), (V.ref D503)])) np608
    have r617 : R K (upd (upd (upd F584 D390 (.lst acc470)) D503 (.lst acc566)) p607 (.tup [(V.int ((1 : Int) + r581)), (V.int t36), (V.ref D390), (V.ref D503)])) (.ref p607) ((T4.mk ((1 : Int) + r581) t36 ds471 ds567) : (T4 Int Int (List (Int × Int)) (List Int))) := R.mk4 fzT (Rp.int ((1 : Int) + r581)) (Rp.int t36) (r600.up (Same.trans sm601 sm612)) (r606.up sm612)
    obtain ⟨rfl, rfl⟩ := pjoin hm
    exact (hQ _ _ _ g613 hB616 r617)
end K22
namespace K22
open PySem PySem.Spec PyProof.Rows L2 TL G
theorem ok_l_torn_drawn {P : Program} {w : World} {K : PySem.W.Frag} {mg : Str → Option Value} {base : Heap} (T : Txt K mg) : FnOk P w K mg base CX0 3 T.a_l_torn_drawn T.d_l_torn_drawn ["_law_bag_here", "_law_town"] (sp_l_torn_drawn K) := by
  have G_l_draw : FnOk P w K mg base CX0 2 T.a_l_draw T.d_l_draw ["_law_bag_here", "_law_many"] (sp_l_draw K) := ok_l_draw T
  have b_l_draw := T.F_l_draw.bindsN (ps := ["_law_bag_here", "_law_many"]) fun _ _ _ _ _ _ us hl => match us, hl with | [_, _], _ => rfl
  refine fd_ok T.F_l_torn_drawn sc_l_torn_drawn (fun vs H Q E h => ?_) (fun cdv A outer s H0 vs Q E hr h => ?_)
  · obtain ⟨_, _, _, _, _, _, _, _, rfl, _⟩ := h
    rfl
  · obtain ⟨F0, B, C, b, v_y_town, y_town, r, b', rfl, hS0, hB, r_y_town, hm, hQ⟩ := h
    refine ⟨_, (pss_cons (ps_set (i := 2) sc_l_torn_drawn.nd rfl (.inr rfl) (pe_ix (ix_listK (K := K)) (pe_lst (pa_cons pe_int (pa_cons pe_int (pa_cons pe_int (pa_cons pe_int pa_nil))))) (pe_call G_l_draw (hr.mono (by decide)) (by rfl) T.g_l_draw T.F_l_draw.kp b_l_draw .nil pass0 (pa_cons (pv 0) (pa_cons pe_int pa_nil))) (fun _ _ => rfl))) (pss_one (ps_ret (pe_lc (own := [("_law_k", 3)]) rfl sc_l_torn_drawn.nd (pi_range1 (by rfl) T.n_range (pa_cons (pe_callB (call_lenLK (K := K)) (by rfl) T.n_len (by decide +kernel) (pa_cons (pe_ix (ix_tupK (K := K)) (pv 1) pe_int (fun _ _ => rfl)) pa_nil)) pa_nil)) (blkOk_by (own := [("_law_k", 3)]) (N := N_l_torn_drawn) (sc := defScope s_l_torn_drawn) (by decide +kernel)) (fun _ _ _ _ _ => (pg_name (i := 3) sc_l_torn_drawn.nd rfl (Or.inl rfl) (.inr rfl))) (fun _ _ _ _ _ => (pts_one (PW.pt (pw_and (pt_cmpR op_gt (pv 2) pe_int (nomark _)) (pw_and1 (pt_cmpR op_eq (pe_call G_l_draw (hr.mono (by decide)) (by rfl) T.g_l_draw T.F_l_draw.kp b_l_draw .nil pass0 (pa_cons (pv 0) (pa_cons (pv 2) pa_nil))) pe_int (nomark _))))))) (fun _ _ _ _ _ => (pv 3)))))), ?_⟩
    have g0 : Gr (Bc B C) F0 H0 F0 H0 := Gr.refl hS0
    unfold m_l_torn_drawn at hm
    refine p_seq ?_
    refine p_asg ?_
    refine ⟨(by show 4 ≤ sizeLine; decide), fun p1 np2 => ?_⟩
    have nb3 := hB.nb np2
    have g4 := g0.own (o := (.lst [(V.int (0 : Int)), (V.int (0 : Int)), (V.int (8 : Int)), (V.int (3 : Int))])) np2
    have hB5 := hB.own (o := (.lst [(V.int (0 : Int)), (V.int (0 : Int)), (V.int (8 : Int)), (V.int (3 : Int))])) np2
    have ow6 : Ow H0 F0 (upd H0 p1 (.lst [(V.int (0 : Int)), (V.int (0 : Int)), (V.int (8 : Int)), (V.int (3 : Int))])) p1 [(V.int (0 : Int)), (V.int (0 : Int)), (V.int (8 : Int)), (V.int (3 : Int))] := Ow.new g0 np2
    have hA7 : RL K F0 [(V.int (0 : Int)), (V.int (0 : Int)), (V.int (8 : Int)), (V.int (3 : Int))] ([(0 : Int), (0 : Int), (8 : Int), (3 : Int)] : List Int) := (RpA.cons (Rp.int (0 : Int)) (RpA.cons (Rp.int (0 : Int)) (RpA.cons (Rp.int (8 : Int)) (RpA.cons (Rp.int (3 : Int)) RpA.nil))))
    obtain ⟨r8, b9, hb10, hm⟩ := bnd2 hm
    refine ⟨(V.ref B), rfl, F0, B, C, b, (4 : Int), r8, b9, rfl, g4.fh, hB5, hb10, fun F11 H12 g13 hB14 => ?_⟩
    have g16 := Gr.trans g4 g13
    have ow17 := ow6.gr g13 nb3
    obtain ⟨t18, hb19, hm⟩ := bnd hm
    obtain ⟨v20, ha21, r22⟩ := RL.at (hA7.up g13.ff) hb19
    obtain rfl := R.int_v r22
    refine ⟨p1, [(V.int (0 : Int)), (V.int (0 : Int)), (V.int (8 : Int)), (V.int (3 : Int))], _, (V.int t18), rfl, rfl, ow17.sq, ha21, ?_⟩
    refine p_name ?_
    refine p_nx ?_
    refine p_ret ?_
    obtain ⟨p23, v26, v27, v28, v29, ev24, hS25, r30, r31, r32, r33⟩ := R.p4_v r_y_town
    obtain rfl := R.int_v r30
    obtain rfl := R.int_v r31
    obtain ⟨p34, ws35, ev36, hS37, hl38, hA39⟩ := R.lst_v r32
    obtain ⟨l40, hb42, hm⟩ := bnd hm
    obtain ⟨hk41, rfl⟩ := rangeO1_ok hb42
    refine ⟨v_y_town, rfl, p23, _, _, v28, ev24, rfl, (SqT_mono g16.fh (SqT_mono g13.ff hS25)), rfl, p34, ws35, _, (by rw [ev36]), (.inl (Same.seq g16.fh (Same.seq g13.ff hS37))), (RL.len (hA39.up g13.ff)), _, rfl, hk41.1.1, hk41.1.2, fun D43 nD44 => ?_⟩
    have ne45 := ow17.ne nD44
    have nb46 := hB14.nb nD44
    have g47 := g16.own (o := (.lst [])) nD44
    have ow48 := ow17.own (o := (.lst [])) nD44
    have hB49 := hB14.own (o := (.lst [])) nD44
    have ow50 : Ow H0 F11 (upd H12 D43 (.lst [])) D43 [] := Ow.new g16 nD44
    obtain ⟨l51, b52, hb53, hm⟩ := bnd2 hm
    refine lc_range (lo := (0 : Int)) (n := ((((y_town.c).length : Nat) : Int)).toNat) (fun i H' => ∃ (F' : Hp) (acc : List V) (ds : List Int) (rest : List Int) (b : Bag), Gr (Bc B C) F0 H0 F' H' ∧ Same F11 F' ∧ Ow H0 F' H' D43 acc ∧ RL K F' acc ds ∧ acc.length ≤ i ∧ Ow H0 F' H' p1 [(V.int (0 : Int)), (V.int (0 : Int)), (V.int (8 : Int)), (V.int (3 : Int))] ∧ BagAt F' H' B C b ∧ m_l_torn_drawn_c1 t18 ((rangeL (0 : Int) ((((y_town.c).length : Nat) : Int)).toNat).drop i) b = some (rest, b52) ∧ ds ++ rest = l51) ?_ ?_ ?_
    · exact ⟨F11, [], [], l51, b9, g47, Same.refl _, ow50, RpA.nil, Nat.le_refl _, ow48, hB49, hb53, rfl⟩
    · intro i55 H57 hx56 hP
      obtain ⟨F58, acc59, ds60, rest61, b62, g063, sm64, owD65, hA66, hi67, ow068, hB69, hm70, hr71⟩ := hP
      have he73 := rangeL_at (lo := (0 : Int)) hx56
      rw [drop_at he73, m_l_torn_drawn_c1.eq_2] at hm70
      refine ⟨rfl, ?_⟩
      refine ⟨(V.int t18), rfl, _, _, rfl, rfl, _, rfl, ?_⟩
      obtain ⟨c74, b76, hc75, hm70⟩ := bnd2 hm70
      refine andJT (M := (Bc B C)) (F := F58) (c := c74) (P := fun F' H' => BagAt F' H' B C b76) (fun ha => ?_) (fun ha => ?_) g063.fh ?_
      · intro Q77 q78
        have hc75 := ifT ha hc75
        obtain ⟨r79, b80, hb81, hc75⟩ := bnd2 hc75
        refine ⟨(V.ref B), rfl, (V.int t18), rfl, F58, B, C, b62, t18, r79, b80, rfl, g063.fh, hB69, hb81, fun F82 H83 g84 hB85 => ?_⟩
        have g87 := Gr.trans g063 g84
        have g88 := Gr.trans (Gr.refl (M := (Bc B C)) g063.fh) g84
        have ow89 := ow068.gr g84 nb3
        have ow90 := owD65.gr g84 nb46
        obtain ⟨rfl, rfl⟩ := pjoin hc75
        refine ⟨rfl, _, rfl, (q78 _ _ g88 hB85)⟩
      · have hc75 := ifF ha hc75
        obtain ⟨rfl, rfl⟩ := pjoin hc75
        exact ⟨rfl, hB69⟩
      intro F91 H92 g93 hB94
      have g95 := Gr.trans g063 g93
      have ow96 := ow068.gr g93 nb3
      have ow97 := owD65.gr g93 nb46
      refine (iteB (fun hc => ?_) (fun hc => ?_))
      · have hc : c74 = true := hc
        have hm70 := ifT hc hm70
        have hA98 : RL K F91 (acc59 ++ [(V.int ((0 : Int) + ((i55 : Nat) : Int)))]) (ds60 ++ [(((0 : Int) + ((i55 : Nat) : Int)) : Int)]) := RL.snoc (hA66.up g93.ff) (Rp.int ((0 : Int) + ((i55 : Nat) : Int)))
        obtain ⟨rest99, b100, h101, h102⟩ := bnd2 hm70
        obtain ⟨rfl, rfl⟩ := pjoin h102
        refine ⟨(V.int ((0 : Int) + ((i55 : Nat) : Int))), rfl, acc59, ow97.h, (lt_line hi67 hx56 hk41.2), ?_⟩
        have g103 := g95.put (o := (.lst (acc59 ++ [(V.int ((0 : Int) + ((i55 : Nat) : Int)))]))) ow97
        have ow104 := ow96.other (o := (.lst (acc59 ++ [(V.int ((0 : Int) + ((i55 : Nat) : Int)))]))) ne45
        have hB105 := hB94.other (o := (.lst (acc59 ++ [(V.int ((0 : Int) + ((i55 : Nat) : Int)))]))) nb46
        have ow106 := ow97.put (us := (acc59 ++ [(V.int ((0 : Int) + ((i55 : Nat) : Int)))]))
        exact ⟨F91, (acc59 ++ [(V.int ((0 : Int) + ((i55 : Nat) : Int)))]), (ds60 ++ [((0 : Int) + ((i55 : Nat) : Int))]), rest99, b76, g103, (Same.trans sm64 g93.ff), ow106, hA98, (by rw [List.length_append]; exact Nat.succ_le_succ hi67), ow104, hB105, h101, (snoc_rest hr71)⟩
      · have hc : c74 = false := hc
        have hm70 := ifF hc hm70
        exact ⟨F91, acc59, ds60, rest61, b76, g95, (Same.trans sm64 g93.ff), ow97, (hA66.up g93.ff), (Nat.le_succ_of_le hi67), ow96, hB94, hm70, hr71⟩
    intro H107 hP
    obtain ⟨F108, acc109, ds110, _rest, b111, g0112, sm113, owD114, hA115, hi116, ow0117, hB118, hm119, hr120⟩ := hP
    rw [drop_end (rangeL_len _ _).symm] at hm119
    rw [m_l_torn_drawn_c1.eq_1] at hm119
    obtain ⟨rfl, rfl⟩ := pjoin hm119
    rw [List.append_nil] at hr120
    obtain rfl := hr120
    have hl121 : acc109.length ≤ sizeLine := Nat.le_trans hi116 hk41.2
    obtain ⟨rfl, rfl⟩ := pjoin hm
    exact (hQ _ _ _ _ g0112 hB118 owD114.n0 owD114.h owD114.nF hl121 hA115)
end K22
namespace K22
open PySem PySem.Spec PyProof.Rows L2 TL G
theorem ok_l_come {P : Program} {w : World} {K : PySem.W.Frag} {mg : Str → Option Value} {base : Heap} (T : Txt K mg) : FnOk P w K mg base CX0 1 T.a_l_come T.d_l_come ["_law_want", "_law_done", "_law_house"] (sp_l_come K) := by
  refine fd_ok T.F_l_come sc_l_come (fun vs H Q E h => ?_) (fun cdv A outer s H0 vs Q E hr h => ?_)
  · obtain ⟨_, _, _, _, _, rfl, _⟩ := h
    rfl
  · obtain ⟨F0, v_y_want, y_want, y_done, y_house, rfl, hS0, r_y_want, hQ⟩ := h
    refine ⟨_, (pss_one (ps_ret (pe_tup (pa_cons (pe_op op_add (pv 1) (pe_callTy call_toI (by rfl) T.n_int (by decide +kernel) (pa_cons (pe_cmpR (op_eqDK (K := K) hr.units) (pe_slice (sl_tupF (K := K)) (pe_ix (ix_tupK (K := K)) (pv 0) pe_int (fun _ _ => rfl)) (po_some (pv 1)) (po_some (pe_op op_add (pv 1) pe_int))) (pe_tup (pa_cons (pv 2) pa_nil)) (nomark _)) pa_nil))) (pa_cons (pv 2) pa_nil))))), ?_⟩
    have g0 : Gr M0 F0 H0 F0 H0 := Gr.refl hS0
    unfold m_l_come at hQ
    refine p_ret ?_
    obtain ⟨p1, v4, v5, v6, v7, ev2, hS3, r8, r9, r10, r11⟩ := R.p4_v r_y_want
    obtain rfl := R.int_v r8
    obtain ⟨p12, ws13, ev14, hS15, hl16, hA17⟩ := R.vt_v r9
    refine ⟨(V.int y_done), rfl, v_y_want, rfl, p1, _, _, v5, ev2, rfl, (SqT_mono g0.fh hS3), rfl, (V.int y_done), rfl, _, rfl, (V.int y_done), rfl, _, _, rfl, rfl, _, rfl, F0, p12, ws13, ev14, hS15, g0.fh, fun q18 F19 H20 g21 hs22 => ?_⟩
    have hA23 := RL.cut (some y_done) (some (y_done + (1 : Int))) hA17
    have g24 := Gr.trans g0 g21
    have r25 : R K F19 (.ref q18) ((VT.mk (cutL (y_want.b).l (some y_done) (some (y_done + (1 : Int))))) : (VT Int)) := R.mkvt hs22 (Nat.le_trans (cutV_length _ _ _) hl16) (RpA.up hA23 g21.ff)
    refine ⟨(V.int y_house), rfl, (by show 1 ≤ sizeLine; decide), fun p26 np27 => ?_⟩
    have sm28 := same_new (o := (.tup [(V.int y_house)])) (g24.noneF np27)
    have g29 := g24.frz (o := (.tup [(V.int y_house)])) np27
    have r30 : R K (upd F19 p26 (.tup [(V.int y_house)])) (.ref p26) ((T1.mk y_house) : (T1 Int)) := R.mk1 fzT (Rp.int y_house)
    obtain ⟨p31, v34, ev32, hS33, r35⟩ := R.p1_v r30
    obtain rfl := R.int_v r35
    have r36 : R K (upd F19 p26 (.tup [(V.int y_house)])) (V.ref p26) (VT.mk [(T1.mk y_house).a] : (VT Int)) := r30
    have rH37 : R K (upd H20 p26 (.tup [(V.int y_house)])) (V.ref q18) (VT.mk (cutL (y_want.b).l (some y_done) (some (y_done + (1 : Int))))) := (Rp.up (r25.up sm28) g29.fh)
    have rH38 : R K (upd H20 p26 (.tup [(V.int y_house)])) (V.ref p26) (VT.mk [(T1.mk y_house).a] : (VT Int)) := (Rp.up r36 g29.fh)
    refine ⟨_, _, (Rp.dp _ _ rH37), (Rp.dp _ _ rH38), (R.shaped rH37), (R.shaped rH38), _, rfl, _, _, rfl, rfl, (V.int y_house), rfl, (by show 2 ≤ sizeLine; decide), fun p39 np40 => ?_⟩
    have sm41 := same_new (o := (.tup [(V.int (y_done + (toI (eqD (VT.mk (cutL (y_want.b).l (some y_done) (some (y_done + (1 : Int))))) (VT.mk [(T1.mk y_house).a] : (VT Int)))))), (V.int y_house)])) (g29.noneF np40)
    have g42 := g29.frz (o := (.tup [(V.int (y_done + (toI (eqD (VT.mk (cutL (y_want.b).l (some y_done) (some (y_done + (1 : Int))))) (VT.mk [(T1.mk y_house).a] : (VT Int)))))), (V.int y_house)])) np40
    have r43 : R K (upd (upd F19 p26 (.tup [(V.int y_house)])) p39 (.tup [(V.int (y_done + (toI (eqD (VT.mk (cutL (y_want.b).l (some y_done) (some (y_done + (1 : Int))))) (VT.mk [(T1.mk y_house).a] : (VT Int)))))), (V.int y_house)])) (.ref p39) (((y_done + (toI (eqD (VT.mk (cutL (y_want.b).l (some y_done) (some (y_done + (1 : Int))))) (VT.mk [(T1.mk y_house).a] : (VT Int))))), y_house) : (Int × Int)) := R.mk2 fzT (Rp.int (y_done + (toI (eqD (VT.mk (cutL (y_want.b).l (some y_done) (some (y_done + (1 : Int))))) (VT.mk [(T1.mk y_house).a] : (VT Int)))))) (Rp.int y_house)
    exact (hQ _ _ _ g42 r43)
end K22
namespace K22
open PySem PySem.Spec PyProof.Rows L2 TL G
theorem ok_l_spots_of {P : Program} {w : World} {K : PySem.W.Frag} {mg : Str → Option Value} {base : Heap} (T : Txt K mg) : FnOk P w K mg base CX0 2 T.a_l_spots_of T.d_l_spots_of ["_law_want", "_law_homes"] (sp_l_spots_of K) := by
  have G_l_come : FnOk P w K mg base CX0 1 T.a_l_come T.d_l_come ["_law_want", "_law_done", "_law_house"] (sp_l_come K) := ok_l_come T
  have b_l_come := T.F_l_come.bindsN (ps := ["_law_want", "_law_done", "_law_house"]) fun _ _ _ _ _ _ us hl => match us, hl with | [_, _, _], _ => rfl
  refine fd_ok T.F_l_spots_of sc_l_spots_of (fun vs H Q E h => ?_) (fun cdv A outer s H0 vs Q E hr h => ?_)
  · obtain ⟨_, _, _, _, _, _, _, rfl, _⟩ := h
    rfl
  · obtain ⟨F0, v_y_want, y_want, p_y_homes, ws_y_homes, y_homes, r, rfl, hS0, r_y_want, hS_y_homes, hl_y_homes, hA_y_homes, nm_y_homes, hm, hQ⟩ := h
    refine ⟨_, (pss_cons (ps_set (i := 2) sc_l_spots_of.nd rfl (.inl rfl) (pe_lst pa_nil)) (pss_cons (ps_set (i := 3) sc_l_spots_of.nd rfl (.inl rfl) pe_int) (pss_cons (ps_for PassesOwn.never rfl (pi_listK (K := K) (pv 1)) (pg_name (i := 4) sc_l_spots_of.nd rfl (Or.inl rfl)) (pss_cons (ps_expr (pe_bmK (K := K) PySem.F.plainAttrs_list PySem.F.slot_list_append PySem.F.type_list_append mt_append (pv 2) (pa_cons (pe_call G_l_come (hr.mono (by decide)) (by rfl) T.g_l_come T.F_l_come.kp b_l_come .nil pass0 (pa_cons (pv 0) (pa_cons (pv 3) (pa_cons (pv 4) pa_nil)))) pa_nil))) (pss_one (ps_set (i := 3) sc_l_spots_of.nd rfl (.inl rfl) (pe_ix (ix_tupK (K := K)) (pe_ix (ix_listK (K := K)) (pv 2) (pe_un un_neg pe_int) (fun _ _ => rfl)) pe_int (fun _ _ => rfl)))))) (pss_one (ps_ret (pv 2)))))), ?_⟩
    have g0 : Gr M0 F0 H0 F0 H0 := Gr.refl hS0
    unfold m_l_spots_of at hm
    refine p_seq ?_
    refine p_asg ?_
    refine ⟨(by show 0 ≤ sizeLine; decide), fun p1 np2 => ?_⟩
    have g3 := g0.own (o := (.lst [])) np2
    have ow4 : Ow H0 F0 (upd H0 p1 (.lst [])) p1 [] := Ow.new g0 np2
    have hA5 : RL K F0 [] ([] : List (Int × Int)) := RpA.nil
    obtain ⟨y_found6, hb7, hm⟩ := bnd hm
    have hx8 : ([] : List (Int × Int)) = y_found6 := sjoin hb7
    have hA9 : RL K F0 [] y_found6 := RL.re hx8 hA5
    refine p_name ?_
    refine p_nx ?_
    refine p_seq ?_
    refine p_asg ?_
    refine p_name ?_
    refine p_nx ?_
    refine p_seq ?_
    refine p_for ?_
    refine ⟨(V.ref p_y_homes), rfl, p_y_homes, rfl, ⟨_, (g3.seq nm_y_homes hS_y_homes)⟩, ?_⟩
    obtain ⟨y_done10, y_found11, ht12, hm⟩ := bnd2 hm
    refine for_list (K := K) (a := p_y_homes) (xs := ws_y_homes) (fun i σ' H' => ∃ (F' : Hp) (y_done : Int) (o_y_house : Option V) (y_found : (List (Int × Int))) (ws_y_found : List V), σ' = [(some v_y_want), (some (V.ref p_y_homes)), (some (V.ref p1)), (some (V.int y_done)), o_y_house] ∧ Gr M0 F0 H0 F' H' ∧ Same F0 F' ∧ Ow H0 F' H' p1 ws_y_found ∧ ws_y_found.length ≤ sizeLine ∧ RL K F' ws_y_found y_found ∧ m_l_spots_of_l1 y_want (y_homes.drop i) y_done y_found = some (y_done10, y_found11)) ?_ ?_ ?_ ?_
    · exact ⟨F0, (0 : Int), none, y_found6, [], rfl, g3, (Same.refl _), ow4, (by show 0 ≤ sizeLine; decide), hA9, ht12⟩
    · intro i σ' H' _ hP
      obtain ⟨F', y_done, o_y_house, y_found, ws_y_found, rfl, g_, sm_, ow_y_found, hl_y_found, hA_y_found, hm_⟩ := hP
      exact (g_.seq nm_y_homes hS_y_homes)
    · intro i13 xv16 σ' H15 hx14 hP
      obtain ⟨F17, y_done18, o_y_house19, y_found20, ws_y_found21, rfl, g22, sm23, ow_y_found24, hl_y_found25, hA_y_found26, hm27⟩ := hP
      obtain ⟨e28, he29, r30⟩ := RL.get (hA_y_homes.up sm23) hx14
      obtain rfl := R.int_v r30
      rw [drop_at he29, m_l_spots_of_l1.eq_2] at hm27
      refine p_name ?_
      refine p_seq ?_
      refine p_drop ?_
      refine ⟨(V.ref p1), rfl, (.inl ⟨rfl, _, ow_y_found24.sq⟩), v_y_want, rfl, (V.int y_done18), rfl, (V.int e28), rfl, F17, v_y_want, y_want, y_done18, e28, rfl, g22.fh, (r_y_want.up sm23), fun v35 F32 H33 g34 r36 => ?_⟩
      have g37 := Gr.trans g22 g34
      have ow38 := ow_y_found24.gr0 g34
      obtain ⟨t39, hb40, hm27⟩ := bnd hm27
      obtain ⟨hk41, rfl⟩ := appL_ok hb40
      refine ⟨p1, ws_y_found21, v35, rfl, rfl, ow38.h, (by rw [RL.len (hA_y_found26.up g34.ff)]; exact hk41), ?_⟩
      have hA42 : RL K F32 (ws_y_found21 ++ [v35]) (y_found20 ++ [((m_l_come y_want y_done18 e28) : (Int × Int))]) := RL.snoc (hA_y_found26.up g34.ff) r36
      have hl43 : (ws_y_found21 ++ [v35]).length ≤ sizeLine := by rw [List.length_append, RL.len (hA_y_found26.up g34.ff)]; exact hk41
      have g44 := g37.put (o := (.lst (ws_y_found21 ++ [v35]))) ow38
      have ow45 := ow38.put (us := (ws_y_found21 ++ [v35]))
      refine p_nx ?_
      refine p_asg ?_
      obtain ⟨t46, hb47, hm27⟩ := bnd hm27
      obtain ⟨v48, ha49, r50⟩ := RL.at hA42 hb47
      obtain ⟨p51, v54, v55, ev52, hS53, r56, r57⟩ := R.p2_v r50
      obtain rfl := R.int_v r56
      obtain rfl := R.int_v r57
      refine ⟨(V.ref p1), rfl, _, rfl, p1, (ws_y_found21 ++ [v35]), _, v48, rfl, rfl, ow45.sq, ha49, p51, _, _, (V.int t46.1), ev52, rfl, (SqT_mono g44.fh hS53), rfl, ?_⟩
      refine p_name ?_
      exact ⟨F32, t46.1, (some (V.int e28)), (y_found20 ++ [(m_l_come y_want y_done18 e28)]), (ws_y_found21 ++ [v35]), rfl, g44, (Same.trans sm23 g34.ff), ow45, hl43, hA42, hm27⟩
    intro σ58 H59 hP
    obtain ⟨F60, y_done61, o_y_house62, y_found63, ws_y_found64, rfl, g65, sm66, ow_y_found67, hl_y_found68, hA_y_found69, hm70⟩ := hP
    rw [drop_end (RL.len (hA_y_homes.up sm66)), m_l_spots_of_l1.eq_1] at hm70
    obtain ⟨rfl, rfl⟩ := pjoin hm70
    refine p_nx ?_
    refine p_ret ?_
    obtain rfl := sjoin hm
    refine ⟨(V.ref p1), rfl, (hQ _ _ _ _ g65 ow_y_found67.n0 ow_y_found67.h ow_y_found67.nF hl_y_found68 hA_y_found69)⟩
end K22
namespace K22
open PySem PySem.Spec PyProof.Rows L2 TL G
theorem ok_l_copied {P : Program} {w : World} {K : PySem.W.Frag} {mg : Str → Option Value} {base : Heap} (T : Txt K mg) : FnOk P w K mg base CX0 1 T.a_l_copied T.d_l_copied ["_law_town"] (sp_l_copied K) := by
  refine fd_ok T.F_l_copied sc_l_copied (fun vs H Q E h => ?_) (fun cdv A outer s H0 vs Q E hr h => ?_)
  · obtain ⟨_, _, _, rfl, _⟩ := h
    rfl
  · obtain ⟨F0, v_y_town, y_town, rfl, hS0, r_y_town, hQ⟩ := h
    refine ⟨_, (pss_one (ps_ret (pe_tup (pa_cons (pe_ix (ix_tupK (K := K)) (pv 0) pe_int (fun _ _ => rfl)) (pa_cons (pe_ix (ix_tupK (K := K)) (pv 0) pe_int (fun _ _ => rfl)) (pa_cons (pe_callTy (call_list_of_ (K := K)) (by rfl) T.n_list (by decide +kernel) (pa_cons (pe_ix (ix_tupK (K := K)) (pv 0) pe_int (fun _ _ => rfl)) pa_nil)) (pa_cons (pe_callTy (call_list_of_ (K := K)) (by rfl) T.n_list (by decide +kernel) (pa_cons (pe_ix (ix_tupK (K := K)) (pv 0) pe_int (fun _ _ => rfl)) pa_nil)) pa_nil))))))), ?_⟩
    have g0 : Gr M0 F0 H0 F0 H0 := Gr.refl hS0
    unfold m_l_copied at hQ
    refine p_ret ?_
    obtain ⟨p1, v4, v5, v6, v7, ev2, hS3, r8, r9, r10, r11⟩ := R.p4_v r_y_town
    obtain rfl := R.int_v r8
    obtain rfl := R.int_v r9
    obtain ⟨p12, ws13, ev14, hS15, hl16, hA17⟩ := R.lst_v r10
    refine ⟨v_y_town, rfl, p1, _, _, (V.int y_town.a), ev2, rfl, (SqT_mono g0.fh hS3), rfl, v_y_town, rfl, p1, _, _, (V.int y_town.b), ev2, rfl, (SqT_mono g0.fh hS3), rfl, v_y_town, rfl, p1, _, _, v6, ev2, rfl, (SqT_mono g0.fh hS3), rfl, p12, ws13, (by rw [ev14]), (.inl (Same.seq g0.fh hS15)), fun p18 np19 => ?_⟩
    have hA20 := hA17
    have g21 := g0.own (o := (.lst ws13)) np19
    have ow22 : Ow H0 F0 (upd H0 p18 (.lst ws13)) p18 ws13 := Ow.new g0 np19
    obtain ⟨p23, ws24, ev25, hS26, hl27, hA28⟩ := R.lst_v r11
    refine ⟨v_y_town, rfl, p1, _, _, v7, ev2, rfl, (SqT_mono g21.fh hS3), rfl, p23, ws24, (by rw [ev25]), (.inl (Same.seq g21.fh hS26)), fun p29 np30 => ?_⟩
    have hA31 := hA28
    have ne32 := ow22.ne np30
    have g33 := g21.own (o := (.lst ws24)) np30
    have ow34 := ow22.own (o := (.lst ws24)) np30
    have ow35 : Ow H0 F0 (upd (upd H0 p18 (.lst ws13)) p29 (.lst ws24)) p29 ws24 := Ow.new g21 np30
    have sm36 := ow34.sf
    have g37 := g33.fz ow34
    have ow38 : Ow H0 (upd F0 p18 (.lst ws13)) (upd (upd H0 p18 (.lst ws13)) p29 (.lst ws24)) p29 ws24 := ow35.fz (Ne.symm ne32)
    have r39 : R K (upd F0 p18 (.lst ws13)) (.ref p18) y_town.c := R.mkl fzS hl16 (RpA.up hA20 sm36)
    have sm40 := ow38.sf
    have g41 := g37.fz ow38
    have r42 : R K (upd (upd F0 p18 (.lst ws13)) p29 (.lst ws24)) (.ref p29) y_town.e := R.mkl fzS hl27 (RpA.up (hA31.up sm36) sm40)
    refine ⟨(by show 4 ≤ sizeLine; decide), fun p43 np44 => ?_⟩
    have sm45 := same_new (o := (.tup [(V.int y_town.a), (V.int y_town.b), (V.ref p18), (V.ref p29)])) (g41.noneF np44)
    have g46 := g41.frz (o := (.tup [(V.int y_town.a), (V.int y_town.b), (V.ref p18), (V.ref p29)])) np44
    have r47 : R K (upd (upd (upd F0 p18 (.lst ws13)) p29 (.lst ws24)) p43 (.tup [(V.int y_town.a), (V.int y_town.b), (V.ref p18), (V.ref p29)])) (.ref p43) ((T4.mk y_town.a y_town.b y_town.c y_town.e) : (T4 Int Int (List (Int × Int)) (List Int))) := R.mk4 fzT (Rp.int y_town.a) (Rp.int y_town.b) (r39.up (Same.trans sm40 sm45)) (r42.up sm45)
    exact (hQ _ _ _ g46 r47)
end K22
namespace K22
open PySem PySem.Spec PyProof.Rows L2 TL G
theorem ok_l_walked {P : Program} {w : World} {K : PySem.W.Frag} {mg : Str → Option Value} {base : Heap} (T : Txt K mg) : FnOk P w K mg base CX0 3 T.a_l_walked T.d_l_walked ["_law_bag_here", "_law_town"] (sp_l_walked K) := by
  have G_l_draw : FnOk P w K mg base CX0 2 T.a_l_draw T.d_l_draw ["_law_bag_here", "_law_many"] (sp_l_draw K) := ok_l_draw T
  have b_l_draw := T.F_l_draw.bindsN (ps := ["_law_bag_here", "_law_many"]) fun _ _ _ _ _ _ us hl => match us, hl with | [_, _], _ => rfl
  refine fd_ok T.F_l_walked sc_l_walked (fun vs H Q E h => ?_) (fun cdv A outer s H0 vs Q E hr h => ?_)
  · obtain ⟨_, _, _, _, _, _, _, _, rfl, _⟩ := h
    rfl
  · obtain ⟨F0, B, C, b, v_y_town, y_town, r, b', rfl, hS0, hB, r_y_town, hm, hQ⟩ := h
    refine ⟨_, (pss_cons (ps_set (i := 2) sc_l_walked.nd rfl (.inr rfl) (pe_lst (pa_cons (pe_call G_l_draw (hr.mono (by decide)) (by rfl) T.g_l_draw T.F_l_draw.kp b_l_draw .nil pass0 (pa_cons (pv 0) (pa_cons (pe_ix (ix_tupK (K := K)) (pv 1) pe_int (fun _ _ => rfl)) pa_nil))) pa_nil))) (pss_cons (ps_for PassesOwn.never rfl (pi_range1 (by rfl) T.n_range (pa_cons (pe_call G_l_draw (hr.mono (by decide)) (by rfl) T.g_l_draw T.F_l_draw.kp b_l_draw .nil pass0 (pa_cons (pv 0) (pa_cons (pe_ix (ix_listK (K := K)) (pe_lst (pa_cons pe_int (pa_cons pe_int (pa_cons pe_int pa_nil)))) (pe_call G_l_draw (hr.mono (by decide)) (by rfl) T.g_l_draw T.F_l_draw.kp b_l_draw .nil pass0 (pa_cons (pv 0) (pa_cons pe_int pa_nil))) (fun _ _ => rfl)) pa_nil))) pa_nil)) (pg_name (i := 3) sc_l_walked.nd rfl (Or.inl rfl)) (pss_cons (ps_setLc (i := 4) (own := [("_law_one", 5)]) rfl sc_l_walked.nd rfl rfl (sw_true rfl rfl rfl (by decide +kernel)) (pi_range1 (by rfl) T.n_range (pa_cons (pe_ix (ix_tupK (K := K)) (pv 1) pe_int (fun _ _ => rfl)) pa_nil)) (blkOk_by (own := [("_law_one", 5)]) (N := N_l_walked) (sc := defScope s_l_walked) (by decide +kernel)) (fun _ _ _ _ _ => (pg_name (i := 5) sc_l_walked.nd rfl (Or.inl rfl) (.inr rfl))) (fun _ _ _ _ _ => (pts_one (pt_cmpR (op_inDK (K := K) (units65 hr)) (pe_tup (pa_cons (pe_callB (call_min2 rfl) (by rfl) T.n_min (by decide +kernel) (pa_cons (pv 5) (pa_cons (pe_ix (ix_listK (K := K)) (pv 2) (pe_un un_neg pe_int) (fun _ _ => rfl)) pa_nil))) (pa_cons (pe_callB (call_max2 rfl) (by rfl) T.n_max (by decide +kernel) (pa_cons (pv 5) (pa_cons (pe_ix (ix_listK (K := K)) (pv 2) (pe_un un_neg pe_int) (fun _ _ => rfl)) pa_nil))) pa_nil))) (pe_ix (ix_tupK (K := K)) (pv 1) pe_int (fun _ _ => rfl)) rfl))) (fun _ _ _ _ _ => (pv 5))) (pss_one (ps_if (pt_cmpR (op_neDK (K := K) hr.units) (pv 4) (pe_lst pa_nil) (nomark _)) (pss_one (ps_expr (pe_bmK (K := K) PySem.F.plainAttrs_list PySem.F.slot_list_append PySem.F.type_list_append mt_append (pv 2) (pa_cons (pe_ix (ix_listK (K := K)) (pv 4) (pe_call G_l_draw (hr.mono (by decide)) (by rfl) T.g_l_draw T.F_l_draw.kp b_l_draw .nil pass0 (pa_cons (pv 0) (pa_cons (pe_callB (call_lenLK (K := K)) (by rfl) T.n_len (by decide +kernel) (pa_cons (pv 4) pa_nil)) pa_nil))) (fun _ _ => rfl)) pa_nil)))) pss_nil)))) (pss_one (ps_ret (pv 2))))), ?_⟩
    have g0 : Gr (Bc B C) F0 H0 F0 H0 := Gr.refl hS0
    unfold m_l_walked at hm
    refine p_seq ?_
    refine p_asg ?_
    obtain ⟨p1, v4, v5, v6, v7, ev2, hS3, r8, r9, r10, r11⟩ := R.p4_v r_y_town
    obtain rfl := R.int_v r8
    obtain rfl := R.int_v r9
    obtain ⟨r12, b13, hb14, hm⟩ := bnd2 hm
    refine ⟨(V.ref B), rfl, v_y_town, rfl, p1, _, _, (V.int y_town.b), ev2, rfl, (SqT_mono g0.fh hS3), rfl, F0, B, C, b, y_town.b, r12, b13, rfl, g0.fh, hB, hb14, fun F15 H16 g17 hB18 => ?_⟩
    have g20 := Gr.trans g0 g17
    refine ⟨(by show 1 ≤ sizeLine; decide), fun p21 np22 => ?_⟩
    have nb23 := hB18.nb np22
    have g24 := g20.own (o := (.lst [(V.int r12)])) np22
    have hB25 := hB18.own (o := (.lst [(V.int r12)])) np22
    have ow26 : Ow H0 F15 (upd H16 p21 (.lst [(V.int r12)])) p21 [(V.int r12)] := Ow.new g20 np22
    have hA27 : RL K F15 [(V.int r12)] ([r12] : List Int) := (RpA.cons (Rp.int r12) RpA.nil)
    obtain ⟨y_found28, hb29, hm⟩ := bnd hm
    have hx30 : ([r12] : List Int) = y_found28 := sjoin hb29
    have hA31 : RL K F15 [(V.int r12)] y_found28 := RL.re hx30 hA27
    refine p_name ?_
    refine p_nx ?_
    refine p_seq ?_
    refine p_for ?_
    refine ⟨(V.ref B), rfl, (by show 3 ≤ sizeLine; decide), fun p32 np33 => ?_⟩
    have ne34 := ow26.ne np33
    have nb35 := hB25.nb np33
    have g36 := g24.own (o := (.lst [(V.int (3 : Int)), (V.int (8 : Int)), (V.int (20 : Int))])) np33
    have ow37 := ow26.own (o := (.lst [(V.int (3 : Int)), (V.int (8 : Int)), (V.int (20 : Int))])) np33
    have hB38 := hB25.own (o := (.lst [(V.int (3 : Int)), (V.int (8 : Int)), (V.int (20 : Int))])) np33
    have ow39 : Ow H0 F15 (upd (upd H16 p21 (.lst [(V.int r12)])) p32 (.lst [(V.int (3 : Int)), (V.int (8 : Int)), (V.int (20 : Int))])) p32 [(V.int (3 : Int)), (V.int (8 : Int)), (V.int (20 : Int))] := Ow.new g24 np33
    have hA40 : RL K F15 [(V.int (3 : Int)), (V.int (8 : Int)), (V.int (20 : Int))] ([(3 : Int), (8 : Int), (20 : Int)] : List Int) := (RpA.cons (Rp.int (3 : Int)) (RpA.cons (Rp.int (8 : Int)) (RpA.cons (Rp.int (20 : Int)) RpA.nil)))
    obtain ⟨r41, b42, hb43, hm⟩ := bnd2 hm
    refine ⟨(V.ref B), rfl, F15, B, C, b13, (3 : Int), r41, b42, rfl, g36.fh, hB38, hb43, fun F44 H45 g46 hB47 => ?_⟩
    have g49 := Gr.trans g36 g46
    have ow50 := ow37.gr g46 nb23
    have ow51 := ow39.gr g46 nb35
    obtain ⟨t52, hb53, hm⟩ := bnd hm
    obtain ⟨v54, ha55, r56⟩ := RL.at (hA40.up g46.ff) hb53
    obtain rfl := R.int_v r56
    obtain ⟨r57, b58, hb59, hm⟩ := bnd2 hm
    refine ⟨p32, [(V.int (3 : Int)), (V.int (8 : Int)), (V.int (20 : Int))], _, (V.int t52), rfl, rfl, ow51.sq, ha55, F44, B, C, b42, t52, r57, b58, rfl, g49.fh, hB47, hb59, fun F60 H61 g62 hB63 => ?_⟩
    have g65 := Gr.trans g49 g62
    have ow66 := ow50.gr g62 nb23
    have ow67 := ow51.gr g62 nb35
    obtain ⟨l68, hb70, hm⟩ := bnd hm
    obtain ⟨hk69, rfl⟩ := rangeO1_ok hb70
    refine ⟨_, rfl, hk69.1.1, hk69.1.2, ?_⟩
    obtain ⟨y_found71, b72, ht73, hm⟩ := bnd2 hm
    refine for_range (lo := (0 : Int)) (n := (r57).toNat) (fun i σ' H' => ∃ (F' : Hp) (o_y_k : Option V) (o_y_near : Option V) (y_found : (List Int)) (ws_y_found : List V) (b : Bag), σ' = [(some (V.ref B)), (some v_y_town), (some (V.ref p21)), o_y_k, o_y_near, none] ∧ Gr (Bc B C) F0 H0 F' H' ∧ Same F60 F' ∧ Ow H0 F' H' p21 ws_y_found ∧ ws_y_found.length ≤ sizeLine ∧ RL K F' ws_y_found y_found ∧ BagAt F' H' B C b ∧ m_l_walked_l1 y_town ((rangeL (0 : Int) (r57).toNat).drop i) y_found b = some (y_found71, b72)) ?_ ?_ ?_
    · exact ⟨F60, none, none, y_found28, [(V.int r12)], b58, rfl, g65, (Same.refl _), ow66, (by show 1 ≤ sizeLine; decide), (hA31.up (Same.trans g46.ff g62.ff)), hB63, ht73⟩
    · intro i74 σ' H76 hx75 hP
      obtain ⟨F78, o_y_k79, o_y_near80, y_found81, ws_y_found82, b83, rfl, g84, sm85, ow_y_found86, hl_y_found87, hA_y_found88, hB89, hm90⟩ := hP
      have he92 := rangeL_at (lo := (0 : Int)) hx75
      rw [drop_at he92, m_l_walked_l1.eq_2] at hm90
      refine p_name ?_
      refine p_seq ?_
      refine p_asg ?_
      obtain ⟨l93, hb95, hm90⟩ := bnd hm90
      obtain ⟨hk94, rfl⟩ := rangeO1_ok hb95
      refine ⟨v_y_town, rfl, p1, _, _, (V.int y_town.b), ev2, rfl, (SqT_mono g84.fh (SqT_mono (Same.trans g17.ff (Same.trans g46.ff (Same.trans g62.ff sm85))) hS3)), rfl, _, rfl, hk94.1.1, hk94.1.2, fun D96 nD97 => ?_⟩
      have ne98 := ow_y_found86.ne nD97
      have nb99 := hB89.nb nD97
      have g100 := g84.own (o := (.lst [])) nD97
      have ow101 := ow_y_found86.own (o := (.lst [])) nD97
      have hB102 := hB89.own (o := (.lst [])) nD97
      have ow103 : Ow H0 F78 (upd H76 D96 (.lst [])) D96 [] := Ow.new g84 nD97
      obtain ⟨l104, hb105, hm90⟩ := bnd hm90
      refine lc_range (lo := (0 : Int)) (n := (y_town.b).toNat) (fun i H' => ∃ (F' : Hp) (acc : List V) (ds : List Int) (rest : List Int), Gr (Bc B C) F0 H0 F' H' ∧ Same F78 F' ∧ Ow H0 F' H' D96 acc ∧ RL K F' acc ds ∧ acc.length ≤ i ∧ Ow H0 F' H' p21 ws_y_found82 ∧ BagAt F' H' B C b83 ∧ m_l_walked_c2 y_town y_found81 ((rangeL (0 : Int) (y_town.b).toNat).drop i) = some rest ∧ ds ++ rest = l104) ?_ ?_ ?_
      · exact ⟨F78, [], [], l104, g100, Same.refl _, ow103, RpA.nil, Nat.le_refl _, ow101, hB102, hb105, rfl⟩
      · intro i107 H109 hx108 hP
        obtain ⟨F110, acc111, ds112, rest113, g0114, sm115, owD116, hA117, hi118, ow0119, hB120, hm121, hr122⟩ := hP
        have he124 := rangeL_at (lo := (0 : Int)) hx108
        rw [drop_at he124, m_l_walked_c2.eq_2] at hm121
        obtain ⟨t125, hb126, hm121⟩ := bnd hm121
        obtain ⟨v127, ha128, r129⟩ := RL.at (hA_y_found88.up sm115) hb126
        obtain rfl := R.int_v r129
        obtain ⟨t130, hb131, hm121⟩ := bnd hm121
        obtain ⟨v132, ha133, r134⟩ := RL.at (hA_y_found88.up sm115) hb131
        obtain rfl := R.int_v r134
        refine ⟨rfl, (V.int ((0 : Int) + ((i107 : Nat) : Int))), rfl, (V.ref p21), rfl, _, rfl, p21, ws_y_found82, _, (V.int t125), rfl, rfl, ow0119.sq, ha128, _, _, rfl, (V.int ((0 : Int) + ((i107 : Nat) : Int))), rfl, (V.ref p21), rfl, _, rfl, p21, ws_y_found82, _, (V.int t130), rfl, rfl, ow0119.sq, ha133, _, _, rfl, (by show 2 ≤ sizeLine; decide), fun p135 np136 => ?_⟩
        have ne137 := ow0119.ne np136
        have ne138 := owD116.ne np136
        have nb139 := hB120.nb np136
        have sm140 := same_new (o := (.tup [(V.int (if t125 < ((0 : Int) + ((i107 : Nat) : Int)) then t125 else ((0 : Int) + ((i107 : Nat) : Int)))), (V.int (if t130 > ((0 : Int) + ((i107 : Nat) : Int)) then t130 else ((0 : Int) + ((i107 : Nat) : Int))))])) (g0114.noneF np136)
        have g141 := g0114.frz (o := (.tup [(V.int (if t125 < ((0 : Int) + ((i107 : Nat) : Int)) then t125 else ((0 : Int) + ((i107 : Nat) : Int)))), (V.int (if t130 > ((0 : Int) + ((i107 : Nat) : Int)) then t130 else ((0 : Int) + ((i107 : Nat) : Int))))])) np136
        have ow142 := ow0119.frz (o := (.tup [(V.int (if t125 < ((0 : Int) + ((i107 : Nat) : Int)) then t125 else ((0 : Int) + ((i107 : Nat) : Int)))), (V.int (if t130 > ((0 : Int) + ((i107 : Nat) : Int)) then t130 else ((0 : Int) + ((i107 : Nat) : Int))))])) np136
        have ow143 := owD116.frz (o := (.tup [(V.int (if t125 < ((0 : Int) + ((i107 : Nat) : Int)) then t125 else ((0 : Int) + ((i107 : Nat) : Int)))), (V.int (if t130 > ((0 : Int) + ((i107 : Nat) : Int)) then t130 else ((0 : Int) + ((i107 : Nat) : Int))))])) np136
        have hB144 := hB120.frz (o := (.tup [(V.int (if t125 < ((0 : Int) + ((i107 : Nat) : Int)) then t125 else ((0 : Int) + ((i107 : Nat) : Int)))), (V.int (if t130 > ((0 : Int) + ((i107 : Nat) : Int)) then t130 else ((0 : Int) + ((i107 : Nat) : Int))))])) np136
        have r145 : R K (upd F110 p135 (.tup [(V.int (if t125 < ((0 : Int) + ((i107 : Nat) : Int)) then t125 else ((0 : Int) + ((i107 : Nat) : Int)))), (V.int (if t130 > ((0 : Int) + ((i107 : Nat) : Int)) then t130 else ((0 : Int) + ((i107 : Nat) : Int))))])) (.ref p135) (((if t125 < ((0 : Int) + ((i107 : Nat) : Int)) then t125 else ((0 : Int) + ((i107 : Nat) : Int))), (if t130 > ((0 : Int) + ((i107 : Nat) : Int)) then t130 else ((0 : Int) + ((i107 : Nat) : Int)))) : (Int × Int)) := R.mk2 fzT (Rp.int (if t125 < ((0 : Int) + ((i107 : Nat) : Int)) then t125 else ((0 : Int) + ((i107 : Nat) : Int)))) (Rp.int (if t130 > ((0 : Int) + ((i107 : Nat) : Int)) then t130 else ((0 : Int) + ((i107 : Nat) : Int))))
        have rH146 : R K (upd H109 p135 (.tup [(V.int (if t125 < ((0 : Int) + ((i107 : Nat) : Int)) then t125 else ((0 : Int) + ((i107 : Nat) : Int)))), (V.int (if t130 > ((0 : Int) + ((i107 : Nat) : Int)) then t130 else ((0 : Int) + ((i107 : Nat) : Int))))])) (V.ref p135) ((if t125 < ((0 : Int) + ((i107 : Nat) : Int)) then t125 else ((0 : Int) + ((i107 : Nat) : Int))), (if t130 > ((0 : Int) + ((i107 : Nat) : Int)) then t130 else ((0 : Int) + ((i107 : Nat) : Int)))) := (Rp.up r145 g141.fh)
        have rH147 : R K (upd H109 p135 (.tup [(V.int (if t125 < ((0 : Int) + ((i107 : Nat) : Int)) then t125 else ((0 : Int) + ((i107 : Nat) : Int)))), (V.int (if t130 > ((0 : Int) + ((i107 : Nat) : Int)) then t130 else ((0 : Int) + ((i107 : Nat) : Int))))])) v6 y_town.c := (Rp.up (r10.up (Same.trans g17.ff (Same.trans g46.ff (Same.trans g62.ff (Same.trans sm85 (Same.trans sm115 sm140)))))) g141.fh)
        refine ⟨v_y_town, rfl, p1, _, _, v6, ev2, rfl, (SqT_mono g141.fh (SqT_mono (Same.trans g17.ff (Same.trans g46.ff (Same.trans g62.ff (Same.trans sm85 (Same.trans sm115 sm140))))) hS3)), rfl, _, _, (Rp.dp _ _ rH146), (Rp.dp _ _ rH147), (R.shaped rH146), (R.shaped rH147), _, rfl, (iteB (fun hc => ?_) (fun hc => ?_))⟩
        · have hc : (inD ((if t125 < ((0 : Int) + ((i107 : Nat) : Int)) then t125 else ((0 : Int) + ((i107 : Nat) : Int))), (if t130 > ((0 : Int) + ((i107 : Nat) : Int)) then t130 else ((0 : Int) + ((i107 : Nat) : Int)))) y_town.c) = true := hc
          have hm121 := ifT hc hm121
          have hA148 : RL K (upd F110 p135 (.tup [(V.int (if t125 < ((0 : Int) + ((i107 : Nat) : Int)) then t125 else ((0 : Int) + ((i107 : Nat) : Int)))), (V.int (if t130 > ((0 : Int) + ((i107 : Nat) : Int)) then t130 else ((0 : Int) + ((i107 : Nat) : Int))))])) (acc111 ++ [(V.int ((0 : Int) + ((i107 : Nat) : Int)))]) (ds112 ++ [(((0 : Int) + ((i107 : Nat) : Int)) : Int)]) := RL.snoc (hA117.up sm140) (Rp.int ((0 : Int) + ((i107 : Nat) : Int)))
          obtain ⟨rest149, h150, h151⟩ := bnd hm121
          obtain rfl := sjoin h151
          refine ⟨(V.int ((0 : Int) + ((i107 : Nat) : Int))), rfl, acc111, ow143.h, (lt_line hi118 hx108 hk94.2), ?_⟩
          have g152 := g141.put (o := (.lst (acc111 ++ [(V.int ((0 : Int) + ((i107 : Nat) : Int)))]))) ow143
          have ow153 := ow142.other (o := (.lst (acc111 ++ [(V.int ((0 : Int) + ((i107 : Nat) : Int)))]))) ne98
          have hB154 := hB144.other (o := (.lst (acc111 ++ [(V.int ((0 : Int) + ((i107 : Nat) : Int)))]))) nb99
          have ow155 := ow143.put (us := (acc111 ++ [(V.int ((0 : Int) + ((i107 : Nat) : Int)))]))
          exact ⟨(upd F110 p135 (.tup [(V.int (if t125 < ((0 : Int) + ((i107 : Nat) : Int)) then t125 else ((0 : Int) + ((i107 : Nat) : Int)))), (V.int (if t130 > ((0 : Int) + ((i107 : Nat) : Int)) then t130 else ((0 : Int) + ((i107 : Nat) : Int))))])), (acc111 ++ [(V.int ((0 : Int) + ((i107 : Nat) : Int)))]), (ds112 ++ [((0 : Int) + ((i107 : Nat) : Int))]), rest149, g152, (Same.trans sm115 sm140), ow155, hA148, (by rw [List.length_append]; exact Nat.succ_le_succ hi118), ow153, hB154, h150, (snoc_rest hr122)⟩
        · have hc : (inD ((if t125 < ((0 : Int) + ((i107 : Nat) : Int)) then t125 else ((0 : Int) + ((i107 : Nat) : Int))), (if t130 > ((0 : Int) + ((i107 : Nat) : Int)) then t130 else ((0 : Int) + ((i107 : Nat) : Int)))) y_town.c) = false := hc
          have hm121 := ifF hc hm121
          exact ⟨(upd F110 p135 (.tup [(V.int (if t125 < ((0 : Int) + ((i107 : Nat) : Int)) then t125 else ((0 : Int) + ((i107 : Nat) : Int)))), (V.int (if t130 > ((0 : Int) + ((i107 : Nat) : Int)) then t130 else ((0 : Int) + ((i107 : Nat) : Int))))])), acc111, ds112, rest113, g141, (Same.trans sm115 sm140), ow143, (hA117.up sm140), (Nat.le_succ_of_le hi118), ow142, hB144, hm121, hr122⟩
      intro H156 hP
      obtain ⟨F157, acc158, ds159, _rest, g0161, sm162, owD163, hA164, hi165, ow0166, hB167, hm168, hr169⟩ := hP
      rw [drop_end (rangeL_len _ _).symm] at hm168
      rw [m_l_walked_c2.eq_1] at hm168
      obtain rfl := sjoin hm168
      rw [List.append_nil] at hr169
      obtain rfl := hr169
      have hl170 : acc158.length ≤ sizeLine := Nat.le_trans hi165 hk94.2
      refine p_name ?_
      refine p_nx ?_
      refine p_if ?_
      refine ⟨(V.ref D96), rfl, (by show 0 ≤ sizeLine; decide), fun p171 np172 => ?_⟩
      have ne173 := ow0166.ne np172
      have ne174 := owD163.ne np172
      have nb175 := hB167.nb np172
      have g176 := g0161.own (o := (.lst [])) np172
      have ow177 := ow0166.own (o := (.lst [])) np172
      have ow178 := owD163.own (o := (.lst [])) np172
      have hB179 := hB167.own (o := (.lst [])) np172
      have ow180 : Ow H0 F157 (upd H156 p171 (.lst [])) p171 [] := Ow.new g0161 np172
      have rH182 : R K (upd H156 p171 (.lst [])) (V.ref D96) ds159 := (R.mkl ow178.sq hl170 (RpA.up hA164 g176.fh))
      have rH183 : R K (upd H156 p171 (.lst [])) (V.ref p171) ([] : (List Int)) := (R.mkl ow180.sq (by show 0 ≤ sizeLine; decide) (RpA.up RpA.nil g176.fh))
      refine ⟨_, _, (Rp.dp _ _ rH182), (Rp.dp _ _ rH183), (R.shaped rH182), (R.shaped rH183), _, rfl, (iteB (fun hc => ?_) (fun hc => ?_))⟩
      · have hm90 := ifT hc hm90
        refine p_drop ?_
        obtain ⟨r184, b185, hb186, hm90⟩ := bnd2 hm90
        refine ⟨(V.ref p21), rfl, (.inl ⟨rfl, _, ow177.sq⟩), (V.ref D96), rfl, (V.ref B), rfl, (V.ref D96), rfl, D96, acc158, _, rfl, (.inl ow178.sq), (RL.len hA164), F157, B, C, b83, (((ds159).length : Nat) : Int), r184, b185, rfl, g176.fh, hB179, hb186, fun F187 H188 g189 hB190 => ?_⟩
        have g192 := Gr.trans g176 g189
        have ow193 := ow177.gr g189 nb23
        have ow194 := ow178.gr g189 nb99
        have ow195 := ow180.gr g189 nb175
        obtain ⟨t196, hb197, hm90⟩ := bnd hm90
        obtain ⟨v198, ha199, r200⟩ := RL.at (hA164.up g189.ff) hb197
        obtain rfl := R.int_v r200
        obtain ⟨t201, hb202, hm90⟩ := bnd hm90
        obtain ⟨hk203, rfl⟩ := appL_ok hb202
        refine ⟨D96, acc158, _, (V.int t196), rfl, rfl, ow194.sq, ha199, p21, ws_y_found82, (V.int t196), rfl, rfl, ow193.h, (by rw [RL.len (hA_y_found88.up (Same.trans sm162 g189.ff))]; exact hk203), ?_⟩
        have hA204 : RL K F187 (ws_y_found82 ++ [(V.int t196)]) (y_found81 ++ [(t196 : Int)]) := RL.snoc (hA_y_found88.up (Same.trans sm162 g189.ff)) (Rp.int t196)
        have hl205 : (ws_y_found82 ++ [(V.int t196)]).length ≤ sizeLine := by rw [List.length_append, RL.len (hA_y_found88.up (Same.trans sm162 g189.ff))]; exact hk203
        have g206 := g192.put (o := (.lst (ws_y_found82 ++ [(V.int t196)]))) ow193
        have ow207 := ow194.other (o := (.lst (ws_y_found82 ++ [(V.int t196)]))) (Ne.symm ne98)
        have ow208 := ow195.other (o := (.lst (ws_y_found82 ++ [(V.int t196)]))) (Ne.symm ne173)
        have hB209 := hB190.other (o := (.lst (ws_y_found82 ++ [(V.int t196)]))) nb23
        have ow210 := ow193.put (us := (ws_y_found82 ++ [(V.int t196)]))
        exact ⟨F187, (some (V.int ((0 : Int) + ((i74 : Nat) : Int)))), (some (V.ref D96)), (y_found81 ++ [t196]), (ws_y_found82 ++ [(V.int t196)]), b185, rfl, g206, (Same.trans sm85 (Same.trans sm162 g189.ff)), ow210, hl205, hA204, hB209, hm90⟩
      · have hm90 := ifF hc hm90
        refine p_next ?_
        exact ⟨F157, (some (V.int ((0 : Int) + ((i74 : Nat) : Int)))), (some (V.ref D96)), y_found81, ws_y_found82, b83, rfl, g176, (Same.trans sm85 sm162), ow177, hl_y_found87, (hA_y_found88.up sm162), hB179, hm90⟩
    intro σ211 H212 hP
    obtain ⟨F213, o_y_k214, o_y_near215, y_found216, ws_y_found217, b218, rfl, g219, sm220, ow_y_found221, hl_y_found222, hA_y_found223, hB224, hm225⟩ := hP
    rw [drop_end (rangeL_len _ _).symm, m_l_walked_l1.eq_1] at hm225
    obtain ⟨rfl, rfl⟩ := pjoin hm225
    refine p_nx ?_
    refine p_ret ?_
    obtain ⟨rfl, rfl⟩ := pjoin hm
    refine ⟨(V.ref p21), rfl, (hQ _ _ _ _ g219 hB224 ow_y_found221.n0 ow_y_found221.h ow_y_found221.nF hl_y_found222 hA_y_found223)⟩
end K22
namespace K22
open PySem PySem.Spec PyProof.Rows L2 TL G
theorem ok_l_want_fitting {P : Program} {w : World} {K : PySem.W.Frag} {mg : Str → Option Value} {base : Heap} (T : Txt K mg) : FnOk P w K mg base CX0 3 T.a_l_want_fitting T.d_l_want_fitting ["_law_bag_here", "_law_town", "_law_homes"] (sp_l_want_fitting K) := by
  have G_l_draw : FnOk P w K mg base CX0 2 T.a_l_draw T.d_l_draw ["_law_bag_here", "_law_many"] (sp_l_draw K) := ok_l_draw T
  have b_l_draw := T.F_l_draw.bindsN (ps := ["_law_bag_here", "_law_many"]) fun _ _ _ _ _ _ us hl => match us, hl with | [_, _], _ => rfl
  refine fd_ok T.F_l_want_fitting sc_l_want_fitting (fun vs H Q E h => ?_) (fun cdv A outer s H0 vs Q E hr h => ?_)
  · obtain ⟨_, _, _, _, _, _, _, _, _, _, _, rfl, _⟩ := h
    rfl
  · obtain ⟨F0, B, C, b, v_y_town, y_town, p_y_homes, ws_y_homes, y_homes, r, b', rfl, hS0, hB, r_y_town, hS_y_homes, hl_y_homes, hA_y_homes, nm_y_homes, hm, hQ⟩ := h
    refine ⟨_, (pss_cons (ps_set (i := 3) sc_l_want_fitting.nd rfl (.inl rfl) (pe_lst pa_nil)) (pss_cons (ps_for PassesOwn.never rfl (pi_listK (K := K) (pe_lc (own := [("_law_one", 7)]) rfl sc_l_want_fitting.nd (pi_listK (K := K) (pv 2)) (blkOk_by (own := [("_law_one", 7)]) (N := N_l_want_fitting) (sc := defScope s_l_want_fitting) (by decide +kernel)) (fun _ _ _ _ _ => (pg_name (i := 7) sc_l_want_fitting.nd rfl (Or.inl rfl) (.inr rfl))) (fun _ _ _ _ _ => (pts_one (pt_cmpR op_eq (pe_call G_l_draw (hr.mono (by decide)) (by rfl) T.g_l_draw T.F_l_draw.kp b_l_draw .nil pass0 (pa_cons (pv 0) (pa_cons pe_int pa_nil))) pe_int (nomark _)))) (fun _ _ _ _ _ => (pv 7)))) (pg_name (i := 4) sc_l_want_fitting.nd rfl (Or.inl rfl)) (pss_one (ps_if (PW.pt (pw_and (pt_cmpR op_lt (pe_callB (call_lenLK (K := K)) (by rfl) T.n_len (by decide +kernel) (pa_cons (pv 3) pa_nil)) pe_int (nomark _)) (pw_and1 (PW.pt (pw_or (pt_cmpR (op_eqDK (K := K) hr.units) (pv 3) (pe_lst pa_nil) (nomark _)) (pw_or1 (pt_cmpR op_ne (pe_ix (ix_listK (K := K)) (pv 3) (pe_un un_neg pe_int) (fun _ _ => rfl)) (pv 4) (nomark _)))))))) (pss_one (ps_expr (pe_bmK (K := K) PySem.F.plainAttrs_list PySem.F.slot_list_append PySem.F.type_list_append mt_append (pv 3) (pa_cons (pv 4) pa_nil)))) pss_nil))) (pss_cut (ps_if (pt_cmpR op_eq (pe_call G_l_draw (hr.mono (by decide)) (by rfl) T.g_l_draw T.F_l_draw.kp b_l_draw .nil pass0 (pa_cons (pv 0) (pa_cons pe_int pa_nil))) pe_int (nomark _)) (pss_one (ps_set (i := 3) sc_l_want_fitting.nd rfl (.inl rfl) (pe_revLK (K := K) (pv 3)))) pss_nil) (pss_cons (ps_set (i := 5) sc_l_want_fitting.nd rfl (.inl rfl) (pe_slice (sl_listK (K := K)) (pe_lc (own := [("_law_one", 7)]) rfl sc_l_want_fitting.nd (pi_range1 (by rfl) T.n_range (pa_cons (pe_ix (ix_tupK (K := K)) (pv 1) pe_int (fun _ _ => rfl)) pa_nil)) (blkOk_by (own := [("_law_one", 7)]) (N := N_l_want_fitting) (sc := defScope s_l_want_fitting) (by decide +kernel)) (fun _ _ _ _ _ => (pg_name (i := 7) sc_l_want_fitting.nd rfl (Or.inl rfl) (.inr rfl))) (fun _ _ _ _ _ => (pts_one (PW.pt (pw_and (pt_cmpR (op_notInI (K := K)) (pv 7) (pv 2) rfl) (pw_and1 (pt_cmpR op_eq (pe_call G_l_draw (hr.mono (by decide)) (by rfl) T.g_l_draw T.F_l_draw.kp b_l_draw .nil pass0 (pa_cons (pv 0) (pa_cons pe_int pa_nil))) pe_int (nomark _))))))) (fun _ _ _ _ _ => (pv 7))) po_none (po_some pe_int))) (pss_cut (ps_if (pt_cmpR op_eq (pe_call G_l_draw (hr.mono (by decide)) (by rfl) T.g_l_draw T.F_l_draw.kp b_l_draw .nil pass0 (pa_cons (pv 0) (pa_cons pe_int pa_nil))) pe_int (nomark _)) (pss_one (ps_set (i := 5) sc_l_want_fitting.nd rfl (.inl rfl) (pe_ssetK (K := K) rfl (by rfl) T.n_sorted (by rfl) T.n_set (pe_op (op_catLK (K := K)) (pe_slice (sl_listK (K := K)) (pv 5) po_none (po_some pe_int)) (pe_lst (pa_cons (pe_ix (ix_listK (K := K)) (pv 2) (pe_call G_l_draw (hr.mono (by decide)) (by rfl) T.g_l_draw T.F_l_draw.kp b_l_draw .nil pass0 (pa_cons (pv 0) (pa_cons (pe_callB (call_lenLK (K := K)) (by rfl) T.n_len (by decide +kernel) (pa_cons (pv 2) pa_nil)) pa_nil))) (fun _ _ => rfl)) pa_nil)))))) pss_nil) (pss_cons (ps_set (i := 6) sc_l_want_fitting.nd rfl (.inl rfl) (pe_ix (ix_listK (K := K)) (pe_lst (pa_cons pe_non (pa_cons (pe_op op_sub (pe_callB (call_lenLK (K := K)) (by rfl) T.n_len (by decide +kernel) (pa_cons (pv 2) pa_nil)) pe_int) (pa_cons (pe_callB (call_max2 rfl) (by rfl) T.n_max (by decide +kernel) (pa_cons pe_int (pa_cons (pe_op op_sub (pe_callB (call_lenLK (K := K)) (by rfl) T.n_len (by decide +kernel) (pa_cons (pv 2) pa_nil)) pe_int) pa_nil))) (pa_cons (pe_callB (call_lenLK (K := K)) (by rfl) T.n_len (by decide +kernel) (pa_cons (pv 2) pa_nil)) (pa_cons pe_int pa_nil)))))) (pe_call G_l_draw (hr.mono (by decide)) (by rfl) T.g_l_draw T.F_l_draw.kp b_l_draw .nil pass0 (pa_cons (pv 0) (pa_cons pe_int pa_nil))) (fun _ _ => rfl))) (pss_one (ps_ret (pe_tup (pa_cons (pe_op op_sub (pe_callB (call_lenLK (K := K)) (by rfl) T.n_len (by decide +kernel) (pa_cons (pe_ix (ix_tupK (K := K)) (pv 1) pe_int (fun _ _ => rfl)) pa_nil)) pe_int) (pa_cons (pe_tupleOfK (K := K) (by rfl) T.n_tuple (pv 3)) (pa_cons (pe_tupleOfK (K := K) (by rfl) T.n_tuple (pv 5)) (pa_cons (pv 6) pa_nil))))))))))))), ?_⟩
    have g0 : Gr (Bc B C) F0 H0 F0 H0 := Gr.refl hS0
    unfold m_l_want_fitting at hm
    refine p_seq ?_
    refine p_asg ?_
    refine ⟨(by show 0 ≤ sizeLine; decide), fun p1 np2 => ?_⟩
    have nb3 := hB.nb np2
    have g4 := g0.own (o := (.lst [])) np2
    have hB5 := hB.own (o := (.lst [])) np2
    have ow6 : Ow H0 F0 (upd H0 p1 (.lst [])) p1 [] := Ow.new g0 np2
    have hA7 : RL K F0 [] ([] : List Int) := RpA.nil
    refine p_name ?_
    refine p_nx ?_
    refine p_seq ?_
    refine p_for ?_
    refine ⟨(V.ref p_y_homes), rfl, p_y_homes, rfl, ⟨_, (nm_y_homes _ _ g4)⟩, fun D8 nD9 => ?_⟩
    have ne10 := ow6.ne nD9
    have nb11 := hB5.nb nD9
    have g12 := g4.own (o := (.lst [])) nD9
    have ow13 := ow6.own (o := (.lst [])) nD9
    have hB14 := hB5.own (o := (.lst [])) nD9
    have ow15 : Ow H0 F0 (upd (upd H0 p1 (.lst [])) D8 (.lst [])) D8 [] := Ow.new g4 nD9
    obtain ⟨l16, b17, hb18, hm⟩ := bnd2 hm
    refine lc_list (K := K) (a := p_y_homes) (xs := ws_y_homes) (fun i H' => ∃ (F' : Hp) (acc : List V) (ds : List Int) (rest : List Int) (b : Bag), Gr (Bc B C) F0 H0 F' H' ∧ Same F0 F' ∧ Ow H0 F' H' D8 acc ∧ RL K F' acc ds ∧ acc.length ≤ i ∧ Ow H0 F' H' p1 [] ∧ BagAt F' H' B C b ∧ m_l_want_fitting_c2  (y_homes.drop i) b = some (rest, b17) ∧ ds ++ rest = l16) ?_ ?_ ?_ ?_
    · exact ⟨F0, [], [], l16, b, g12, Same.refl _, ow15, RpA.nil, Nat.le_refl _, ow13, hB14, hb18, rfl⟩
    · intro i H' _ hP
      obtain ⟨F19, acc20, ds21, rest22, b23, g024, sm25, owD26, hA27, hi28, ow029, hB30, hm31, hr32⟩ := hP
      exact (nm_y_homes _ _ g024)
    · intro i34 xv33 H36 hx35 hP
      obtain ⟨F37, acc38, ds39, rest40, b41, g042, sm43, owD44, hA45, hi46, ow047, hB48, hm49, hr50⟩ := hP
      obtain ⟨e51, he52, r53⟩ := RL.get (hA_y_homes.up sm43) hx35
      obtain rfl := R.int_v r53
      rw [drop_at he52, m_l_want_fitting_c2.eq_2] at hm49
      obtain ⟨r54, b55, hb56, hm49⟩ := bnd2 hm49
      refine ⟨rfl, (V.ref B), rfl, F37, B, C, b41, (4 : Int), r54, b55, rfl, g042.fh, hB48, hb56, fun F57 H58 g59 hB60 => ?_⟩
      have g62 := Gr.trans g042 g59
      have ow63 := ow047.gr g59 nb3
      have ow64 := owD44.gr g59 nb11
      refine ⟨rfl, _, rfl, (iteB (fun hc => ?_) (fun hc => ?_))⟩
      · have hc : (eqI r54 (0 : Int)) = true := hc
        have hm49 := ifT hc hm49
        have hA65 : RL K F57 (acc38 ++ [(V.int e51)]) (ds39 ++ [(e51 : Int)]) := RL.snoc (hA45.up g59.ff) (Rp.int e51)
        obtain ⟨rest66, b67, h68, h69⟩ := bnd2 hm49
        obtain ⟨rfl, rfl⟩ := pjoin h69
        refine ⟨(V.int e51), rfl, acc38, ow64.h, (lt_line hi46 (List.getElem?_eq_some_iff.mp hx35).1 hl_y_homes), ?_⟩
        have g70 := g62.put (o := (.lst (acc38 ++ [(V.int e51)]))) ow64
        have ow71 := ow63.other (o := (.lst (acc38 ++ [(V.int e51)]))) ne10
        have hB72 := hB60.other (o := (.lst (acc38 ++ [(V.int e51)]))) nb11
        have ow73 := ow64.put (us := (acc38 ++ [(V.int e51)]))
        exact ⟨F57, (acc38 ++ [(V.int e51)]), (ds39 ++ [e51]), rest66, b55, g70, (Same.trans sm43 g59.ff), ow73, hA65, (by rw [List.length_append]; exact Nat.succ_le_succ hi46), ow71, hB72, h68, (snoc_rest hr50)⟩
      · have hc : (eqI r54 (0 : Int)) = false := hc
        have hm49 := ifF hc hm49
        exact ⟨F57, acc38, ds39, rest40, b55, g62, (Same.trans sm43 g59.ff), ow64, (hA45.up g59.ff), (Nat.le_succ_of_le hi46), ow63, hB60, hm49, hr50⟩
    intro H74 hP
    obtain ⟨F75, acc76, ds77, _rest, b78, g079, sm80, owD81, hA82, hi83, ow084, hB85, hm86, hr87⟩ := hP
    rw [drop_end (RL.len hA_y_homes)] at hm86
    rw [m_l_want_fitting_c2.eq_1] at hm86
    obtain ⟨rfl, rfl⟩ := pjoin hm86
    rw [List.append_nil] at hr87
    obtain rfl := hr87
    have hl88 : acc76.length ≤ sizeLine := Nat.le_trans hi83 hl_y_homes
    refine ⟨D8, rfl, ⟨_, owD81.sq⟩, ?_⟩
    obtain ⟨y_by89, ht90, hm⟩ := bnd hm
    refine for_list (K := K) (a := D8) (xs := acc76) (fun i σ' H' => ∃ (F' : Hp) (o_y_house : Option V) (y_by : (List Int)) (ws_y_by : List V), σ' = [(some (V.ref B)), (some v_y_town), (some (V.ref p_y_homes)), (some (V.ref p1)), o_y_house, none, none, none] ∧ Gr (Bc B C) F0 H0 F' H' ∧ Same F75 F' ∧ Ow H0 F' H' p1 ws_y_by ∧ ws_y_by.length ≤ sizeLine ∧ RL K F' ws_y_by y_by ∧ Ow H0 F' H' D8 acc76 ∧ BagAt F' H' B C b78 ∧ m_l_want_fitting_l1  (ds77.drop i) y_by = some y_by89) ?_ ?_ ?_ ?_
    · exact ⟨F75, none, ([] : List Int), [], rfl, g079, (Same.refl _), ow084, (by show 0 ≤ sizeLine; decide), (hA7.up sm80), owD81, hB85, ht90⟩
    · intro i σ' H' _ hP
      obtain ⟨F', o_y_house, y_by, ws_y_by, rfl, g_, sm_, ow_y_by, hl_y_by, hA_y_by, owk0_, hB_, hm_⟩ := hP
      exact owk0_.sq
    · intro i91 xv94 σ' H93 hx92 hP
      obtain ⟨F95, o_y_house96, y_by97, ws_y_by98, rfl, g99, sm100, ow_y_by101, hl_y_by102, hA_y_by103, owk0104, hB105, hm106⟩ := hP
      obtain ⟨e107, he108, r109⟩ := RL.get (hA82.up sm100) hx92
      obtain rfl := R.int_v r109
      rw [drop_at he108, m_l_want_fitting_l1.eq_2] at hm106
      refine p_name ?_
      refine p_if ?_
      refine ⟨(V.ref p1), rfl, p1, ws_y_by98, _, rfl, (.inl ow_y_by101.sq), (RL.len hA_y_by103), _, _, rfl, rfl, _, rfl, ?_⟩
      obtain ⟨c110, hc111, hm106⟩ := bnd hm106
      refine andJT (M := M0) (F := F95) (c := c110) (P := fun _ _ => True) (fun ha => ?_) (fun ha => ⟨(sjoin (ifF ha hc111)).symm, trivial⟩) g99.fh ?_
      · intro Q113 q114
        have hc111 := ifT ha hc111
        refine ⟨(V.ref p1), rfl, (by show 0 ≤ sizeLine; decide), fun p115 np116 => ?_⟩
        have ne117 := ow_y_by101.ne np116
        have ne118 := owk0104.ne np116
        have nb119 := hB105.nb np116
        have g120 := g99.own (o := (.lst [])) np116
        have g121 := (Gr.refl (M := M0) g99.fh).own (o := (.lst [])) np116
        have ow122 := ow_y_by101.own (o := (.lst [])) np116
        have ow123 := owk0104.own (o := (.lst [])) np116
        have hB124 := hB105.own (o := (.lst [])) np116
        have ow125 : Ow H0 F95 (upd H93 p115 (.lst [])) p115 [] := Ow.new g99 np116
        have rH127 : R K (upd H93 p115 (.lst [])) (V.ref p1) y_by97 := (R.mkl ow122.sq hl_y_by102 (RpA.up hA_y_by103 g120.fh))
        have rH128 : R K (upd H93 p115 (.lst [])) (V.ref p115) ([] : (List Int)) := (R.mkl ow125.sq (by show 0 ≤ sizeLine; decide) (RpA.up RpA.nil g120.fh))
        refine ⟨_, _, (Rp.dp _ _ rH127), (Rp.dp _ _ rH128), (R.shaped rH127), (R.shaped rH128), _, rfl, ?_⟩
        obtain ⟨c129, hc130, hc111⟩ := bnd hc111
        refine orJT (M := M0) (F := F95) (c := c129) (P := fun _ _ => True) (fun ha => ?_) (fun ha => ⟨(sjoin (ifT ha hc130)).symm, trivial⟩) g120.fh ?_
        · intro Q132 q133
          have hc130 := ifF ha hc130
          obtain ⟨t134, hb135, hc130⟩ := bnd hc130
          obtain ⟨v136, ha137, r138⟩ := RL.at hA_y_by103 hb135
          obtain rfl := R.int_v r138
          obtain rfl := sjoin hc130
          refine ⟨(V.ref p1), rfl, _, rfl, p1, ws_y_by98, _, (V.int t134), rfl, rfl, ow122.sq, ha137, (V.int e107), rfl, rfl, _, rfl, (q133 _ _ (Gr.refl (M := M0) g120.fh) trivial)⟩
        intro F139 H140 g141 hB142
        have g143 := Gr.trans g120 (Gr.of0 g141)
        have g144 := Gr.trans g121 g141
        have ow145 := ow122.gr0 g141
        have ow146 := ow123.gr0 g141
        have ow147 := ow125.gr0 g141
        have hB148 := hB124.gr0 g141
        obtain rfl := sjoin hc111
        exact (q114 _ _ g144 trivial)
      intro F149 H150 g151 hB152
      have g153 := Gr.trans g99 (Gr.of0 g151)
      have ow154 := ow_y_by101.gr0 g151
      have ow155 := owk0104.gr0 g151
      have hB156 := hB105.gr0 g151
      refine (iteB (fun hc => ?_) (fun hc => ?_))
      · have hm106 := ifT hc hm106
        refine p_drop ?_
        obtain ⟨t157, hb158, hm106⟩ := bnd hm106
        obtain ⟨hk159, rfl⟩ := appL_ok hb158
        refine ⟨(V.ref p1), rfl, (.inl ⟨rfl, _, ow154.sq⟩), (V.int e107), rfl, p1, ws_y_by98, (V.int e107), rfl, rfl, ow154.h, (by rw [RL.len (hA_y_by103.up g151.ff)]; exact hk159), ?_⟩
        have hA160 : RL K F149 (ws_y_by98 ++ [(V.int e107)]) (y_by97 ++ [(e107 : Int)]) := RL.snoc (hA_y_by103.up g151.ff) (Rp.int e107)
        have hl161 : (ws_y_by98 ++ [(V.int e107)]).length ≤ sizeLine := by rw [List.length_append, RL.len (hA_y_by103.up g151.ff)]; exact hk159
        have g162 := g153.put (o := (.lst (ws_y_by98 ++ [(V.int e107)]))) ow154
        have ow163 := ow155.other (o := (.lst (ws_y_by98 ++ [(V.int e107)]))) (Ne.symm ne10)
        have hB164 := hB156.other (o := (.lst (ws_y_by98 ++ [(V.int e107)]))) nb3
        have ow165 := ow154.put (us := (ws_y_by98 ++ [(V.int e107)]))
        exact ⟨F149, (some (V.int e107)), (y_by97 ++ [e107]), (ws_y_by98 ++ [(V.int e107)]), rfl, g162, (Same.trans sm100 g151.ff), ow165, hl161, hA160, ow163, hB164, hm106⟩
      · have hm106 := ifF hc hm106
        refine p_next ?_
        exact ⟨F149, (some (V.int e107)), y_by97, ws_y_by98, rfl, g153, (Same.trans sm100 g151.ff), ow154, hl_y_by102, (hA_y_by103.up g151.ff), ow155, hB156, hm106⟩
    intro σ166 H167 hP
    obtain ⟨F168, o_y_house169, y_by170, ws_y_by171, rfl, g172, sm173, ow_y_by174, hl_y_by175, hA_y_by176, owk0177, hB178, hm179⟩ := hP
    rw [drop_end (RL.len (hA82.up sm173)), m_l_want_fitting_l1.eq_1] at hm179
    obtain rfl := sjoin hm179
    refine p_nx ?_
    obtain ⟨y_by180, b181, hj182, hm⟩ := bnd2 hm
    refine ⟨fun σ' H' => ∃ (F' : Hp) (v_y_by180 : V), σ' = [(some (V.ref B)), (some v_y_town), (some (V.ref p_y_homes)), (some v_y_by180), o_y_house169, none, none, none] ∧ Gr (Bc B C) F0 H0 F' H' ∧ Same F168 F' ∧ R K F' v_y_by180 y_by180 ∧ BagAt F' H' B C b181, ?_, ?_⟩
    · refine p_if ?_
      obtain ⟨r183, b184, hb185, hj182⟩ := bnd2 hj182
      refine ⟨(V.ref B), rfl, F168, B, C, b78, (6 : Int), r183, b184, rfl, g172.fh, hB178, hb185, fun F186 H187 g188 hB189 => ?_⟩
      have g191 := Gr.trans g172 g188
      have ow192 := ow_y_by174.gr g188 nb3
      have ow193 := owk0177.gr g188 nb11
      refine ⟨rfl, _, rfl, (iteB (fun hc => ?_) (fun hc => ?_))⟩
      · have hj182 := ifT hc hj182
        refine p_asg ?_
        refine ⟨(V.ref p1), rfl, p1, ws_y_by171, rfl, ow192.sq, fun p194 np195 => ?_⟩
        have hA196 := RL.rev (hA_y_by176.up g188.ff)
        have ne197 := ow192.ne np195
        have ne198 := ow193.ne np195
        have nb199 := hB189.nb np195
        have g200 := g191.own (o := (.lst (ws_y_by171.reverse))) np195
        have ow201 := ow192.own (o := (.lst (ws_y_by171.reverse))) np195
        have ow202 := ow193.own (o := (.lst (ws_y_by171.reverse))) np195
        have hB203 := hB189.own (o := (.lst (ws_y_by171.reverse))) np195
        have ow204 : Ow H0 F186 (upd H187 p194 (.lst (ws_y_by171.reverse))) p194 (ws_y_by171.reverse) := Ow.new g191 np195
        obtain ⟨y_by205, hx206⟩ : ∃ z_, (y_by170.reverse) = z_ := ⟨_, rfl⟩
        try rw [hx206] at hj182
        have hA207 : RL K F186 (ws_y_by171.reverse) y_by205 := RL.re hx206 hA196
        refine p_name ?_
        have sm208 := ow204.sf
        have g209 := g200.fz ow204
        have ow210 : Ow H0 (upd F186 p194 (.lst (ws_y_by171.reverse))) (upd H187 p194 (.lst (ws_y_by171.reverse))) p1 ws_y_by171 := ow201.fz ne197
        have ow211 : Ow H0 (upd F186 p194 (.lst (ws_y_by171.reverse))) (upd H187 p194 (.lst (ws_y_by171.reverse))) D8 acc76 := ow202.fz ne198
        have hB212 : BagAt (upd F186 p194 (.lst (ws_y_by171.reverse))) (upd H187 p194 (.lst (ws_y_by171.reverse))) B C b184 := hB203.fz nb199
        have r213 : R K (upd F186 p194 (.lst (ws_y_by171.reverse))) (.ref p194) y_by205 := R.mkl fzS (by rw [List.length_reverse]; exact hl_y_by175) (RpA.up hA207 sm208)
        obtain ⟨rfl, rfl⟩ := pjoin hj182
        exact ⟨(upd F186 p194 (.lst (ws_y_by171.reverse))), (V.ref p194), rfl, g209, (Same.trans g188.ff sm208), r213, hB212⟩
      · have hj182 := ifF hc hj182
        refine p_next ?_
        have sm214 := ow192.sf
        have g215 := g191.fz ow192
        have ow216 : Ow H0 (upd F186 p1 (.lst ws_y_by171)) H187 D8 acc76 := ow193.fz (Ne.symm ne10)
        have hB217 : BagAt (upd F186 p1 (.lst ws_y_by171)) H187 B C b184 := hB189.fz nb3
        have r218 : R K (upd F186 p1 (.lst ws_y_by171)) (.ref p1) y_by170 := R.mkl fzS hl_y_by175 (RpA.up (hA_y_by176.up g188.ff) sm214)
        obtain ⟨rfl, rfl⟩ := pjoin hj182
        exact ⟨(upd F186 p1 (.lst ws_y_by171)), (V.ref p1), rfl, g215, (Same.trans g188.ff sm214), r218, hB217⟩
    intro σ219 H220 hMid
    obtain ⟨F221, v_y_by180227, rfl, g222, sm223, r_y_by180224, hB225⟩ := hMid
    refine p_seq ?_
    refine p_asg ?_
    obtain ⟨p228, v231, v232, v233, v234, ev229, hS230, r235, r236, r237, r238⟩ := R.p4_v r_y_town
    obtain rfl := R.int_v r235
    obtain rfl := R.int_v r236
    obtain ⟨l239, hb241, hm⟩ := bnd hm
    obtain ⟨hk240, rfl⟩ := rangeO1_ok hb241
    refine ⟨v_y_town, rfl, p228, _, _, (V.int y_town.b), ev229, rfl, (SqT_mono g222.fh (SqT_mono (Same.trans sm80 (Same.trans sm173 sm223)) hS230)), rfl, _, rfl, hk240.1.1, hk240.1.2, fun D242 nD243 => ?_⟩
    have nb244 := hB225.nb nD243
    have g245 := g222.own (o := (.lst [])) nD243
    have hB246 := hB225.own (o := (.lst [])) nD243
    have ow247 : Ow H0 F221 (upd H220 D242 (.lst [])) D242 [] := Ow.new g222 nD243
    obtain ⟨l248, b249, hb250, hm⟩ := bnd2 hm
    refine lc_range (lo := (0 : Int)) (n := (y_town.b).toNat) (fun i H' => ∃ (F' : Hp) (acc : List V) (ds : List Int) (rest : List Int) (b : Bag), Gr (Bc B C) F0 H0 F' H' ∧ Same F221 F' ∧ Ow H0 F' H' D242 acc ∧ RL K F' acc ds ∧ acc.length ≤ i ∧ BagAt F' H' B C b ∧ m_l_want_fitting_c3 y_homes ((rangeL (0 : Int) (y_town.b).toNat).drop i) b = some (rest, b249) ∧ ds ++ rest = l248) ?_ ?_ ?_
    · exact ⟨F221, [], [], l248, b181, g245, Same.refl _, ow247, RpA.nil, Nat.le_refl _, hB246, hb250, rfl⟩
    · intro i252 H254 hx253 hP
      obtain ⟨F255, acc256, ds257, rest258, b259, g0260, sm261, owD262, hA263, hi264, hB265, hm266, hr267⟩ := hP
      have he269 := rangeL_at (lo := (0 : Int)) hx253
      rw [drop_at he269, m_l_want_fitting_c3.eq_2] at hm266
      refine ⟨rfl, ?_⟩
      refine ⟨(V.int ((0 : Int) + ((i252 : Nat) : Int))), rfl, (V.ref p_y_homes), rfl, _, p_y_homes, _, rfl, rfl, (.inl (by rw [← RL.ints (hA_y_homes.up (Same.trans sm80 (Same.trans sm173 (Same.trans sm223 sm261))))]; exact (nm_y_homes _ _ g0260))), _, rfl, ?_⟩
      obtain ⟨c270, b272, hc271, hm266⟩ := bnd2 hm266
      refine andJT (M := (Bc B C)) (F := F255) (c := c270) (P := fun F' H' => BagAt F' H' B C b272) (fun ha => ?_) (fun ha => ?_) g0260.fh ?_
      · intro Q273 q274
        have hc271 := ifT ha hc271
        obtain ⟨r275, b276, hb277, hc271⟩ := bnd2 hc271
        refine ⟨(V.ref B), rfl, F255, B, C, b259, (3 : Int), r275, b276, rfl, g0260.fh, hB265, hb277, fun F278 H279 g280 hB281 => ?_⟩
        have g283 := Gr.trans g0260 g280
        have g284 := Gr.trans (Gr.refl (M := (Bc B C)) g0260.fh) g280
        have ow285 := owD262.gr g280 nb244
        obtain ⟨rfl, rfl⟩ := pjoin hc271
        refine ⟨rfl, _, rfl, (q274 _ _ g284 hB281)⟩
      · have hc271 := ifF ha hc271
        obtain ⟨rfl, rfl⟩ := pjoin hc271
        exact ⟨rfl, hB265⟩
      intro F286 H287 g288 hB289
      have g290 := Gr.trans g0260 g288
      have ow291 := owD262.gr g288 nb244
      refine (iteB (fun hc => ?_) (fun hc => ?_))
      · have hc : c270 = true := hc
        have hm266 := ifT hc hm266
        have hA292 : RL K F286 (acc256 ++ [(V.int ((0 : Int) + ((i252 : Nat) : Int)))]) (ds257 ++ [(((0 : Int) + ((i252 : Nat) : Int)) : Int)]) := RL.snoc (hA263.up g288.ff) (Rp.int ((0 : Int) + ((i252 : Nat) : Int)))
        obtain ⟨rest293, b294, h295, h296⟩ := bnd2 hm266
        obtain ⟨rfl, rfl⟩ := pjoin h296
        refine ⟨(V.int ((0 : Int) + ((i252 : Nat) : Int))), rfl, acc256, ow291.h, (lt_line hi264 hx253 hk240.2), ?_⟩
        have g297 := g290.put (o := (.lst (acc256 ++ [(V.int ((0 : Int) + ((i252 : Nat) : Int)))]))) ow291
        have hB298 := hB289.other (o := (.lst (acc256 ++ [(V.int ((0 : Int) + ((i252 : Nat) : Int)))]))) nb244
        have ow299 := ow291.put (us := (acc256 ++ [(V.int ((0 : Int) + ((i252 : Nat) : Int)))]))
        exact ⟨F286, (acc256 ++ [(V.int ((0 : Int) + ((i252 : Nat) : Int)))]), (ds257 ++ [((0 : Int) + ((i252 : Nat) : Int))]), rest293, b272, g297, (Same.trans sm261 g288.ff), ow299, hA292, (by rw [List.length_append]; exact Nat.succ_le_succ hi264), hB298, h295, (snoc_rest hr267)⟩
      · have hc : c270 = false := hc
        have hm266 := ifF hc hm266
        exact ⟨F286, acc256, ds257, rest258, b272, g290, (Same.trans sm261 g288.ff), ow291, (hA263.up g288.ff), (Nat.le_succ_of_le hi264), hB289, hm266, hr267⟩
    intro H300 hP
    obtain ⟨F301, acc302, ds303, _rest, b304, g0305, sm306, owD307, hA308, hi309, hB310, hm311, hr312⟩ := hP
    rw [drop_end (rangeL_len _ _).symm] at hm311
    rw [m_l_want_fitting_c3.eq_1] at hm311
    obtain ⟨rfl, rfl⟩ := pjoin hm311
    rw [List.append_nil] at hr312
    obtain rfl := hr312
    have hl313 : acc302.length ≤ sizeLine := Nat.le_trans hi309 hk240.2
    refine ⟨_, rfl, D242, acc302, rfl, owD307.sq, fun p314 np315 => ?_⟩
    have hA316 : RL K F301 (cutV acc302 none (some (3 : Int))) (cutL ds303 none (some (3 : Int))) := RL.cut none (some (3 : Int)) hA308
    have ne317 := owD307.ne np315
    have nb318 := hB310.nb np315
    have g319 := g0305.own (o := (.lst (cutV acc302 none (some (3 : Int))))) np315
    have ow320 := owD307.own (o := (.lst (cutV acc302 none (some (3 : Int))))) np315
    have hB321 := hB310.own (o := (.lst (cutV acc302 none (some (3 : Int))))) np315
    have ow322 : Ow H0 F301 (upd H300 p314 (.lst (cutV acc302 none (some (3 : Int))))) p314 (cutV acc302 none (some (3 : Int))) := Ow.new g0305 np315
    obtain ⟨y_past323, hb324, hm⟩ := bnd hm
    have hx325 : (cutL ds303 none (some (3 : Int))) = y_past323 := sjoin hb324
    have hA326 : RL K F301 (cutV acc302 none (some (3 : Int))) y_past323 := RL.re hx325 hA316
    refine p_name ?_
    refine p_nx ?_
    obtain ⟨y_past327, b328, hj329, hm⟩ := bnd2 hm
    refine ⟨fun σ' H' => ∃ (F' : Hp) (v_y_past327 : V), σ' = [(some (V.ref B)), (some v_y_town), (some (V.ref p_y_homes)), (some v_y_by180227), o_y_house169, (some v_y_past327), none, none] ∧ Gr (Bc B C) F0 H0 F' H' ∧ Same F301 F' ∧ R K F' v_y_past327 y_past327 ∧ BagAt F' H' B C b328, ?_, ?_⟩
    · refine p_if ?_
      obtain ⟨r330, b331, hb332, hj329⟩ := bnd2 hj329
      refine ⟨(V.ref B), rfl, F301, B, C, b304, (8 : Int), r330, b331, rfl, g319.fh, hB321, hb332, fun F333 H334 g335 hB336 => ?_⟩
      have g338 := Gr.trans g319 g335
      have ow339 := ow320.gr g335 nb244
      have ow340 := ow322.gr g335 nb318
      refine ⟨rfl, _, rfl, (iteB (fun hc => ?_) (fun hc => ?_))⟩
      · have hj329 := ifT hc hj329
        refine p_asg ?_
        refine ⟨(V.ref p314), rfl, _, rfl, p314, (cutV acc302 none (some (3 : Int))), rfl, ow340.sq, fun p341 np342 => ?_⟩
        have hA343 : RL K F333 (cutV (cutV acc302 none (some (3 : Int))) none (some (2 : Int))) (cutL y_past323 none (some (2 : Int))) := RL.cut none (some (2 : Int)) (hA326.up g335.ff)
        have ne344 := ow339.ne np342
        have ne345 := ow340.ne np342
        have nb346 := hB336.nb np342
        have g347 := g338.own (o := (.lst (cutV (cutV acc302 none (some (3 : Int))) none (some (2 : Int))))) np342
        have ow348 := ow339.own (o := (.lst (cutV (cutV acc302 none (some (3 : Int))) none (some (2 : Int))))) np342
        have ow349 := ow340.own (o := (.lst (cutV (cutV acc302 none (some (3 : Int))) none (some (2 : Int))))) np342
        have hB350 := hB336.own (o := (.lst (cutV (cutV acc302 none (some (3 : Int))) none (some (2 : Int))))) np342
        have ow351 : Ow H0 F333 (upd H334 p341 (.lst (cutV (cutV acc302 none (some (3 : Int))) none (some (2 : Int))))) p341 (cutV (cutV acc302 none (some (3 : Int))) none (some (2 : Int))) := Ow.new g338 np342
        obtain ⟨r352, b353, hb354, hj329⟩ := bnd2 hj329
        refine ⟨(V.ref p_y_homes), rfl, (V.ref B), rfl, (V.ref p_y_homes), rfl, p_y_homes, ws_y_homes, _, rfl, (.inl (nm_y_homes _ _ g347)), (RL.len (hA_y_homes.up (Same.trans sm80 (Same.trans sm173 (Same.trans sm223 (Same.trans sm306 g335.ff)))))), F333, B, C, b331, (((y_homes).length : Nat) : Int), r352, b353, rfl, g347.fh, hB350, hb354, fun F355 H356 g357 hB358 => ?_⟩
        have g360 := Gr.trans g347 g357
        have ow361 := ow348.gr g357 nb244
        have ow362 := ow349.gr g357 nb318
        have ow363 := ow351.gr g357 nb346
        obtain ⟨t364, hb365, hj329⟩ := bnd hj329
        obtain ⟨v366, ha367, r368⟩ := RL.at (hA_y_homes.up (Same.trans sm80 (Same.trans sm173 (Same.trans sm223 (Same.trans sm306 (Same.trans g335.ff g357.ff)))))) hb365
        obtain rfl := R.int_v r368
        refine ⟨p_y_homes, ws_y_homes, _, (V.int t364), rfl, rfl, (nm_y_homes _ _ g360), ha367, (by show 1 ≤ sizeLine; decide), fun p369 np370 => ?_⟩
        have ne371 := ow361.ne np370
        have ne372 := ow362.ne np370
        have ne373 := ow363.ne np370
        have nb374 := hB358.nb np370
        have g375 := g360.own (o := (.lst [(V.int t364)])) np370
        have ow376 := ow361.own (o := (.lst [(V.int t364)])) np370
        have ow377 := ow362.own (o := (.lst [(V.int t364)])) np370
        have ow378 := ow363.own (o := (.lst [(V.int t364)])) np370
        have hB379 := hB358.own (o := (.lst [(V.int t364)])) np370
        have ow380 : Ow H0 F355 (upd H356 p369 (.lst [(V.int t364)])) p369 [(V.int t364)] := Ow.new g360 np370
        have hA381 : RL K F355 [(V.int t364)] ([t364] : List Int) := (RpA.cons (Rp.int t364) RpA.nil)
        obtain ⟨t382, hb383, hj329⟩ := bnd hj329
        obtain ⟨hk384, rfl⟩ := conL_ok hb383
        have hz387 : ((cutV (cutV acc302 none (some (3 : Int))) none (some (2 : Int))) ++ [(V.int t364)]).length ≤ sizeLine := by rw [List.length_append, RL.len (hA343.up g357.ff), RL.len hA381]; exact hk384
        refine ⟨p341, p369, (cutV (cutV acc302 none (some (3 : Int))) none (some (2 : Int))), [(V.int t364)], rfl, rfl, ow378.sq, ow380.sq, (by rw [RL.len (hA343.up g357.ff), RL.len hA381]; exact hk384), fun p385 np386 => ?_⟩
        have hA388 := RL.app (hA343.up g357.ff) hA381
        have ne390 := ow376.ne np386
        have ne391 := ow377.ne np386
        have ne392 := ow378.ne np386
        have ne393 := ow380.ne np386
        have nb394 := hB379.nb np386
        have g395 := g375.own (o := (.lst ((cutV (cutV acc302 none (some (3 : Int))) none (some (2 : Int))) ++ [(V.int t364)]))) np386
        have ow396 := ow376.own (o := (.lst ((cutV (cutV acc302 none (some (3 : Int))) none (some (2 : Int))) ++ [(V.int t364)]))) np386
        have ow397 := ow377.own (o := (.lst ((cutV (cutV acc302 none (some (3 : Int))) none (some (2 : Int))) ++ [(V.int t364)]))) np386
        have ow398 := ow378.own (o := (.lst ((cutV (cutV acc302 none (some (3 : Int))) none (some (2 : Int))) ++ [(V.int t364)]))) np386
        have ow399 := ow380.own (o := (.lst ((cutV (cutV acc302 none (some (3 : Int))) none (some (2 : Int))) ++ [(V.int t364)]))) np386
        have hB400 := hB379.own (o := (.lst ((cutV (cutV acc302 none (some (3 : Int))) none (some (2 : Int))) ++ [(V.int t364)]))) np386
        have ow401 : Ow H0 F355 (upd (upd H356 p369 (.lst [(V.int t364)])) p385 (.lst ((cutV (cutV acc302 none (some (3 : Int))) none (some (2 : Int))) ++ [(V.int t364)]))) p385 ((cutV (cutV acc302 none (some (3 : Int))) none (some (2 : Int))) ++ [(V.int t364)]) := Ow.new g375 np386
        obtain ⟨t402, hb403, hj329⟩ := bnd hj329
        obtain ⟨hk404, hss_⟩ := ssetO_ok hb403
        subst hss_
        refine ⟨p385, ((cutL y_past323 none (some (2 : Int))) ++ ([t364] : List Int)), rfl, (by rw [← RL.ints hA388]; exact ow401.sq), hk404, fun ns405 p409 so406 mm407 ln408 np410 => ?_⟩
        obtain rfl := ssort_uniq so406 mm407
        have hl411 : ((ssort ((cutL y_past323 none (some (2 : Int))) ++ ([t364] : List Int))).map V.int).length ≤ sizeLine := by rw [List.length_map, sizeLine_eq]; omega
        have hA412 : RL K F355 ((ssort ((cutL y_past323 none (some (2 : Int))) ++ ([t364] : List Int))).map V.int) (ssort ((cutL y_past323 none (some (2 : Int))) ++ ([t364] : List Int))) := RL.ofInts _
        have ne413 := ow396.ne np410
        have ne414 := ow397.ne np410
        have ne415 := ow398.ne np410
        have ne416 := ow399.ne np410
        have ne417 := ow401.ne np410
        have nb418 := hB400.nb np410
        have g419 := g395.own (o := (.lst ((ssort ((cutL y_past323 none (some (2 : Int))) ++ ([t364] : List Int))).map V.int))) np410
        have ow420 := ow396.own (o := (.lst ((ssort ((cutL y_past323 none (some (2 : Int))) ++ ([t364] : List Int))).map V.int))) np410
        have ow421 := ow397.own (o := (.lst ((ssort ((cutL y_past323 none (some (2 : Int))) ++ ([t364] : List Int))).map V.int))) np410
        have ow422 := ow398.own (o := (.lst ((ssort ((cutL y_past323 none (some (2 : Int))) ++ ([t364] : List Int))).map V.int))) np410
        have ow423 := ow399.own (o := (.lst ((ssort ((cutL y_past323 none (some (2 : Int))) ++ ([t364] : List Int))).map V.int))) np410
        have ow424 := ow401.own (o := (.lst ((ssort ((cutL y_past323 none (some (2 : Int))) ++ ([t364] : List Int))).map V.int))) np410
        have hB425 := hB400.own (o := (.lst ((ssort ((cutL y_past323 none (some (2 : Int))) ++ ([t364] : List Int))).map V.int))) np410
        have ow426 : Ow H0 F355 (upd (upd (upd H356 p369 (.lst [(V.int t364)])) p385 (.lst ((cutV (cutV acc302 none (some (3 : Int))) none (some (2 : Int))) ++ [(V.int t364)]))) p409 (.lst ((ssort ((cutL y_past323 none (some (2 : Int))) ++ ([t364] : List Int))).map V.int))) p409 ((ssort ((cutL y_past323 none (some (2 : Int))) ++ ([t364] : List Int))).map V.int) := Ow.new g395 np410
        obtain ⟨y_past427, hx428⟩ : ∃ z_, (ssort ((cutL y_past323 none (some (2 : Int))) ++ ([t364] : List Int))) = z_ := ⟨_, rfl⟩
        try rw [hx428] at hj329
        have hA429 : RL K F355 ((ssort ((cutL y_past323 none (some (2 : Int))) ++ ([t364] : List Int))).map V.int) y_past427 := RL.re hx428 hA412
        refine p_name ?_
        have sm430 := ow426.sf
        have g431 := g419.fz ow426
        have ow432 : Ow H0 (upd F355 p409 (.lst ((ssort ((cutL y_past323 none (some (2 : Int))) ++ ([t364] : List Int))).map V.int))) (upd (upd (upd H356 p369 (.lst [(V.int t364)])) p385 (.lst ((cutV (cutV acc302 none (some (3 : Int))) none (some (2 : Int))) ++ [(V.int t364)]))) p409 (.lst ((ssort ((cutL y_past323 none (some (2 : Int))) ++ ([t364] : List Int))).map V.int))) D242 acc302 := ow420.fz ne413
        have ow433 : Ow H0 (upd F355 p409 (.lst ((ssort ((cutL y_past323 none (some (2 : Int))) ++ ([t364] : List Int))).map V.int))) (upd (upd (upd H356 p369 (.lst [(V.int t364)])) p385 (.lst ((cutV (cutV acc302 none (some (3 : Int))) none (some (2 : Int))) ++ [(V.int t364)]))) p409 (.lst ((ssort ((cutL y_past323 none (some (2 : Int))) ++ ([t364] : List Int))).map V.int))) p314 (cutV acc302 none (some (3 : Int))) := ow421.fz ne414
        have ow434 : Ow H0 (upd F355 p409 (.lst ((ssort ((cutL y_past323 none (some (2 : Int))) ++ ([t364] : List Int))).map V.int))) (upd (upd (upd H356 p369 (.lst [(V.int t364)])) p385 (.lst ((cutV (cutV acc302 none (some (3 : Int))) none (some (2 : Int))) ++ [(V.int t364)]))) p409 (.lst ((ssort ((cutL y_past323 none (some (2 : Int))) ++ ([t364] : List Int))).map V.int))) p341 (cutV (cutV acc302 none (some (3 : Int))) none (some (2 : Int))) := ow422.fz ne415
        have ow435 : Ow H0 (upd F355 p409 (.lst ((ssort ((cutL y_past323 none (some (2 : Int))) ++ ([t364] : List Int))).map V.int))) (upd (upd (upd H356 p369 (.lst [(V.int t364)])) p385 (.lst ((cutV (cutV acc302 none (some (3 : Int))) none (some (2 : Int))) ++ [(V.int t364)]))) p409 (.lst ((ssort ((cutL y_past323 none (some (2 : Int))) ++ ([t364] : List Int))).map V.int))) p369 [(V.int t364)] := ow423.fz ne416
        have ow436 : Ow H0 (upd F355 p409 (.lst ((ssort ((cutL y_past323 none (some (2 : Int))) ++ ([t364] : List Int))).map V.int))) (upd (upd (upd H356 p369 (.lst [(V.int t364)])) p385 (.lst ((cutV (cutV acc302 none (some (3 : Int))) none (some (2 : Int))) ++ [(V.int t364)]))) p409 (.lst ((ssort ((cutL y_past323 none (some (2 : Int))) ++ ([t364] : List Int))).map V.int))) p385 ((cutV (cutV acc302 none (some (3 : Int))) none (some (2 : Int))) ++ [(V.int t364)]) := ow424.fz ne417
        have hB437 : BagAt (upd F355 p409 (.lst ((ssort ((cutL y_past323 none (some (2 : Int))) ++ ([t364] : List Int))).map V.int))) (upd (upd (upd H356 p369 (.lst [(V.int t364)])) p385 (.lst ((cutV (cutV acc302 none (some (3 : Int))) none (some (2 : Int))) ++ [(V.int t364)]))) p409 (.lst ((ssort ((cutL y_past323 none (some (2 : Int))) ++ ([t364] : List Int))).map V.int))) B C b353 := hB425.fz nb418
        have r438 : R K (upd F355 p409 (.lst ((ssort ((cutL y_past323 none (some (2 : Int))) ++ ([t364] : List Int))).map V.int))) (.ref p409) y_past427 := R.mkl fzS hl411 (RpA.up hA429 sm430)
        obtain ⟨rfl, rfl⟩ := pjoin hj329
        exact ⟨(upd F355 p409 (.lst ((ssort ((cutL y_past323 none (some (2 : Int))) ++ ([t364] : List Int))).map V.int))), (V.ref p409), rfl, g431, (Same.trans g335.ff (Same.trans g357.ff sm430)), r438, hB437⟩
      · have hj329 := ifF hc hj329
        refine p_next ?_
        have sm439 := ow340.sf
        have g440 := g338.fz ow340
        have ow441 : Ow H0 (upd F333 p314 (.lst (cutV acc302 none (some (3 : Int))))) H334 D242 acc302 := ow339.fz ne317
        have hB442 : BagAt (upd F333 p314 (.lst (cutV acc302 none (some (3 : Int))))) H334 B C b331 := hB336.fz nb318
        have r443 : R K (upd F333 p314 (.lst (cutV acc302 none (some (3 : Int))))) (.ref p314) y_past323 := R.mkl fzS (Nat.le_trans (cutV_length _ _ _) hl313) (RpA.up (hA326.up g335.ff) sm439)
        obtain ⟨rfl, rfl⟩ := pjoin hj329
        exact ⟨(upd F333 p314 (.lst (cutV acc302 none (some (3 : Int))))), (V.ref p314), rfl, g440, (Same.trans g335.ff sm439), r443, hB442⟩
    intro σ444 H445 hMid
    obtain ⟨F446, v_y_past327452, rfl, g447, sm448, r_y_past327449, hB450⟩ := hMid
    refine p_seq ?_
    refine p_asg ?_
    refine ⟨(V.ref p_y_homes), rfl, p_y_homes, ws_y_homes, _, rfl, (.inl (nm_y_homes _ _ g447)), (RL.len (hA_y_homes.up (Same.trans sm80 (Same.trans sm173 (Same.trans sm223 (Same.trans sm306 sm448)))))), _, _, rfl, rfl, (V.ref p_y_homes), rfl, p_y_homes, ws_y_homes, _, rfl, (.inl (nm_y_homes _ _ g447)), (RL.len (hA_y_homes.up (Same.trans sm80 (Same.trans sm173 (Same.trans sm223 (Same.trans sm306 sm448)))))), _, _, rfl, rfl, _, _, rfl, (V.ref p_y_homes), rfl, p_y_homes, ws_y_homes, _, rfl, (.inl (nm_y_homes _ _ g447)), (RL.len (hA_y_homes.up (Same.trans sm80 (Same.trans sm173 (Same.trans sm223 (Same.trans sm306 sm448)))))), (by show 5 ≤ sizeLine; decide), fun p453 np454 => ?_⟩
    have nb455 := hB450.nb np454
    have g456 := g447.own (o := (.lst [V.non, (V.int ((((y_homes).length : Nat) : Int) - (1 : Int))), (V.int (if ((((y_homes).length : Nat) : Int) - (2 : Int)) > (0 : Int) then ((((y_homes).length : Nat) : Int) - (2 : Int)) else (0 : Int))), (V.int (((y_homes).length : Nat) : Int)), (V.int (40 : Int))])) np454
    have hB457 := hB450.own (o := (.lst [V.non, (V.int ((((y_homes).length : Nat) : Int) - (1 : Int))), (V.int (if ((((y_homes).length : Nat) : Int) - (2 : Int)) > (0 : Int) then ((((y_homes).length : Nat) : Int) - (2 : Int)) else (0 : Int))), (V.int (((y_homes).length : Nat) : Int)), (V.int (40 : Int))])) np454
    have ow458 : Ow H0 F446 (upd H445 p453 (.lst [V.non, (V.int ((((y_homes).length : Nat) : Int) - (1 : Int))), (V.int (if ((((y_homes).length : Nat) : Int) - (2 : Int)) > (0 : Int) then ((((y_homes).length : Nat) : Int) - (2 : Int)) else (0 : Int))), (V.int (((y_homes).length : Nat) : Int)), (V.int (40 : Int))])) p453 [V.non, (V.int ((((y_homes).length : Nat) : Int) - (1 : Int))), (V.int (if ((((y_homes).length : Nat) : Int) - (2 : Int)) > (0 : Int) then ((((y_homes).length : Nat) : Int) - (2 : Int)) else (0 : Int))), (V.int (((y_homes).length : Nat) : Int)), (V.int (40 : Int))] := Ow.new g447 np454
    have hA459 : RL K F446 [V.non, (V.int ((((y_homes).length : Nat) : Int) - (1 : Int))), (V.int (if ((((y_homes).length : Nat) : Int) - (2 : Int)) > (0 : Int) then ((((y_homes).length : Nat) : Int) - (2 : Int)) else (0 : Int))), (V.int (((y_homes).length : Nat) : Int)), (V.int (40 : Int))] ([(none : (Option Int)), (some ((((y_homes).length : Nat) : Int) - (1 : Int))), (some (if ((((y_homes).length : Nat) : Int) - (2 : Int)) > (0 : Int) then ((((y_homes).length : Nat) : Int) - (2 : Int)) else (0 : Int))), (some (((y_homes).length : Nat) : Int)), (some (40 : Int))] : List (Option Int)) := (RpA.cons Rp.non (RpA.cons (Rp.int ((((y_homes).length : Nat) : Int) - (1 : Int))) (RpA.cons (Rp.int (if ((((y_homes).length : Nat) : Int) - (2 : Int)) > (0 : Int) then ((((y_homes).length : Nat) : Int) - (2 : Int)) else (0 : Int))) (RpA.cons (Rp.int (((y_homes).length : Nat) : Int)) (RpA.cons (Rp.int (40 : Int)) RpA.nil)))))
    obtain ⟨r460, b461, hb462, hm⟩ := bnd2 hm
    refine ⟨(V.ref B), rfl, F446, B, C, b328, (5 : Int), r460, b461, rfl, g456.fh, hB457, hb462, fun F463 H464 g465 hB466 => ?_⟩
    have g468 := Gr.trans g456 g465
    have ow469 := ow458.gr g465 nb455
    obtain ⟨t470, hb471, hm⟩ := bnd hm
    obtain ⟨v472, ha473, r474⟩ := RL.at (hA459.up g465.ff) hb471
    refine ⟨p453, [V.non, (V.int ((((y_homes).length : Nat) : Int) - (1 : Int))), (V.int (if ((((y_homes).length : Nat) : Int) - (2 : Int)) > (0 : Int) then ((((y_homes).length : Nat) : Int) - (2 : Int)) else (0 : Int))), (V.int (((y_homes).length : Nat) : Int)), (V.int (40 : Int))], _, v472, rfl, rfl, ow469.sq, ha473, ?_⟩
    refine p_name ?_
    refine p_nx ?_
    refine p_ret ?_
    obtain ⟨p475, ws476, ev477, hS478, hl479, hA480⟩ := R.lst_v r238
    obtain ⟨p481, ws482, ev483, hS484, hl485, hA486⟩ := R.lst_v r_y_by180224
    have hA489 := (hA486.up (Same.trans sm306 (Same.trans sm448 g465.ff)))
    refine ⟨v_y_town, rfl, p228, _, _, v234, ev229, rfl, (SqT_mono g468.fh (SqT_mono (Same.trans sm80 (Same.trans sm173 (Same.trans sm223 (Same.trans sm306 (Same.trans sm448 g465.ff))))) hS230)), rfl, p475, ws476, _, (by rw [ev477]), (.inl (Same.seq g468.fh (Same.seq (Same.trans sm80 (Same.trans sm173 (Same.trans sm223 (Same.trans sm306 (Same.trans sm448 g465.ff))))) hS478))), (RL.len (hA480.up (Same.trans sm80 (Same.trans sm173 (Same.trans sm223 (Same.trans sm306 (Same.trans sm448 g465.ff))))))), _, _, rfl, rfl, v_y_by180227, rfl, (.inl ⟨p481, ws482, (by rw [ev483]), (Same.seq g468.fh (Same.seq (Same.trans sm306 (Same.trans sm448 g465.ff)) hS484)), fun q487 nq488 => ?_⟩)⟩
    have ne490 := ow469.ne nq488
    have nb491 := hB466.nb nq488
    have sm492 := same_new (o := (.tup ws482)) (g468.noneF nq488)
    have g493 := g468.frz (o := (.tup ws482)) nq488
    have ow494 := ow469.frz (o := (.tup ws482)) nq488
    have hB495 := hB466.frz (o := (.tup ws482)) nq488
    have r496 : R K (upd F463 q487 (.tup ws482)) (.ref q487) ((VT.mk y_by180) : (VT Int)) := R.mkvt fzT hl485 (hA489.up sm492)
    obtain ⟨p497, ws498, ev499, hS500, hl501, hA502⟩ := R.lst_v r_y_past327449
    have hA505 := (hA502.up (Same.trans g465.ff sm492))
    refine ⟨v_y_past327452, rfl, (.inl ⟨p497, ws498, (by rw [ev499]), (Same.seq g493.fh (Same.seq (Same.trans g465.ff sm492) hS500)), fun q503 nq504 => ?_⟩)⟩
    have ne506 := ow494.ne nq504
    have nb507 := hB495.nb nq504
    have sm508 := same_new (o := (.tup ws498)) (g493.noneF nq504)
    have g509 := g493.frz (o := (.tup ws498)) nq504
    have ow510 := ow494.frz (o := (.tup ws498)) nq504
    have hB511 := hB495.frz (o := (.tup ws498)) nq504
    have r512 : R K (upd (upd F463 q487 (.tup ws482)) q503 (.tup ws498)) (.ref q503) ((VT.mk y_past327) : (VT Int)) := R.mkvt fzT hl501 (hA505.up sm508)
    refine ⟨v472, rfl, (by show 4 ≤ sizeLine; decide), fun p513 np514 => ?_⟩
    have ne515 := ow510.ne np514
    have nb516 := hB511.nb np514
    have sm517 := same_new (o := (.tup [(V.int ((((y_town.e).length : Nat) : Int) - (1 : Int))), (V.ref q487), (V.ref q503), v472])) (g509.noneF np514)
    have g518 := g509.frz (o := (.tup [(V.int ((((y_town.e).length : Nat) : Int) - (1 : Int))), (V.ref q487), (V.ref q503), v472])) np514
    have ow519 := ow510.frz (o := (.tup [(V.int ((((y_town.e).length : Nat) : Int) - (1 : Int))), (V.ref q487), (V.ref q503), v472])) np514
    have hB520 := hB511.frz (o := (.tup [(V.int ((((y_town.e).length : Nat) : Int) - (1 : Int))), (V.ref q487), (V.ref q503), v472])) np514
    have r521 : R K (upd (upd (upd F463 q487 (.tup ws482)) q503 (.tup ws498)) p513 (.tup [(V.int ((((y_town.e).length : Nat) : Int) - (1 : Int))), (V.ref q487), (V.ref q503), v472])) (.ref p513) ((T4.mk ((((y_town.e).length : Nat) : Int) - (1 : Int)) (VT.mk y_by180) (VT.mk y_past327) t470) : (T4 Int (VT Int) (VT Int) (Option Int))) := R.mk4 fzT (Rp.int ((((y_town.e).length : Nat) : Int) - (1 : Int))) (r496.up (Same.trans sm508 sm517)) (r512.up sm517) (r474.up (Same.trans sm492 (Same.trans sm508 sm517)))
    obtain ⟨rfl, rfl⟩ := pjoin hm
    exact (hQ _ _ _ g518 hB520 r521)
end K22
namespace K22
open PySem PySem.Spec PyProof.Rows L2 TL G
theorem ok_l_bent_once {P : Program} {w : World} {K : PySem.W.Frag} {mg : Str → Option Value} {base : Heap} (T : Txt K mg) : FnOk P w K mg base CX0 3 T.a_l_bent_once T.d_l_bent_once ["_law_bag_here", "_law_town", "_law_homes"] (sp_l_bent_once K) := by
  have G_l_draw : FnOk P w K mg base CX0 2 T.a_l_draw T.d_l_draw ["_law_bag_here", "_law_many"] (sp_l_draw K) := ok_l_draw T
  have b_l_draw := T.F_l_draw.bindsN (ps := ["_law_bag_here", "_law_many"]) fun _ _ _ _ _ _ us hl => match us, hl with | [_, _], _ => rfl
  refine fd_ok T.F_l_bent_once sc_l_bent_once (fun vs H Q E h => ?_) (fun cdv A outer s H0 vs Q E hr h => ?_)
  · obtain ⟨_, _, _, _, _, _, _, _, _, _, _, rfl, _⟩ := h
    rfl
  · obtain ⟨F0, B, C, b, v_y_town, y_town, p_y_homes, ws_y_homes, y_homes, r, b', rfl, hS0, hB, r_y_town, hS_y_homes, hl_y_homes, hA_y_homes, nm_y_homes, hm, hQ⟩ := h
    refine ⟨_, (pss_cons (ps_set (i := 3) sc_l_bent_once.nd rfl (.inl rfl) (pe_call G_l_draw (hr.mono (by decide)) (by rfl) T.g_l_draw T.F_l_draw.kp b_l_draw .nil pass0 (pa_cons (pv 0) (pa_cons (pe_op op_add (pe_callB (call_lenLK (K := K)) (by rfl) T.n_len (by decide +kernel) (pa_cons (pv 2) pa_nil)) pe_int) pa_nil)))) (pss_cons (ps_set (i := 4) sc_l_bent_once.nd rfl (.inl rfl) (pe_ix (ix_listK (K := K)) (pe_lst (pa_cons (pe_call G_l_draw (hr.mono (by decide)) (by rfl) T.g_l_draw T.F_l_draw.kp b_l_draw .nil pass0 (pa_cons (pv 0) (pa_cons (pe_ix (ix_tupK (K := K)) (pv 1) pe_int (fun _ _ => rfl)) pa_nil))) (pa_cons (pe_call G_l_draw (hr.mono (by decide)) (by rfl) T.g_l_draw T.F_l_draw.kp b_l_draw .nil pass0 (pa_cons (pv 0) (pa_cons (pe_ix (ix_tupK (K := K)) (pv 1) pe_int (fun _ _ => rfl)) pa_nil))) (pa_cons (pe_un un_neg pe_int) (pa_cons (pe_ix (ix_tupK (K := K)) (pv 1) pe_int (fun _ _ => rfl)) (pa_cons (pe_op op_pow pe_int pe_int) (pa_cons (pe_op op_sub pe_int (pe_op op_pow pe_int pe_int)) pa_nil))))))) (pe_call G_l_draw (hr.mono (by decide)) (by rfl) T.g_l_draw T.F_l_draw.kp b_l_draw .nil pass0 (pa_cons (pv 0) (pa_cons pe_int pa_nil))) (fun _ _ => rfl))) (pss_cons (ps_set (i := 5) sc_l_bent_once.nd rfl (.inl rfl) (pe_call G_l_draw (hr.mono (by decide)) (by rfl) T.g_l_draw T.F_l_draw.kp b_l_draw .nil pass0 (pa_cons (pv 0) (pa_cons pe_int pa_nil)))) (pss_cons (ps_if (pt_cmpR op_eq (pv 5) pe_int (nomark _)) (pss_one (ps_ret (pe_op (op_catLK (K := K)) (pe_op (op_catLK (K := K)) (pe_slice (sl_listK (K := K)) (pv 2) po_none (po_some (pv 3))) (pe_lst (pa_cons (pv 4) pa_nil))) (pe_slice (sl_listK (K := K)) (pv 2) (po_some (pv 3)) po_none)))) pss_nil) (pss_cons (ps_if (pt_cmpR op_eq (pv 5) pe_int (nomark _)) (pss_one (ps_ret (pe_op (op_catLK (K := K)) (pe_slice (sl_listK (K := K)) (pv 2) po_none (po_some (pv 3))) (pe_slice (sl_listK (K := K)) (pv 2) (po_some (pe_op op_add (pv 3) pe_int)) po_none)))) pss_nil) (pss_cons (ps_if (pt_cmpR op_eq (pv 5) pe_int (nomark _)) (pss_one (ps_ret (pe_op (op_catLK (K := K)) (pe_slice (sl_listK (K := K)) (pv 2) po_none (po_some (pv 3))) (pe_slice (sl_listK (K := K)) (pv 2) (po_some (pe_callB (call_max2 rfl) (by rfl) T.n_max (by decide +kernel) (pa_cons pe_int (pa_cons (pe_op op_sub (pv 3) (pe_call G_l_draw (hr.mono (by decide)) (by rfl) T.g_l_draw T.F_l_draw.kp b_l_draw .nil pass0 (pa_cons (pv 0) (pa_cons pe_int pa_nil)))) pa_nil)))) po_none)))) pss_nil) (pss_cons (ps_if (pt_cmpR op_eq (pv 5) pe_int (nomark _)) (pss_one (ps_ret (pe_revLK (K := K) (pv 2)))) pss_nil) (pss_cons (ps_if (pt_cmpR op_eq (pv 5) pe_int (nomark _)) (pss_one (ps_ret (pe_op (op_catLK (K := K)) (pe_slice (sl_listK (K := K)) (pv 2) po_none (po_some (pv 3))) (pe_slice (sl_listK (K := K)) (pv 2) (po_some (pe_op op_add (pv 3) pe_int)) po_none)))) pss_nil) (pss_cons (ps_if (pt_cmpR op_eq (pv 5) pe_int (nomark _)) (pss_one (ps_ret (pe_slice (sl_listK (K := K)) (pv 2) po_none (po_some (pv 3))))) pss_nil) (pss_one (ps_ret (pe_op (op_catLK (K := K)) (pe_op (op_catLK (K := K)) (pe_slice (sl_listK (K := K)) (pv 2) po_none (po_some (pv 3))) (pe_op op_rep (pe_lst (pa_cons (pv 4) pa_nil)) (pe_callTy call_toI (by rfl) T.n_int (by decide +kernel) (pa_cons (pe_cmpR op_lt (pv 3) (pe_callB (call_lenLK (K := K)) (by rfl) T.n_len (by decide +kernel) (pa_cons (pv 2) pa_nil)) (nomark _)) pa_nil)))) (pe_slice (sl_listK (K := K)) (pv 2) (po_some (pe_op op_add (pv 3) pe_int)) po_none))))))))))))), ?_⟩
    have g0 : Gr (Bc B C) F0 H0 F0 H0 := Gr.refl hS0
    unfold m_l_bent_once at hm
    refine p_seq ?_
    refine p_asg ?_
    obtain ⟨r1, b2, hb3, hm⟩ := bnd2 hm
    refine ⟨(V.ref B), rfl, (V.ref p_y_homes), rfl, p_y_homes, ws_y_homes, _, rfl, (.inl (nm_y_homes _ _ g0)), (RL.len hA_y_homes), _, _, rfl, rfl, F0, B, C, b, ((((y_homes).length : Nat) : Int) + (1 : Int)), r1, b2, rfl, g0.fh, hB, hb3, fun F4 H5 g6 hB7 => ?_⟩
    have g9 := Gr.trans g0 g6
    refine p_name ?_
    refine p_nx ?_
    refine p_seq ?_
    refine p_asg ?_
    obtain ⟨p10, v13, v14, v15, v16, ev11, hS12, r17, r18, r19, r20⟩ := R.p4_v r_y_town
    obtain rfl := R.int_v r17
    obtain rfl := R.int_v r18
    obtain ⟨r21, b22, hb23, hm⟩ := bnd2 hm
    refine ⟨(V.ref B), rfl, v_y_town, rfl, p10, _, _, (V.int y_town.b), ev11, rfl, (SqT_mono g9.fh (SqT_mono g6.ff hS12)), rfl, F4, B, C, b2, y_town.b, r21, b22, rfl, g9.fh, hB7, hb23, fun F24 H25 g26 hB27 => ?_⟩
    have g29 := Gr.trans g9 g26
    obtain ⟨r30, b31, hb32, hm⟩ := bnd2 hm
    refine ⟨(V.ref B), rfl, v_y_town, rfl, p10, _, _, (V.int y_town.b), ev11, rfl, (SqT_mono g29.fh (SqT_mono (Same.trans g6.ff g26.ff) hS12)), rfl, F24, B, C, b22, y_town.b, r30, b31, rfl, g29.fh, hB27, hb32, fun F33 H34 g35 hB36 => ?_⟩
    have g38 := Gr.trans g29 g35
    refine ⟨_, rfl, v_y_town, rfl, p10, _, _, (V.int y_town.b), ev11, rfl, (SqT_mono g38.fh (SqT_mono (Same.trans g6.ff (Same.trans g26.ff g35.ff)) hS12)), rfl, _, _, rfl, rfl, ⟨by decide, by decide, by decide⟩, _, _, rfl, rfl, ⟨by decide, by decide, by decide⟩, _, _, rfl, rfl, (by show 6 ≤ sizeLine; decide), fun p39 np40 => ?_⟩
    have nb41 := hB36.nb np40
    have g42 := g38.own (o := (.lst [(V.int r21), (V.int r30), (V.int (-(1 : Int))), (V.int y_town.b), (V.int ((10 : Int) ^ (19 : Int).toNat)), (V.int ((0 : Int) - ((10 : Int) ^ (19 : Int).toNat)))])) np40
    have hB43 := hB36.own (o := (.lst [(V.int r21), (V.int r30), (V.int (-(1 : Int))), (V.int y_town.b), (V.int ((10 : Int) ^ (19 : Int).toNat)), (V.int ((0 : Int) - ((10 : Int) ^ (19 : Int).toNat)))])) np40
    have ow44 : Ow H0 F33 (upd H34 p39 (.lst [(V.int r21), (V.int r30), (V.int (-(1 : Int))), (V.int y_town.b), (V.int ((10 : Int) ^ (19 : Int).toNat)), (V.int ((0 : Int) - ((10 : Int) ^ (19 : Int).toNat)))])) p39 [(V.int r21), (V.int r30), (V.int (-(1 : Int))), (V.int y_town.b), (V.int ((10 : Int) ^ (19 : Int).toNat)), (V.int ((0 : Int) - ((10 : Int) ^ (19 : Int).toNat)))] := Ow.new g38 np40
    have hA45 : RL K F33 [(V.int r21), (V.int r30), (V.int (-(1 : Int))), (V.int y_town.b), (V.int ((10 : Int) ^ (19 : Int).toNat)), (V.int ((0 : Int) - ((10 : Int) ^ (19 : Int).toNat)))] ([r21, r30, (-(1 : Int)), y_town.b, ((10 : Int) ^ (19 : Int).toNat), ((0 : Int) - ((10 : Int) ^ (19 : Int).toNat))] : List Int) := (RpA.cons (Rp.int r21) (RpA.cons (Rp.int r30) (RpA.cons (Rp.int (-(1 : Int))) (RpA.cons (Rp.int y_town.b) (RpA.cons (Rp.int ((10 : Int) ^ (19 : Int).toNat)) (RpA.cons (Rp.int ((0 : Int) - ((10 : Int) ^ (19 : Int).toNat))) RpA.nil))))))
    obtain ⟨r46, b47, hb48, hm⟩ := bnd2 hm
    refine ⟨(V.ref B), rfl, F33, B, C, b31, (6 : Int), r46, b47, rfl, g42.fh, hB43, hb48, fun F49 H50 g51 hB52 => ?_⟩
    have g54 := Gr.trans g42 g51
    have ow55 := ow44.gr g51 nb41
    obtain ⟨t56, hb57, hm⟩ := bnd hm
    obtain ⟨v58, ha59, r60⟩ := RL.at (hA45.up g51.ff) hb57
    obtain rfl := R.int_v r60
    refine ⟨p39, [(V.int r21), (V.int r30), (V.int (-(1 : Int))), (V.int y_town.b), (V.int ((10 : Int) ^ (19 : Int).toNat)), (V.int ((0 : Int) - ((10 : Int) ^ (19 : Int).toNat)))], _, (V.int t56), rfl, rfl, ow55.sq, ha59, ?_⟩
    refine p_name ?_
    refine p_nx ?_
    refine p_seq ?_
    refine p_asg ?_
    obtain ⟨r61, b62, hb63, hm⟩ := bnd2 hm
    refine ⟨(V.ref B), rfl, F49, B, C, b47, (8 : Int), r61, b62, rfl, g54.fh, hB52, hb63, fun F64 H65 g66 hB67 => ?_⟩
    have g69 := Gr.trans g54 g66
    have ow70 := ow55.gr g66 nb41
    refine p_name ?_
    refine p_nx ?_
    refine p_seq ?_
    refine p_if ?_
    refine ⟨(V.int r61), rfl, rfl, _, rfl, (iteB (fun hc => ?_) (fun hc => ?_))⟩
    · have hm := ifT hc hm
      refine p_ret ?_
      refine ⟨(V.ref p_y_homes), rfl, (V.int r1), rfl, _, rfl, p_y_homes, ws_y_homes, rfl, (nm_y_homes _ _ g69), fun p71 np72 => ?_⟩
      have hA73 : RL K F64 (cutV ws_y_homes none (some r1)) (cutL y_homes none (some r1)) := RL.cut none (some r1) (hA_y_homes.up (Same.trans g6.ff (Same.trans g26.ff (Same.trans g35.ff (Same.trans g51.ff g66.ff)))))
      have ne74 := ow70.ne np72
      have nb75 := hB67.nb np72
      have g76 := g69.own (o := (.lst (cutV ws_y_homes none (some r1)))) np72
      have ow77 := ow70.own (o := (.lst (cutV ws_y_homes none (some r1)))) np72
      have hB78 := hB67.own (o := (.lst (cutV ws_y_homes none (some r1)))) np72
      have ow79 : Ow H0 F64 (upd H65 p71 (.lst (cutV ws_y_homes none (some r1)))) p71 (cutV ws_y_homes none (some r1)) := Ow.new g69 np72
      refine ⟨(V.int t56), rfl, (by show 1 ≤ sizeLine; decide), fun p80 np81 => ?_⟩
      have ne82 := ow77.ne np81
      have ne83 := ow79.ne np81
      have nb84 := hB78.nb np81
      have g85 := g76.own (o := (.lst [(V.int t56)])) np81
      have ow86 := ow77.own (o := (.lst [(V.int t56)])) np81
      have ow87 := ow79.own (o := (.lst [(V.int t56)])) np81
      have hB88 := hB78.own (o := (.lst [(V.int t56)])) np81
      have ow89 : Ow H0 F64 (upd (upd H65 p71 (.lst (cutV ws_y_homes none (some r1)))) p80 (.lst [(V.int t56)])) p80 [(V.int t56)] := Ow.new g76 np81
      have hA90 : RL K F64 [(V.int t56)] ([t56] : List Int) := (RpA.cons (Rp.int t56) RpA.nil)
      obtain ⟨t91, hb92, hm⟩ := bnd hm
      obtain ⟨hk93, rfl⟩ := conL_ok hb92
      have hz96 : ((cutV ws_y_homes none (some r1)) ++ [(V.int t56)]).length ≤ sizeLine := by rw [List.length_append, RL.len hA73, RL.len hA90]; exact hk93
      refine ⟨p71, p80, (cutV ws_y_homes none (some r1)), [(V.int t56)], rfl, rfl, ow87.sq, ow89.sq, (by rw [RL.len hA73, RL.len hA90]; exact hk93), fun p94 np95 => ?_⟩
      have hA97 := RL.app hA73 hA90
      have ne99 := ow86.ne np95
      have ne100 := ow87.ne np95
      have ne101 := ow89.ne np95
      have nb102 := hB88.nb np95
      have g103 := g85.own (o := (.lst ((cutV ws_y_homes none (some r1)) ++ [(V.int t56)]))) np95
      have ow104 := ow86.own (o := (.lst ((cutV ws_y_homes none (some r1)) ++ [(V.int t56)]))) np95
      have ow105 := ow87.own (o := (.lst ((cutV ws_y_homes none (some r1)) ++ [(V.int t56)]))) np95
      have ow106 := ow89.own (o := (.lst ((cutV ws_y_homes none (some r1)) ++ [(V.int t56)]))) np95
      have hB107 := hB88.own (o := (.lst ((cutV ws_y_homes none (some r1)) ++ [(V.int t56)]))) np95
      have ow108 : Ow H0 F64 (upd (upd (upd H65 p71 (.lst (cutV ws_y_homes none (some r1)))) p80 (.lst [(V.int t56)])) p94 (.lst ((cutV ws_y_homes none (some r1)) ++ [(V.int t56)]))) p94 ((cutV ws_y_homes none (some r1)) ++ [(V.int t56)]) := Ow.new g85 np95
      refine ⟨(V.ref p_y_homes), rfl, (V.int r1), rfl, _, rfl, p_y_homes, ws_y_homes, rfl, (nm_y_homes _ _ g103), fun p109 np110 => ?_⟩
      have hA111 : RL K F64 (cutV ws_y_homes (some r1) none) (cutL y_homes (some r1) none) := RL.cut (some r1) none (hA_y_homes.up (Same.trans g6.ff (Same.trans g26.ff (Same.trans g35.ff (Same.trans g51.ff g66.ff)))))
      have ne112 := ow104.ne np110
      have ne113 := ow105.ne np110
      have ne114 := ow106.ne np110
      have ne115 := ow108.ne np110
      have nb116 := hB107.nb np110
      have g117 := g103.own (o := (.lst (cutV ws_y_homes (some r1) none))) np110
      have ow118 := ow104.own (o := (.lst (cutV ws_y_homes (some r1) none))) np110
      have ow119 := ow105.own (o := (.lst (cutV ws_y_homes (some r1) none))) np110
      have ow120 := ow106.own (o := (.lst (cutV ws_y_homes (some r1) none))) np110
      have ow121 := ow108.own (o := (.lst (cutV ws_y_homes (some r1) none))) np110
      have hB122 := hB107.own (o := (.lst (cutV ws_y_homes (some r1) none))) np110
      have ow123 : Ow H0 F64 (upd (upd (upd (upd H65 p71 (.lst (cutV ws_y_homes none (some r1)))) p80 (.lst [(V.int t56)])) p94 (.lst ((cutV ws_y_homes none (some r1)) ++ [(V.int t56)]))) p109 (.lst (cutV ws_y_homes (some r1) none))) p109 (cutV ws_y_homes (some r1) none) := Ow.new g103 np110
      obtain ⟨t124, hb125, hm⟩ := bnd hm
      obtain ⟨hk126, rfl⟩ := conL_ok hb125
      have hz129 : (((cutV ws_y_homes none (some r1)) ++ [(V.int t56)]) ++ (cutV ws_y_homes (some r1) none)).length ≤ sizeLine := by rw [List.length_append, RL.len hA97, RL.len hA111]; exact hk126
      refine ⟨p94, p109, ((cutV ws_y_homes none (some r1)) ++ [(V.int t56)]), (cutV ws_y_homes (some r1) none), rfl, rfl, ow121.sq, ow123.sq, (by rw [RL.len hA97, RL.len hA111]; exact hk126), fun p127 np128 => ?_⟩
      have hA130 := RL.app hA97 hA111
      have ne132 := ow118.ne np128
      have ne133 := ow119.ne np128
      have ne134 := ow120.ne np128
      have ne135 := ow121.ne np128
      have ne136 := ow123.ne np128
      have nb137 := hB122.nb np128
      have g138 := g117.own (o := (.lst (((cutV ws_y_homes none (some r1)) ++ [(V.int t56)]) ++ (cutV ws_y_homes (some r1) none)))) np128
      have ow139 := ow118.own (o := (.lst (((cutV ws_y_homes none (some r1)) ++ [(V.int t56)]) ++ (cutV ws_y_homes (some r1) none)))) np128
      have ow140 := ow119.own (o := (.lst (((cutV ws_y_homes none (some r1)) ++ [(V.int t56)]) ++ (cutV ws_y_homes (some r1) none)))) np128
      have ow141 := ow120.own (o := (.lst (((cutV ws_y_homes none (some r1)) ++ [(V.int t56)]) ++ (cutV ws_y_homes (some r1) none)))) np128
      have ow142 := ow121.own (o := (.lst (((cutV ws_y_homes none (some r1)) ++ [(V.int t56)]) ++ (cutV ws_y_homes (some r1) none)))) np128
      have ow143 := ow123.own (o := (.lst (((cutV ws_y_homes none (some r1)) ++ [(V.int t56)]) ++ (cutV ws_y_homes (some r1) none)))) np128
      have hB144 := hB122.own (o := (.lst (((cutV ws_y_homes none (some r1)) ++ [(V.int t56)]) ++ (cutV ws_y_homes (some r1) none)))) np128
      have ow145 : Ow H0 F64 (upd (upd (upd (upd (upd H65 p71 (.lst (cutV ws_y_homes none (some r1)))) p80 (.lst [(V.int t56)])) p94 (.lst ((cutV ws_y_homes none (some r1)) ++ [(V.int t56)]))) p109 (.lst (cutV ws_y_homes (some r1) none))) p127 (.lst (((cutV ws_y_homes none (some r1)) ++ [(V.int t56)]) ++ (cutV ws_y_homes (some r1) none)))) p127 (((cutV ws_y_homes none (some r1)) ++ [(V.int t56)]) ++ (cutV ws_y_homes (some r1) none)) := Ow.new g117 np128
      obtain ⟨rfl, rfl⟩ := pjoin hm
      exact (hQ _ _ _ _ g138 hB144 ow145.n0 ow145.h ow145.nF hz129 hA130)
    · have hm := ifF hc hm
      refine p_next ?_
      refine p_nx ?_
      refine p_seq ?_
      refine p_if ?_
      refine ⟨(V.int r61), rfl, rfl, _, rfl, (iteB (fun hc => ?_) (fun hc => ?_))⟩
      · have hm := ifT hc hm
        refine p_ret ?_
        refine ⟨(V.ref p_y_homes), rfl, (V.int r1), rfl, _, rfl, p_y_homes, ws_y_homes, rfl, (nm_y_homes _ _ g69), fun p146 np147 => ?_⟩
        have hA148 : RL K F64 (cutV ws_y_homes none (some r1)) (cutL y_homes none (some r1)) := RL.cut none (some r1) (hA_y_homes.up (Same.trans g6.ff (Same.trans g26.ff (Same.trans g35.ff (Same.trans g51.ff g66.ff)))))
        have ne149 := ow70.ne np147
        have nb150 := hB67.nb np147
        have g151 := g69.own (o := (.lst (cutV ws_y_homes none (some r1)))) np147
        have ow152 := ow70.own (o := (.lst (cutV ws_y_homes none (some r1)))) np147
        have hB153 := hB67.own (o := (.lst (cutV ws_y_homes none (some r1)))) np147
        have ow154 : Ow H0 F64 (upd H65 p146 (.lst (cutV ws_y_homes none (some r1)))) p146 (cutV ws_y_homes none (some r1)) := Ow.new g69 np147
        refine ⟨(V.ref p_y_homes), rfl, (V.int r1), rfl, _, _, rfl, rfl, _, rfl, p_y_homes, ws_y_homes, rfl, (nm_y_homes _ _ g151), fun p155 np156 => ?_⟩
        have hA157 : RL K F64 (cutV ws_y_homes (some (r1 + (1 : Int))) none) (cutL y_homes (some (r1 + (1 : Int))) none) := RL.cut (some (r1 + (1 : Int))) none (hA_y_homes.up (Same.trans g6.ff (Same.trans g26.ff (Same.trans g35.ff (Same.trans g51.ff g66.ff)))))
        have ne158 := ow152.ne np156
        have ne159 := ow154.ne np156
        have nb160 := hB153.nb np156
        have g161 := g151.own (o := (.lst (cutV ws_y_homes (some (r1 + (1 : Int))) none))) np156
        have ow162 := ow152.own (o := (.lst (cutV ws_y_homes (some (r1 + (1 : Int))) none))) np156
        have ow163 := ow154.own (o := (.lst (cutV ws_y_homes (some (r1 + (1 : Int))) none))) np156
        have hB164 := hB153.own (o := (.lst (cutV ws_y_homes (some (r1 + (1 : Int))) none))) np156
        have ow165 : Ow H0 F64 (upd (upd H65 p146 (.lst (cutV ws_y_homes none (some r1)))) p155 (.lst (cutV ws_y_homes (some (r1 + (1 : Int))) none))) p155 (cutV ws_y_homes (some (r1 + (1 : Int))) none) := Ow.new g151 np156
        obtain ⟨t166, hb167, hm⟩ := bnd hm
        obtain ⟨hk168, rfl⟩ := conL_ok hb167
        have hz171 : ((cutV ws_y_homes none (some r1)) ++ (cutV ws_y_homes (some (r1 + (1 : Int))) none)).length ≤ sizeLine := by rw [List.length_append, RL.len hA148, RL.len hA157]; exact hk168
        refine ⟨p146, p155, (cutV ws_y_homes none (some r1)), (cutV ws_y_homes (some (r1 + (1 : Int))) none), rfl, rfl, ow163.sq, ow165.sq, (by rw [RL.len hA148, RL.len hA157]; exact hk168), fun p169 np170 => ?_⟩
        have hA172 := RL.app hA148 hA157
        have ne174 := ow162.ne np170
        have ne175 := ow163.ne np170
        have ne176 := ow165.ne np170
        have nb177 := hB164.nb np170
        have g178 := g161.own (o := (.lst ((cutV ws_y_homes none (some r1)) ++ (cutV ws_y_homes (some (r1 + (1 : Int))) none)))) np170
        have ow179 := ow162.own (o := (.lst ((cutV ws_y_homes none (some r1)) ++ (cutV ws_y_homes (some (r1 + (1 : Int))) none)))) np170
        have ow180 := ow163.own (o := (.lst ((cutV ws_y_homes none (some r1)) ++ (cutV ws_y_homes (some (r1 + (1 : Int))) none)))) np170
        have ow181 := ow165.own (o := (.lst ((cutV ws_y_homes none (some r1)) ++ (cutV ws_y_homes (some (r1 + (1 : Int))) none)))) np170
        have hB182 := hB164.own (o := (.lst ((cutV ws_y_homes none (some r1)) ++ (cutV ws_y_homes (some (r1 + (1 : Int))) none)))) np170
        have ow183 : Ow H0 F64 (upd (upd (upd H65 p146 (.lst (cutV ws_y_homes none (some r1)))) p155 (.lst (cutV ws_y_homes (some (r1 + (1 : Int))) none))) p169 (.lst ((cutV ws_y_homes none (some r1)) ++ (cutV ws_y_homes (some (r1 + (1 : Int))) none)))) p169 ((cutV ws_y_homes none (some r1)) ++ (cutV ws_y_homes (some (r1 + (1 : Int))) none)) := Ow.new g161 np170
        obtain ⟨rfl, rfl⟩ := pjoin hm
        exact (hQ _ _ _ _ g178 hB182 ow183.n0 ow183.h ow183.nF hz171 hA172)
      · have hm := ifF hc hm
        refine p_next ?_
        refine p_nx ?_
        refine p_seq ?_
        refine p_if ?_
        refine ⟨(V.int r61), rfl, rfl, _, rfl, (iteB (fun hc => ?_) (fun hc => ?_))⟩
        · have hm := ifT hc hm
          refine p_ret ?_
          refine ⟨(V.ref p_y_homes), rfl, (V.int r1), rfl, _, rfl, p_y_homes, ws_y_homes, rfl, (nm_y_homes _ _ g69), fun p184 np185 => ?_⟩
          have hA186 : RL K F64 (cutV ws_y_homes none (some r1)) (cutL y_homes none (some r1)) := RL.cut none (some r1) (hA_y_homes.up (Same.trans g6.ff (Same.trans g26.ff (Same.trans g35.ff (Same.trans g51.ff g66.ff)))))
          have ne187 := ow70.ne np185
          have nb188 := hB67.nb np185
          have g189 := g69.own (o := (.lst (cutV ws_y_homes none (some r1)))) np185
          have ow190 := ow70.own (o := (.lst (cutV ws_y_homes none (some r1)))) np185
          have hB191 := hB67.own (o := (.lst (cutV ws_y_homes none (some r1)))) np185
          have ow192 : Ow H0 F64 (upd H65 p184 (.lst (cutV ws_y_homes none (some r1)))) p184 (cutV ws_y_homes none (some r1)) := Ow.new g69 np185
          obtain ⟨r193, b194, hb195, hm⟩ := bnd2 hm
          refine ⟨(V.ref p_y_homes), rfl, (V.int r1), rfl, (V.ref B), rfl, F64, B, C, b62, (5 : Int), r193, b194, rfl, g189.fh, hB191, hb195, fun F196 H197 g198 hB199 => ?_⟩
          have g201 := Gr.trans g189 g198
          have ow202 := ow190.gr g198 nb41
          have ow203 := ow192.gr g198 nb188
          refine ⟨_, _, rfl, rfl, _, _, rfl, _, rfl, p_y_homes, ws_y_homes, rfl, (nm_y_homes _ _ g201), fun p204 np205 => ?_⟩
          have hA206 : RL K F196 (cutV ws_y_homes (some (if (r1 - r193) > (0 : Int) then (r1 - r193) else (0 : Int))) none) (cutL y_homes (some (if (r1 - r193) > (0 : Int) then (r1 - r193) else (0 : Int))) none) := RL.cut (some (if (r1 - r193) > (0 : Int) then (r1 - r193) else (0 : Int))) none (hA_y_homes.up (Same.trans g6.ff (Same.trans g26.ff (Same.trans g35.ff (Same.trans g51.ff (Same.trans g66.ff g198.ff))))))
          have ne207 := ow202.ne np205
          have ne208 := ow203.ne np205
          have nb209 := hB199.nb np205
          have g210 := g201.own (o := (.lst (cutV ws_y_homes (some (if (r1 - r193) > (0 : Int) then (r1 - r193) else (0 : Int))) none))) np205
          have ow211 := ow202.own (o := (.lst (cutV ws_y_homes (some (if (r1 - r193) > (0 : Int) then (r1 - r193) else (0 : Int))) none))) np205
          have ow212 := ow203.own (o := (.lst (cutV ws_y_homes (some (if (r1 - r193) > (0 : Int) then (r1 - r193) else (0 : Int))) none))) np205
          have hB213 := hB199.own (o := (.lst (cutV ws_y_homes (some (if (r1 - r193) > (0 : Int) then (r1 - r193) else (0 : Int))) none))) np205
          have ow214 : Ow H0 F196 (upd H197 p204 (.lst (cutV ws_y_homes (some (if (r1 - r193) > (0 : Int) then (r1 - r193) else (0 : Int))) none))) p204 (cutV ws_y_homes (some (if (r1 - r193) > (0 : Int) then (r1 - r193) else (0 : Int))) none) := Ow.new g201 np205
          obtain ⟨t215, hb216, hm⟩ := bnd hm
          obtain ⟨hk217, rfl⟩ := conL_ok hb216
          have hz220 : ((cutV ws_y_homes none (some r1)) ++ (cutV ws_y_homes (some (if (r1 - r193) > (0 : Int) then (r1 - r193) else (0 : Int))) none)).length ≤ sizeLine := by rw [List.length_append, RL.len (hA186.up g198.ff), RL.len hA206]; exact hk217
          refine ⟨p184, p204, (cutV ws_y_homes none (some r1)), (cutV ws_y_homes (some (if (r1 - r193) > (0 : Int) then (r1 - r193) else (0 : Int))) none), rfl, rfl, ow212.sq, ow214.sq, (by rw [RL.len (hA186.up g198.ff), RL.len hA206]; exact hk217), fun p218 np219 => ?_⟩
          have hA221 := RL.app (hA186.up g198.ff) hA206
          have ne223 := ow211.ne np219
          have ne224 := ow212.ne np219
          have ne225 := ow214.ne np219
          have nb226 := hB213.nb np219
          have g227 := g210.own (o := (.lst ((cutV ws_y_homes none (some r1)) ++ (cutV ws_y_homes (some (if (r1 - r193) > (0 : Int) then (r1 - r193) else (0 : Int))) none)))) np219
          have ow228 := ow211.own (o := (.lst ((cutV ws_y_homes none (some r1)) ++ (cutV ws_y_homes (some (if (r1 - r193) > (0 : Int) then (r1 - r193) else (0 : Int))) none)))) np219
          have ow229 := ow212.own (o := (.lst ((cutV ws_y_homes none (some r1)) ++ (cutV ws_y_homes (some (if (r1 - r193) > (0 : Int) then (r1 - r193) else (0 : Int))) none)))) np219
          have ow230 := ow214.own (o := (.lst ((cutV ws_y_homes none (some r1)) ++ (cutV ws_y_homes (some (if (r1 - r193) > (0 : Int) then (r1 - r193) else (0 : Int))) none)))) np219
          have hB231 := hB213.own (o := (.lst ((cutV ws_y_homes none (some r1)) ++ (cutV ws_y_homes (some (if (r1 - r193) > (0 : Int) then (r1 - r193) else (0 : Int))) none)))) np219
          have ow232 : Ow H0 F196 (upd (upd H197 p204 (.lst (cutV ws_y_homes (some (if (r1 - r193) > (0 : Int) then (r1 - r193) else (0 : Int))) none))) p218 (.lst ((cutV ws_y_homes none (some r1)) ++ (cutV ws_y_homes (some (if (r1 - r193) > (0 : Int) then (r1 - r193) else (0 : Int))) none)))) p218 ((cutV ws_y_homes none (some r1)) ++ (cutV ws_y_homes (some (if (r1 - r193) > (0 : Int) then (r1 - r193) else (0 : Int))) none)) := Ow.new g210 np219
          obtain ⟨rfl, rfl⟩ := pjoin hm
          exact (hQ _ _ _ _ g227 hB231 ow232.n0 ow232.h ow232.nF hz220 hA221)
        · have hm := ifF hc hm
          refine p_next ?_
          refine p_nx ?_
          refine p_seq ?_
          refine p_if ?_
          refine ⟨(V.int r61), rfl, rfl, _, rfl, (iteB (fun hc => ?_) (fun hc => ?_))⟩
          · have hm := ifT hc hm
            refine p_ret ?_
            refine ⟨(V.ref p_y_homes), rfl, p_y_homes, ws_y_homes, rfl, (nm_y_homes _ _ g69), fun p233 np234 => ?_⟩
            have hA235 := RL.rev (hA_y_homes.up (Same.trans g6.ff (Same.trans g26.ff (Same.trans g35.ff (Same.trans g51.ff g66.ff)))))
            have ne236 := ow70.ne np234
            have nb237 := hB67.nb np234
            have g238 := g69.own (o := (.lst (ws_y_homes.reverse))) np234
            have ow239 := ow70.own (o := (.lst (ws_y_homes.reverse))) np234
            have hB240 := hB67.own (o := (.lst (ws_y_homes.reverse))) np234
            have ow241 : Ow H0 F64 (upd H65 p233 (.lst (ws_y_homes.reverse))) p233 (ws_y_homes.reverse) := Ow.new g69 np234
            obtain ⟨rfl, rfl⟩ := pjoin hm
            exact (hQ _ _ _ _ g238 hB240 ow241.n0 ow241.h ow241.nF (by rw [List.length_reverse]; exact hl_y_homes) hA235)
          · have hm := ifF hc hm
            refine p_next ?_
            refine p_nx ?_
            refine p_seq ?_
            refine p_if ?_
            refine ⟨(V.int r61), rfl, rfl, _, rfl, (iteB (fun hc => ?_) (fun hc => ?_))⟩
            · have hm := ifT hc hm
              refine p_ret ?_
              refine ⟨(V.ref p_y_homes), rfl, (V.int r1), rfl, _, rfl, p_y_homes, ws_y_homes, rfl, (nm_y_homes _ _ g69), fun p242 np243 => ?_⟩
              have hA244 : RL K F64 (cutV ws_y_homes none (some r1)) (cutL y_homes none (some r1)) := RL.cut none (some r1) (hA_y_homes.up (Same.trans g6.ff (Same.trans g26.ff (Same.trans g35.ff (Same.trans g51.ff g66.ff)))))
              have ne245 := ow70.ne np243
              have nb246 := hB67.nb np243
              have g247 := g69.own (o := (.lst (cutV ws_y_homes none (some r1)))) np243
              have ow248 := ow70.own (o := (.lst (cutV ws_y_homes none (some r1)))) np243
              have hB249 := hB67.own (o := (.lst (cutV ws_y_homes none (some r1)))) np243
              have ow250 : Ow H0 F64 (upd H65 p242 (.lst (cutV ws_y_homes none (some r1)))) p242 (cutV ws_y_homes none (some r1)) := Ow.new g69 np243
              refine ⟨(V.ref p_y_homes), rfl, (V.int r1), rfl, _, _, rfl, rfl, _, rfl, p_y_homes, ws_y_homes, rfl, (nm_y_homes _ _ g247), fun p251 np252 => ?_⟩
              have hA253 : RL K F64 (cutV ws_y_homes (some (r1 + (2 : Int))) none) (cutL y_homes (some (r1 + (2 : Int))) none) := RL.cut (some (r1 + (2 : Int))) none (hA_y_homes.up (Same.trans g6.ff (Same.trans g26.ff (Same.trans g35.ff (Same.trans g51.ff g66.ff)))))
              have ne254 := ow248.ne np252
              have ne255 := ow250.ne np252
              have nb256 := hB249.nb np252
              have g257 := g247.own (o := (.lst (cutV ws_y_homes (some (r1 + (2 : Int))) none))) np252
              have ow258 := ow248.own (o := (.lst (cutV ws_y_homes (some (r1 + (2 : Int))) none))) np252
              have ow259 := ow250.own (o := (.lst (cutV ws_y_homes (some (r1 + (2 : Int))) none))) np252
              have hB260 := hB249.own (o := (.lst (cutV ws_y_homes (some (r1 + (2 : Int))) none))) np252
              have ow261 : Ow H0 F64 (upd (upd H65 p242 (.lst (cutV ws_y_homes none (some r1)))) p251 (.lst (cutV ws_y_homes (some (r1 + (2 : Int))) none))) p251 (cutV ws_y_homes (some (r1 + (2 : Int))) none) := Ow.new g247 np252
              obtain ⟨t262, hb263, hm⟩ := bnd hm
              obtain ⟨hk264, rfl⟩ := conL_ok hb263
              have hz267 : ((cutV ws_y_homes none (some r1)) ++ (cutV ws_y_homes (some (r1 + (2 : Int))) none)).length ≤ sizeLine := by rw [List.length_append, RL.len hA244, RL.len hA253]; exact hk264
              refine ⟨p242, p251, (cutV ws_y_homes none (some r1)), (cutV ws_y_homes (some (r1 + (2 : Int))) none), rfl, rfl, ow259.sq, ow261.sq, (by rw [RL.len hA244, RL.len hA253]; exact hk264), fun p265 np266 => ?_⟩
              have hA268 := RL.app hA244 hA253
              have ne270 := ow258.ne np266
              have ne271 := ow259.ne np266
              have ne272 := ow261.ne np266
              have nb273 := hB260.nb np266
              have g274 := g257.own (o := (.lst ((cutV ws_y_homes none (some r1)) ++ (cutV ws_y_homes (some (r1 + (2 : Int))) none)))) np266
              have ow275 := ow258.own (o := (.lst ((cutV ws_y_homes none (some r1)) ++ (cutV ws_y_homes (some (r1 + (2 : Int))) none)))) np266
              have ow276 := ow259.own (o := (.lst ((cutV ws_y_homes none (some r1)) ++ (cutV ws_y_homes (some (r1 + (2 : Int))) none)))) np266
              have ow277 := ow261.own (o := (.lst ((cutV ws_y_homes none (some r1)) ++ (cutV ws_y_homes (some (r1 + (2 : Int))) none)))) np266
              have hB278 := hB260.own (o := (.lst ((cutV ws_y_homes none (some r1)) ++ (cutV ws_y_homes (some (r1 + (2 : Int))) none)))) np266
              have ow279 : Ow H0 F64 (upd (upd (upd H65 p242 (.lst (cutV ws_y_homes none (some r1)))) p251 (.lst (cutV ws_y_homes (some (r1 + (2 : Int))) none))) p265 (.lst ((cutV ws_y_homes none (some r1)) ++ (cutV ws_y_homes (some (r1 + (2 : Int))) none)))) p265 ((cutV ws_y_homes none (some r1)) ++ (cutV ws_y_homes (some (r1 + (2 : Int))) none)) := Ow.new g257 np266
              obtain ⟨rfl, rfl⟩ := pjoin hm
              exact (hQ _ _ _ _ g274 hB278 ow279.n0 ow279.h ow279.nF hz267 hA268)
            · have hm := ifF hc hm
              refine p_next ?_
              refine p_nx ?_
              refine p_seq ?_
              refine p_if ?_
              refine ⟨(V.int r61), rfl, rfl, _, rfl, (iteB (fun hc => ?_) (fun hc => ?_))⟩
              · have hm := ifT hc hm
                refine p_ret ?_
                refine ⟨(V.ref p_y_homes), rfl, (V.int r1), rfl, _, rfl, p_y_homes, ws_y_homes, rfl, (nm_y_homes _ _ g69), fun p280 np281 => ?_⟩
                have hA282 : RL K F64 (cutV ws_y_homes none (some r1)) (cutL y_homes none (some r1)) := RL.cut none (some r1) (hA_y_homes.up (Same.trans g6.ff (Same.trans g26.ff (Same.trans g35.ff (Same.trans g51.ff g66.ff)))))
                have ne283 := ow70.ne np281
                have nb284 := hB67.nb np281
                have g285 := g69.own (o := (.lst (cutV ws_y_homes none (some r1)))) np281
                have ow286 := ow70.own (o := (.lst (cutV ws_y_homes none (some r1)))) np281
                have hB287 := hB67.own (o := (.lst (cutV ws_y_homes none (some r1)))) np281
                have ow288 : Ow H0 F64 (upd H65 p280 (.lst (cutV ws_y_homes none (some r1)))) p280 (cutV ws_y_homes none (some r1)) := Ow.new g69 np281
                obtain ⟨rfl, rfl⟩ := pjoin hm
                exact (hQ _ _ _ _ g285 hB287 ow288.n0 ow288.h ow288.nF (Nat.le_trans (cutV_length _ _ _) hl_y_homes) hA282)
              · have hm := ifF hc hm
                refine p_next ?_
                refine p_nx ?_
                refine p_ret ?_
                refine ⟨(V.ref p_y_homes), rfl, (V.int r1), rfl, _, rfl, p_y_homes, ws_y_homes, rfl, (nm_y_homes _ _ g69), fun p289 np290 => ?_⟩
                have hA291 : RL K F64 (cutV ws_y_homes none (some r1)) (cutL y_homes none (some r1)) := RL.cut none (some r1) (hA_y_homes.up (Same.trans g6.ff (Same.trans g26.ff (Same.trans g35.ff (Same.trans g51.ff g66.ff)))))
                have ne292 := ow70.ne np290
                have nb293 := hB67.nb np290
                have g294 := g69.own (o := (.lst (cutV ws_y_homes none (some r1)))) np290
                have ow295 := ow70.own (o := (.lst (cutV ws_y_homes none (some r1)))) np290
                have hB296 := hB67.own (o := (.lst (cutV ws_y_homes none (some r1)))) np290
                have ow297 : Ow H0 F64 (upd H65 p289 (.lst (cutV ws_y_homes none (some r1)))) p289 (cutV ws_y_homes none (some r1)) := Ow.new g69 np290
                refine ⟨(V.int t56), rfl, (by show 1 ≤ sizeLine; decide), fun p298 np299 => ?_⟩
                have ne300 := ow295.ne np299
                have ne301 := ow297.ne np299
                have nb302 := hB296.nb np299
                have g303 := g294.own (o := (.lst [(V.int t56)])) np299
                have ow304 := ow295.own (o := (.lst [(V.int t56)])) np299
                have ow305 := ow297.own (o := (.lst [(V.int t56)])) np299
                have hB306 := hB296.own (o := (.lst [(V.int t56)])) np299
                have ow307 : Ow H0 F64 (upd (upd H65 p289 (.lst (cutV ws_y_homes none (some r1)))) p298 (.lst [(V.int t56)])) p298 [(V.int t56)] := Ow.new g294 np299
                have hA308 : RL K F64 [(V.int t56)] ([t56] : List Int) := (RpA.cons (Rp.int t56) RpA.nil)
                obtain ⟨t309, hb310, hm⟩ := bnd hm
                obtain ⟨hk311, rfl⟩ := repL_ok hb310
                have hz314 : [(V.int t56)].length * ((toI (decide (r1 < (((y_homes).length : Nat) : Int))))).toNat ≤ sizeLine := by rw [RL.len hA308]; exact hk311.2.2
                refine ⟨(V.int r1), rfl, (V.ref p_y_homes), rfl, p_y_homes, ws_y_homes, _, rfl, (.inl (nm_y_homes _ _ g303)), (RL.len (hA_y_homes.up (Same.trans g6.ff (Same.trans g26.ff (Same.trans g35.ff (Same.trans g51.ff g66.ff)))))), _, _, rfl, rfl, _, rfl, p298, _, [(V.int t56)], rfl, rfl, ow307.h, hk311.1, hk311.2.1, hz314, fun p312 np313 => ?_⟩
                have hA315 := RL.rep hA308 ((toI (decide (r1 < (((y_homes).length : Nat) : Int))))).toNat
                have ne316 := ow304.ne np313
                have ne317 := ow305.ne np313
                have ne318 := ow307.ne np313
                have nb319 := hB306.nb np313
                have g320 := g303.own (o := (.lst (List.replicate ((toI (decide (r1 < (((y_homes).length : Nat) : Int))))).toNat [(V.int t56)]).flatten)) np313
                have ow321 := ow304.own (o := (.lst (List.replicate ((toI (decide (r1 < (((y_homes).length : Nat) : Int))))).toNat [(V.int t56)]).flatten)) np313
                have ow322 := ow305.own (o := (.lst (List.replicate ((toI (decide (r1 < (((y_homes).length : Nat) : Int))))).toNat [(V.int t56)]).flatten)) np313
                have ow323 := ow307.own (o := (.lst (List.replicate ((toI (decide (r1 < (((y_homes).length : Nat) : Int))))).toNat [(V.int t56)]).flatten)) np313
                have hB324 := hB306.own (o := (.lst (List.replicate ((toI (decide (r1 < (((y_homes).length : Nat) : Int))))).toNat [(V.int t56)]).flatten)) np313
                have ow325 : Ow H0 F64 (upd (upd (upd H65 p289 (.lst (cutV ws_y_homes none (some r1)))) p298 (.lst [(V.int t56)])) p312 (.lst (List.replicate ((toI (decide (r1 < (((y_homes).length : Nat) : Int))))).toNat [(V.int t56)]).flatten)) p312 (List.replicate ((toI (decide (r1 < (((y_homes).length : Nat) : Int))))).toNat [(V.int t56)]).flatten := Ow.new g303 np313
                obtain ⟨t326, hb327, hm⟩ := bnd hm
                obtain ⟨hk328, rfl⟩ := conL_ok hb327
                have hz331 : ((cutV ws_y_homes none (some r1)) ++ (List.replicate ((toI (decide (r1 < (((y_homes).length : Nat) : Int))))).toNat [(V.int t56)]).flatten).length ≤ sizeLine := by rw [List.length_append, RL.len hA291, RL.len hA315]; exact hk328
                refine ⟨p289, p312, (cutV ws_y_homes none (some r1)), (List.replicate ((toI (decide (r1 < (((y_homes).length : Nat) : Int))))).toNat [(V.int t56)]).flatten, rfl, rfl, ow322.sq, ow325.sq, (by rw [RL.len hA291, RL.len hA315]; exact hk328), fun p329 np330 => ?_⟩
                have hA332 := RL.app hA291 hA315
                have ne334 := ow321.ne np330
                have ne335 := ow322.ne np330
                have ne336 := ow323.ne np330
                have ne337 := ow325.ne np330
                have nb338 := hB324.nb np330
                have g339 := g320.own (o := (.lst ((cutV ws_y_homes none (some r1)) ++ (List.replicate ((toI (decide (r1 < (((y_homes).length : Nat) : Int))))).toNat [(V.int t56)]).flatten))) np330
                have ow340 := ow321.own (o := (.lst ((cutV ws_y_homes none (some r1)) ++ (List.replicate ((toI (decide (r1 < (((y_homes).length : Nat) : Int))))).toNat [(V.int t56)]).flatten))) np330
                have ow341 := ow322.own (o := (.lst ((cutV ws_y_homes none (some r1)) ++ (List.replicate ((toI (decide (r1 < (((y_homes).length : Nat) : Int))))).toNat [(V.int t56)]).flatten))) np330
                have ow342 := ow323.own (o := (.lst ((cutV ws_y_homes none (some r1)) ++ (List.replicate ((toI (decide (r1 < (((y_homes).length : Nat) : Int))))).toNat [(V.int t56)]).flatten))) np330
                have ow343 := ow325.own (o := (.lst ((cutV ws_y_homes none (some r1)) ++ (List.replicate ((toI (decide (r1 < (((y_homes).length : Nat) : Int))))).toNat [(V.int t56)]).flatten))) np330
                have hB344 := hB324.own (o := (.lst ((cutV ws_y_homes none (some r1)) ++ (List.replicate ((toI (decide (r1 < (((y_homes).length : Nat) : Int))))).toNat [(V.int t56)]).flatten))) np330
                have ow345 : Ow H0 F64 (upd (upd (upd (upd H65 p289 (.lst (cutV ws_y_homes none (some r1)))) p298 (.lst [(V.int t56)])) p312 (.lst (List.replicate ((toI (decide (r1 < (((y_homes).length : Nat) : Int))))).toNat [(V.int t56)]).flatten)) p329 (.lst ((cutV ws_y_homes none (some r1)) ++ (List.replicate ((toI (decide (r1 < (((y_homes).length : Nat) : Int))))).toNat [(V.int t56)]).flatten))) p329 ((cutV ws_y_homes none (some r1)) ++ (List.replicate ((toI (decide (r1 < (((y_homes).length : Nat) : Int))))).toNat [(V.int t56)]).flatten) := Ow.new g320 np330
                refine ⟨(V.ref p_y_homes), rfl, (V.int r1), rfl, _, _, rfl, rfl, _, rfl, p_y_homes, ws_y_homes, rfl, (nm_y_homes _ _ g339), fun p346 np347 => ?_⟩
                have hA348 : RL K F64 (cutV ws_y_homes (some (r1 + (1 : Int))) none) (cutL y_homes (some (r1 + (1 : Int))) none) := RL.cut (some (r1 + (1 : Int))) none (hA_y_homes.up (Same.trans g6.ff (Same.trans g26.ff (Same.trans g35.ff (Same.trans g51.ff g66.ff)))))
                have ne349 := ow340.ne np347
                have ne350 := ow341.ne np347
                have ne351 := ow342.ne np347
                have ne352 := ow343.ne np347
                have ne353 := ow345.ne np347
                have nb354 := hB344.nb np347
                have g355 := g339.own (o := (.lst (cutV ws_y_homes (some (r1 + (1 : Int))) none))) np347
                have ow356 := ow340.own (o := (.lst (cutV ws_y_homes (some (r1 + (1 : Int))) none))) np347
                have ow357 := ow341.own (o := (.lst (cutV ws_y_homes (some (r1 + (1 : Int))) none))) np347
                have ow358 := ow342.own (o := (.lst (cutV ws_y_homes (some (r1 + (1 : Int))) none))) np347
                have ow359 := ow343.own (o := (.lst (cutV ws_y_homes (some (r1 + (1 : Int))) none))) np347
                have ow360 := ow345.own (o := (.lst (cutV ws_y_homes (some (r1 + (1 : Int))) none))) np347
                have hB361 := hB344.own (o := (.lst (cutV ws_y_homes (some (r1 + (1 : Int))) none))) np347
                have ow362 : Ow H0 F64 (upd (upd (upd (upd (upd H65 p289 (.lst (cutV ws_y_homes none (some r1)))) p298 (.lst [(V.int t56)])) p312 (.lst (List.replicate ((toI (decide (r1 < (((y_homes).length : Nat) : Int))))).toNat [(V.int t56)]).flatten)) p329 (.lst ((cutV ws_y_homes none (some r1)) ++ (List.replicate ((toI (decide (r1 < (((y_homes).length : Nat) : Int))))).toNat [(V.int t56)]).flatten))) p346 (.lst (cutV ws_y_homes (some (r1 + (1 : Int))) none))) p346 (cutV ws_y_homes (some (r1 + (1 : Int))) none) := Ow.new g339 np347
                obtain ⟨t363, hb364, hm⟩ := bnd hm
                obtain ⟨hk365, rfl⟩ := conL_ok hb364
                have hz368 : (((cutV ws_y_homes none (some r1)) ++ (List.replicate ((toI (decide (r1 < (((y_homes).length : Nat) : Int))))).toNat [(V.int t56)]).flatten) ++ (cutV ws_y_homes (some (r1 + (1 : Int))) none)).length ≤ sizeLine := by rw [List.length_append, RL.len hA332, RL.len hA348]; exact hk365
                refine ⟨p329, p346, ((cutV ws_y_homes none (some r1)) ++ (List.replicate ((toI (decide (r1 < (((y_homes).length : Nat) : Int))))).toNat [(V.int t56)]).flatten), (cutV ws_y_homes (some (r1 + (1 : Int))) none), rfl, rfl, ow360.sq, ow362.sq, (by rw [RL.len hA332, RL.len hA348]; exact hk365), fun p366 np367 => ?_⟩
                have hA369 := RL.app hA332 hA348
                have ne371 := ow356.ne np367
                have ne372 := ow357.ne np367
                have ne373 := ow358.ne np367
                have ne374 := ow359.ne np367
                have ne375 := ow360.ne np367
                have ne376 := ow362.ne np367
                have nb377 := hB361.nb np367
                have g378 := g355.own (o := (.lst (((cutV ws_y_homes none (some r1)) ++ (List.replicate ((toI (decide (r1 < (((y_homes).length : Nat) : Int))))).toNat [(V.int t56)]).flatten) ++ (cutV ws_y_homes (some (r1 + (1 : Int))) none)))) np367
                have ow379 := ow356.own (o := (.lst (((cutV ws_y_homes none (some r1)) ++ (List.replicate ((toI (decide (r1 < (((y_homes).length : Nat) : Int))))).toNat [(V.int t56)]).flatten) ++ (cutV ws_y_homes (some (r1 + (1 : Int))) none)))) np367
                have ow380 := ow357.own (o := (.lst (((cutV ws_y_homes none (some r1)) ++ (List.replicate ((toI (decide (r1 < (((y_homes).length : Nat) : Int))))).toNat [(V.int t56)]).flatten) ++ (cutV ws_y_homes (some (r1 + (1 : Int))) none)))) np367
                have ow381 := ow358.own (o := (.lst (((cutV ws_y_homes none (some r1)) ++ (List.replicate ((toI (decide (r1 < (((y_homes).length : Nat) : Int))))).toNat [(V.int t56)]).flatten) ++ (cutV ws_y_homes (some (r1 + (1 : Int))) none)))) np367
                have ow382 := ow359.own (o := (.lst (((cutV ws_y_homes none (some r1)) ++ (List.replicate ((toI (decide (r1 < (((y_homes).length : Nat) : Int))))).toNat [(V.int t56)]).flatten) ++ (cutV ws_y_homes (some (r1 + (1 : Int))) none)))) np367
                have ow383 := ow360.own (o := (.lst (((cutV ws_y_homes none (some r1)) ++ (List.replicate ((toI (decide (r1 < (((y_homes).length : Nat) : Int))))).toNat [(V.int t56)]).flatten) ++ (cutV ws_y_homes (some (r1 + (1 : Int))) none)))) np367
                have ow384 := ow362.own (o := (.lst (((cutV ws_y_homes none (some r1)) ++ (List.replicate ((toI (decide (r1 < (((y_homes).length : Nat) : Int))))).toNat [(V.int t56)]).flatten) ++ (cutV ws_y_homes (some (r1 + (1 : Int))) none)))) np367
                have hB385 := hB361.own (o := (.lst (((cutV ws_y_homes none (some r1)) ++ (List.replicate ((toI (decide (r1 < (((y_homes).length : Nat) : Int))))).toNat [(V.int t56)]).flatten) ++ (cutV ws_y_homes (some (r1 + (1 : Int))) none)))) np367
                have ow386 : Ow H0 F64 (upd (upd (upd (upd (upd (upd H65 p289 (.lst (cutV ws_y_homes none (some r1)))) p298 (.lst [(V.int t56)])) p312 (.lst (List.replicate ((toI (decide (r1 < (((y_homes).length : Nat) : Int))))).toNat [(V.int t56)]).flatten)) p329 (.lst ((cutV ws_y_homes none (some r1)) ++ (List.replicate ((toI (decide (r1 < (((y_homes).length : Nat) : Int))))).toNat [(V.int t56)]).flatten))) p346 (.lst (cutV ws_y_homes (some (r1 + (1 : Int))) none))) p366 (.lst (((cutV ws_y_homes none (some r1)) ++ (List.replicate ((toI (decide (r1 < (((y_homes).length : Nat) : Int))))).toNat [(V.int t56)]).flatten) ++ (cutV ws_y_homes (some (r1 + (1 : Int))) none)))) p366 (((cutV ws_y_homes none (some r1)) ++ (List.replicate ((toI (decide (r1 < (((y_homes).length : Nat) : Int))))).toNat [(V.int t56)]).flatten) ++ (cutV ws_y_homes (some (r1 + (1 : Int))) none)) := Ow.new g355 np367
                obtain ⟨rfl, rfl⟩ := pjoin hm
                exact (hQ _ _ _ _ g378 hB385 ow386.n0 ow386.h ow386.nF hz368 hA369)
end K22
namespace K22
open PySem PySem.Spec PyProof.Rows L2 TL G
theorem ok_l_fault_due {P : Program} {w : World} {K : PySem.W.Frag} {mg : Str → Option Value} {base : Heap} (T : Txt K mg) : FnOk P w K mg base CX0 3 T.a_l_fault_due T.d_l_fault_due ["_law_town", "_law_torn", "_law_gate", "_law_want", "_law_homes"] (sp_l_fault_due K) := by
  have G_l_spots_of : FnOk P w K mg base CX0 2 T.a_l_spots_of T.d_l_spots_of ["_law_want", "_law_homes"] (sp_l_spots_of K) := ok_l_spots_of T
  have b_l_spots_of := T.F_l_spots_of.bindsN (ps := ["_law_want", "_law_homes"]) fun _ _ _ _ _ _ us hl => match us, hl with | [_, _], _ => rfl
  refine fd_ok T.F_l_fault_due sc_l_fault_due (fun vs H Q E h => ?_) (fun cdv A outer s H0 vs Q E hr h => ?_)
  · obtain ⟨_, _, _, _, _, _, _, _, _, _, _, _, _, rfl, _⟩ := h
    rfl
  · obtain ⟨F0, v_y_town, y_town, p_y_torn, ws_y_torn, y_torn, y_gate, v_y_want, y_want, p_y_homes, ws_y_homes, y_homes, r, rfl, hS0, r_y_town, hS_y_torn, hl_y_torn, hA_y_torn, nm_y_torn, r_y_want, hS_y_homes, hl_y_homes, hA_y_homes, nm_y_homes, hm, hQ⟩ := h
    refine ⟨_, (pss_cons (ps_if (PW.pt (pw_or (pt_cmpR (op_eqDK (K := K) hr.units) (pv 4) (pe_lst pa_nil) (nomark _)) (pw_or1 (pt_cmpR op_ne (pe_ix (ix_listK (K := K)) (pv 4) pe_int (fun _ _ => rfl)) (pe_ix (ix_listK (K := K)) (pe_ix (ix_tupK (K := K)) (pv 0) pe_int (fun _ _ => rfl)) (pv 2) (fun _ _ => rfl)) (nomark _))))) (pss_one (ps_ret (pe_tup (pa_cons pe_str pa_nil)))) pss_nil) (pss_cons (ps_setLc (i := 5) (own := [("_law_k", 6)]) rfl sc_l_fault_due.nd rfl rfl (sw_true rfl rfl rfl (by decide +kernel)) (pi_range1 (by rfl) T.n_range (pa_cons (pe_callB (call_lenLK (K := K)) (by rfl) T.n_len (by decide +kernel) (pa_cons (pe_ix (ix_tupK (K := K)) (pv 0) pe_int (fun _ _ => rfl)) pa_nil)) pa_nil)) (blkOk_by (own := [("_law_k", 6)]) (N := N_l_fault_due) (sc := defScope s_l_fault_due) (by decide +kernel)) (fun _ _ _ _ _ => (pg_name (i := 6) sc_l_fault_due.nd rfl (Or.inl rfl) (.inr rfl))) (fun _ _ _ _ _ => (pts_one (pt_cmpR (op_notInI (K := K)) (pv 6) (pv 1) rfl))) (fun _ _ _ _ _ => (pe_ix (ix_listK (K := K)) (pe_ix (ix_tupK (K := K)) (pv 0) pe_int (fun _ _ => rfl)) (pv 6) (fun _ _ => rfl)))) (pss_cons (ps_for PassesOwn.never rfl (pi_range1 (by rfl) T.n_range (pa_cons (pe_callB (call_lenLK (K := K)) (by rfl) T.n_len (by decide +kernel) (pa_cons (pv 4) pa_nil)) pa_nil)) (pg_name (i := 6) sc_l_fault_due.nd rfl (Or.inl rfl)) (pss_cons (ps_if (pt_cmpR (op_inI (K := K)) (pe_ix (ix_listK (K := K)) (pv 4) (pv 6) (fun _ _ => rfl)) (pe_ix (ix_tupK (K := K)) (pv 3) pe_int (fun _ _ => rfl)) rfl) (pss_one (ps_ret (pe_tup (pa_cons pe_str (pa_cons (pv 6) pa_nil))))) pss_nil) (pss_one (ps_if (PW.pt (pw_and (pt_cmpR op_lt (pe_op op_add (pv 6) pe_int) (pe_callB (call_lenLK (K := K)) (by rfl) T.n_len (by decide +kernel) (pa_cons (pv 4) pa_nil)) (nomark _)) (pw_and1 (pt_cmpR (op_notInDK (K := K) (units65 hr)) (pe_tup (pa_cons (pe_callB (cr_minK' (K := K) rfl) (by rfl) T.n_min (by decide +kernel) (pa_cons (pe_slice (sl_listK (K := K)) (pv 4) (po_some (pv 6)) (po_some (pe_op op_add (pv 6) pe_int))) pa_nil)) (pa_cons (pe_callB (cr_maxK (K := K) rfl) (by rfl) T.n_max (by decide +kernel) (pa_cons (pe_slice (sl_listK (K := K)) (pv 4) (po_some (pv 6)) (po_some (pe_op op_add (pv 6) pe_int))) pa_nil)) pa_nil))) (pv 5) rfl)))) (pss_one (ps_ret (pe_tup (pa_cons pe_str (pa_cons (pv 6) pa_nil))))) pss_nil)))) (pss_cons (ps_if (PW.pt (pw_and (pt_cmpR op_notO (pe_ix (ix_tupK (K := K)) (pv 3) pe_int (fun _ _ => rfl)) pe_non (nomark _)) (pw_and1 (pt_cmpR op_gt (pe_op op_sub (pe_callB (call_lenLK (K := K)) (by rfl) T.n_len (by decide +kernel) (pa_cons (pv 4) pa_nil)) pe_int) (pe_ix (ix_tupK (K := K)) (pv 3) pe_int (fun _ _ => rfl)) (nomark _))))) (pss_one (ps_ret (pe_tup (pa_cons pe_str pa_nil)))) pss_nil) (pss_cons (ps_if (pt_cmpR op_ne (pe_ix (ix_listK (K := K)) (pv 4) (pe_un un_neg pe_int) (fun _ _ => rfl)) (pe_ix (ix_listK (K := K)) (pe_ix (ix_tupK (K := K)) (pv 0) pe_int (fun _ _ => rfl)) (pe_ix (ix_tupK (K := K)) (pv 3) pe_int (fun _ _ => rfl)) (fun _ _ => rfl)) (nomark _)) (pss_one (ps_ret (pe_tup (pa_cons pe_str pa_nil)))) pss_nil) (pss_cons (ps_set (i := 7) sc_l_fault_due.nd rfl (.inr rfl) (pe_call G_l_spots_of (hr.mono (by decide)) (by rfl) T.g_l_spots_of T.F_l_spots_of.kp b_l_spots_of .nil pass0 (pa_cons (pv 3) (pa_cons (pv 4) pa_nil)))) (pss_cons (ps_if (pt_cmpR op_lt (pe_ix (ix_tupK (K := K)) (pe_ix (ix_listK (K := K)) (pv 7) (pe_un un_neg pe_int) (fun _ _ => rfl)) pe_int (fun _ _ => rfl)) (pe_callB (call_lenLK (K := K)) (by rfl) T.n_len (by decide +kernel) (pa_cons (pe_ix (ix_tupK (K := K)) (pv 3) pe_int (fun _ _ => rfl)) pa_nil)) (nomark _)) (pss_one (ps_ret (pe_tup (pa_cons pe_str pa_nil)))) pss_nil) (pss_cons (ps_setLc (i := 8) (own := [("_law_k", 6)]) rfl sc_l_fault_due.nd rfl rfl (sw_true rfl rfl rfl (by decide +kernel)) (pi_range1 (by rfl) T.n_range (pa_cons (pe_callB (call_lenLK (K := K)) (by rfl) T.n_len (by decide +kernel) (pa_cons (pv 7) pa_nil)) pa_nil)) (blkOk_by (own := [("_law_k", 6)]) (N := N_l_fault_due) (sc := defScope s_l_fault_due) (by decide +kernel)) (fun _ _ _ _ _ => (pg_name (i := 6) sc_l_fault_due.nd rfl (Or.inl rfl) (.inr rfl))) (fun _ _ _ _ _ => (pts_one (pt_cmpR (op_inDK (K := K) (units65 hr)) (pe_ix (ix_listK (K := K)) (pv 7) (pv 6) (fun _ _ => rfl)) (pe_slice (sl_listK (K := K)) (pv 7) po_none (po_some (pv 6))) rfl))) (fun _ _ _ _ _ => (pv 6))) (pss_one (ps_ret (pe_ifExp (pt_cmpR (op_eqDK (K := K) hr.units) (pv 8) (pe_lst pa_nil) (nomark _)) pe_non (pe_tup (pa_cons pe_str pa_nil))))))))))))), ?_⟩
    have g0 : Gr M0 F0 H0 F0 H0 := Gr.refl hS0
    unfold m_l_fault_due at hm
    refine p_seq ?_
    refine p_if ?_
    refine ⟨(V.ref p_y_homes), rfl, (by show 0 ≤ sizeLine; decide), fun p1 np2 => ?_⟩
    have g3 := g0.own (o := (.lst [])) np2
    have ow4 : Ow H0 F0 (upd H0 p1 (.lst [])) p1 [] := Ow.new g0 np2
    have rH6 : R K (upd H0 p1 (.lst [])) (V.ref p_y_homes) y_homes := (R.mkl (g3.seq nm_y_homes hS_y_homes) hl_y_homes (RpA.up hA_y_homes g3.fh))
    have rH7 : R K (upd H0 p1 (.lst [])) (V.ref p1) ([] : (List Int)) := (R.mkl ow4.sq (by show 0 ≤ sizeLine; decide) (RpA.up RpA.nil g3.fh))
    refine ⟨_, _, (Rp.dp _ _ rH6), (Rp.dp _ _ rH7), (R.shaped rH6), (R.shaped rH7), _, rfl, ?_⟩
    obtain ⟨c8, hc9, hm⟩ := bnd hm
    refine orJT (M := M0) (F := F0) (c := c8) (P := fun _ _ => True) (fun ha => ?_) (fun ha => ⟨(sjoin (ifT ha hc9)).symm, trivial⟩) g3.fh ?_
    · intro Q11 q12
      have hc9 := ifF ha hc9
      obtain ⟨t13, hb14, hc9⟩ := bnd hc9
      obtain ⟨v15, ha16, r17⟩ := RL.at hA_y_homes hb14
      obtain rfl := R.int_v r17
      obtain ⟨p18, v21, v22, v23, v24, ev19, hS20, r25, r26, r27, r28⟩ := R.p4_v r_y_town
      obtain rfl := R.int_v r25
      obtain rfl := R.int_v r26
      obtain ⟨t29, hb30, hc9⟩ := bnd hc9
      obtain ⟨p31, ws32, ev33, hS34, hl35, hA36⟩ := R.lst_v r28
      obtain ⟨v37, ha38, r39⟩ := RL.at hA36 hb30
      obtain rfl := R.int_v r39
      obtain rfl := sjoin hc9
      refine ⟨(V.ref p_y_homes), rfl, p_y_homes, ws_y_homes, _, (V.int t13), rfl, rfl, (g3.seq nm_y_homes hS_y_homes), ha16, v_y_town, rfl, p18, _, _, v24, ev19, rfl, (SqT_mono g3.fh hS20), rfl, (V.int y_gate), rfl, p31, ws32, _, (V.int t29), ev33, rfl, (Same.seq g3.fh hS34), ha38, rfl, _, rfl, (q12 _ _ (Gr.refl (M := M0) g3.fh) trivial)⟩
    intro F40 H41 g42 hB43
    have g44 := Gr.trans g3 g42
    have ow45 := ow4.gr0 g42
    refine (iteB (fun hc => ?_) (fun hc => ?_))
    · have hm := ifT hc hm
      refine p_ret ?_
      refine ⟨(by show 1 ≤ sizeLine; decide), fun p46 np47 => ?_⟩
      have ne48 := ow45.ne np47
      have sm49 := same_new (o := (.tup [(V.str ("start" : Str))])) (g44.noneF np47)
      have g50 := g44.frz (o := (.tup [(V.str ("start" : Str))])) np47
      have ow51 := ow45.frz (o := (.tup [(V.str ("start" : Str))])) np47
      have r52 : R K (upd F40 p46 (.tup [(V.str ("start" : Str))])) (.ref p46) ((T1.mk ("start" : Str)) : (T1 Str)) := R.mk1 fzT (Rp.str ("start" : Str) ⟨by decide +kernel, by decide +kernel⟩)
      have r53 : R K (upd F40 p46 (.tup [(V.str ("start" : Str))])) (V.ref p46) (some (((Sum.inl) (T1.mk ("start" : Str))) : ((T1 Str) ⊕ (Str × Int)))) := r52
      obtain rfl := sjoin hm
      exact (hQ _ _ _ g50 r53)
    · have hm := ifF hc hm
      refine p_next ?_
      refine p_nx ?_
      refine p_seq ?_
      refine p_asg ?_
      obtain ⟨p54, v57, v58, v59, v60, ev55, hS56, r61, r62, r63, r64⟩ := R.p4_v r_y_town
      obtain rfl := R.int_v r61
      obtain rfl := R.int_v r62
      obtain ⟨p65, ws66, ev67, hS68, hl69, hA70⟩ := R.lst_v r63
      obtain ⟨l71, hb73, hm⟩ := bnd hm
      obtain ⟨hk72, rfl⟩ := rangeO1_ok hb73
      refine ⟨v_y_town, rfl, p54, _, _, v59, ev55, rfl, (SqT_mono g44.fh (SqT_mono g42.ff hS56)), rfl, p65, ws66, _, (by rw [ev67]), (.inl (Same.seq g44.fh (Same.seq g42.ff hS68))), (RL.len (hA70.up g42.ff)), _, rfl, hk72.1.1, hk72.1.2, fun D74 nD75 => ?_⟩
      have ne76 := ow45.ne nD75
      have g77 := g44.own (o := (.lst [])) nD75
      have ow78 := ow45.own (o := (.lst [])) nD75
      have ow79 : Ow H0 F40 (upd H41 D74 (.lst [])) D74 [] := Ow.new g44 nD75
      obtain ⟨l80, hb81, hm⟩ := bnd hm
      refine lc_range (lo := (0 : Int)) (n := ((((y_town.c).length : Nat) : Int)).toNat) (fun i H' => ∃ (F' : Hp) (acc : List V) (ds : List (Int × Int)) (rest : List (Int × Int)), Gr M0 F0 H0 F' H' ∧ Same F40 F' ∧ Ow H0 F' H' D74 acc ∧ RL K F' acc ds ∧ acc.length ≤ i ∧ Ow H0 F' H' p1 [] ∧ m_l_fault_due_c1 y_town y_torn ((rangeL (0 : Int) ((((y_town.c).length : Nat) : Int)).toNat).drop i) = some rest ∧ ds ++ rest = l80) ?_ ?_ ?_
      · exact ⟨F40, [], [], l80, g77, Same.refl _, ow79, RpA.nil, Nat.le_refl _, ow78, hb81, rfl⟩
      · intro i83 H85 hx84 hP
        obtain ⟨F86, acc87, ds88, rest89, g090, sm91, owD92, hA93, hi94, ow095, hm96, hr97⟩ := hP
        have he99 := rangeL_at (lo := (0 : Int)) hx84
        rw [drop_at he99, m_l_fault_due_c1.eq_2] at hm96
        refine ⟨rfl, (V.int ((0 : Int) + ((i83 : Nat) : Int))), rfl, (V.ref p_y_torn), rfl, _, p_y_torn, _, rfl, rfl, (.inl (by rw [← RL.ints (hA_y_torn.up (Same.trans g42.ff sm91))]; exact (g090.seq nm_y_torn hS_y_torn))), _, rfl, (iteB (fun hc => ?_) (fun hc => ?_))⟩
        · have hc : (!decide (((0 : Int) + ((i83 : Nat) : Int)) ∈ y_torn)) = true := hc
          have hm96 := ifT hc hm96
          obtain ⟨t100, hb101, hm96⟩ := bnd hm96
          obtain ⟨v102, ha103, r104⟩ := RL.at (hA70.up (Same.trans g42.ff sm91)) hb101
          have hA105 : RL K F86 (acc87 ++ [v102]) (ds88 ++ [(t100 : (Int × Int))]) := RL.snoc hA93 r104
          obtain ⟨rest106, h107, h108⟩ := bnd hm96
          obtain rfl := sjoin h108
          refine ⟨v_y_town, rfl, p54, _, _, v59, ev55, rfl, (SqT_mono g090.fh (SqT_mono (Same.trans g42.ff sm91) hS56)), rfl, (V.int ((0 : Int) + ((i83 : Nat) : Int))), rfl, p65, ws66, _, v102, ev67, rfl, (Same.seq g090.fh (Same.seq (Same.trans g42.ff sm91) hS68)), ha103, acc87, owD92.h, (lt_line hi94 hx84 hk72.2), ?_⟩
          have g109 := g090.put (o := (.lst (acc87 ++ [v102]))) owD92
          have ow110 := ow095.other (o := (.lst (acc87 ++ [v102]))) ne76
          have ow111 := owD92.put (us := (acc87 ++ [v102]))
          exact ⟨F86, (acc87 ++ [v102]), (ds88 ++ [t100]), rest106, g109, sm91, ow111, hA105, (by rw [List.length_append]; exact Nat.succ_le_succ hi94), ow110, h107, (snoc_rest hr97)⟩
        · have hc : (!decide (((0 : Int) + ((i83 : Nat) : Int)) ∈ y_torn)) = false := hc
          have hm96 := ifF hc hm96
          exact ⟨F86, acc87, ds88, rest89, g090, sm91, owD92, hA93, (Nat.le_succ_of_le hi94), ow095, hm96, hr97⟩
      intro H112 hP
      obtain ⟨F113, acc114, ds115, _rest, g0117, sm118, owD119, hA120, hi121, ow0122, hm123, hr124⟩ := hP
      rw [drop_end (rangeL_len _ _).symm] at hm123
      rw [m_l_fault_due_c1.eq_1] at hm123
      obtain rfl := sjoin hm123
      rw [List.append_nil] at hr124
      obtain rfl := hr124
      have hl125 : acc114.length ≤ sizeLine := Nat.le_trans hi121 hk72.2
      refine p_name ?_
      refine p_nx ?_
      refine p_seq ?_
      refine p_for ?_
      obtain ⟨l126, hb128, hm⟩ := bnd hm
      obtain ⟨hk127, rfl⟩ := rangeO1_ok hb128
      refine ⟨(V.ref p_y_homes), rfl, p_y_homes, ws_y_homes, _, rfl, (.inl (g0117.seq nm_y_homes hS_y_homes)), (RL.len (hA_y_homes.up (Same.trans g42.ff sm118))), _, rfl, hk127.1.1, hk127.1.2, ?_⟩
      obtain ⟨l129, ht130, hm⟩ := bndL0 hm
      refine for_range (lo := (0 : Int)) (n := ((((y_homes).length : Nat) : Int)).toNat) (fun i σ' H' => ∃ (F' : Hp) (o_y_k : Option V), σ' = [(some v_y_town), (some (V.ref p_y_torn)), (some (V.int y_gate)), (some v_y_want), (some (V.ref p_y_homes)), (some (V.ref D74)), o_y_k, none, none] ∧ Gr M0 F0 H0 F' H' ∧ Same F113 F' ∧ Ow H0 F' H' D74 acc114 ∧ m_l_fault_due_l2 y_want y_homes ds115 ((rangeL (0 : Int) ((((y_homes).length : Nat) : Int)).toNat).drop i)  = some l129) ?_ ?_ ?_
      · exact ⟨F113, none, rfl, g0117, (Same.refl _), owD119, ht130⟩
      · intro i131 σ' H133 hx132 hP
        obtain ⟨F135, o_y_k136, rfl, g137, sm138, owk0139, hm140⟩ := hP
        have he142 := rangeL_at (lo := (0 : Int)) hx132
        rw [drop_at he142, m_l_fault_due_l2.eq_2] at hm140
        refine p_name ?_
        refine p_seq ?_
        refine p_if ?_
        obtain ⟨t143, hb144, hm140⟩ := bnd hm140
        obtain ⟨v145, ha146, r147⟩ := RL.at (hA_y_homes.up (Same.trans g42.ff (Same.trans sm118 sm138))) hb144
        obtain rfl := R.int_v r147
        obtain ⟨p148, v151, v152, v153, v154, ev149, hS150, r155, r156, r157, r158⟩ := R.p4_v r_y_want
        obtain rfl := R.int_v r155
        obtain ⟨p159, ws160, ev161, hS162, hl163, hA164⟩ := R.vt_v r157
        refine ⟨(V.ref p_y_homes), rfl, (V.int ((0 : Int) + ((i131 : Nat) : Int))), rfl, p_y_homes, ws_y_homes, _, (V.int t143), rfl, rfl, (g137.seq nm_y_homes hS_y_homes), ha146, v_y_want, rfl, p148, _, _, v153, ev149, rfl, (SqT_mono g137.fh (SqT_mono (Same.trans g42.ff (Same.trans sm118 sm138)) hS150)), rfl, _, p159, _, rfl, (by rw [ev161]), (.inr (by rw [← RL.ints (hA164.up (Same.trans g42.ff (Same.trans sm118 sm138)))]; exact (SqT_mono g137.fh (SqT_mono (Same.trans g42.ff (Same.trans sm118 sm138)) hS162)))), _, rfl, (iteB (fun hc => ?_) (fun hc => ?_))⟩
        · have hm140 := ifT hc hm140
          refine p_ret ?_
          refine ⟨(V.int ((0 : Int) + ((i131 : Nat) : Int))), rfl, (by show 2 ≤ sizeLine; decide), fun p165 np166 => ?_⟩
          have ne167 := owk0139.ne np166
          have sm168 := same_new (o := (.tup [(V.str ("past" : Str)), (V.int ((0 : Int) + ((i131 : Nat) : Int)))])) (g137.noneF np166)
          have g169 := g137.frz (o := (.tup [(V.str ("past" : Str)), (V.int ((0 : Int) + ((i131 : Nat) : Int)))])) np166
          have ow170 := owk0139.frz (o := (.tup [(V.str ("past" : Str)), (V.int ((0 : Int) + ((i131 : Nat) : Int)))])) np166
          have r171 : R K (upd F135 p165 (.tup [(V.str ("past" : Str)), (V.int ((0 : Int) + ((i131 : Nat) : Int)))])) (.ref p165) ((("past" : Str), ((0 : Int) + ((i131 : Nat) : Int))) : (Str × Int)) := R.mk2 fzT (Rp.str ("past" : Str) ⟨by decide +kernel, by decide +kernel⟩) (Rp.int ((0 : Int) + ((i131 : Nat) : Int)))
          have r172 : R K (upd F135 p165 (.tup [(V.str ("past" : Str)), (V.int ((0 : Int) + ((i131 : Nat) : Int)))])) (V.ref p165) (some (((Sum.inr) (("past" : Str), ((0 : Int) + ((i131 : Nat) : Int)))) : ((T1 Str) ⊕ (Str × Int)))) := r171
          obtain rfl := sjoin hm140
          have hm := bret hm
          obtain rfl := sjoin hm
          exact (hQ _ _ _ g169 r172)
        · have hm140 := ifF hc hm140
          refine p_next ?_
          refine p_nx ?_
          refine p_if ?_
          refine ⟨(V.int ((0 : Int) + ((i131 : Nat) : Int))), rfl, _, _, rfl, rfl, (V.ref p_y_homes), rfl, p_y_homes, ws_y_homes, _, rfl, (.inl (g137.seq nm_y_homes hS_y_homes)), (RL.len (hA_y_homes.up (Same.trans g42.ff (Same.trans sm118 sm138)))), _, _, rfl, rfl, _, rfl, ?_⟩
          obtain ⟨c173, hc174, hm140⟩ := bnd hm140
          refine andJT (M := M0) (F := F135) (c := c173) (P := fun _ _ => True) (fun ha => ?_) (fun ha => ⟨(sjoin (ifF ha hc174)).symm, trivial⟩) g137.fh ?_
          · intro Q176 q177
            have hc174 := ifT ha hc174
            refine ⟨(V.ref p_y_homes), rfl, (V.int ((0 : Int) + ((i131 : Nat) : Int))), rfl, _, rfl, (V.int ((0 : Int) + ((i131 : Nat) : Int))), rfl, _, _, rfl, rfl, _, rfl, p_y_homes, ws_y_homes, rfl, (g137.seq nm_y_homes hS_y_homes), fun p178 np179 => ?_⟩
            have hA180 : RL K F135 (cutV ws_y_homes (some ((0 : Int) + ((i131 : Nat) : Int))) (some (((0 : Int) + ((i131 : Nat) : Int)) + (2 : Int)))) (cutL y_homes (some ((0 : Int) + ((i131 : Nat) : Int))) (some (((0 : Int) + ((i131 : Nat) : Int)) + (2 : Int)))) := RL.cut (some ((0 : Int) + ((i131 : Nat) : Int))) (some (((0 : Int) + ((i131 : Nat) : Int)) + (2 : Int))) (hA_y_homes.up (Same.trans g42.ff (Same.trans sm118 sm138)))
            have ne181 := owk0139.ne np179
            have g182 := g137.own (o := (.lst (cutV ws_y_homes (some ((0 : Int) + ((i131 : Nat) : Int))) (some (((0 : Int) + ((i131 : Nat) : Int)) + (2 : Int)))))) np179
            have g183 := (Gr.refl (M := M0) g137.fh).own (o := (.lst (cutV ws_y_homes (some ((0 : Int) + ((i131 : Nat) : Int))) (some (((0 : Int) + ((i131 : Nat) : Int)) + (2 : Int)))))) np179
            have ow184 := owk0139.own (o := (.lst (cutV ws_y_homes (some ((0 : Int) + ((i131 : Nat) : Int))) (some (((0 : Int) + ((i131 : Nat) : Int)) + (2 : Int)))))) np179
            have ow185 : Ow H0 F135 (upd H133 p178 (.lst (cutV ws_y_homes (some ((0 : Int) + ((i131 : Nat) : Int))) (some (((0 : Int) + ((i131 : Nat) : Int)) + (2 : Int)))))) p178 (cutV ws_y_homes (some ((0 : Int) + ((i131 : Nat) : Int))) (some (((0 : Int) + ((i131 : Nat) : Int)) + (2 : Int)))) := Ow.new g137 np179
            obtain ⟨t186, hb187, hc174⟩ := bnd hc174
            refine ⟨p178, (cutL y_homes (some ((0 : Int) + ((i131 : Nat) : Int))) (some (((0 : Int) + ((i131 : Nat) : Int)) + (2 : Int)))), rfl, (by rw [← RL.ints hA180]; exact ow185.sq), (minO_ok hb187).1, fun m188 hm189 hl190 => ?_⟩
            obtain rfl := min_uniq hb187 hm189 hl190
            refine ⟨(V.ref p_y_homes), rfl, (V.int ((0 : Int) + ((i131 : Nat) : Int))), rfl, _, rfl, (V.int ((0 : Int) + ((i131 : Nat) : Int))), rfl, _, _, rfl, rfl, _, rfl, p_y_homes, ws_y_homes, rfl, (g182.seq nm_y_homes hS_y_homes), fun p191 np192 => ?_⟩
            have hA193 : RL K F135 (cutV ws_y_homes (some ((0 : Int) + ((i131 : Nat) : Int))) (some (((0 : Int) + ((i131 : Nat) : Int)) + (2 : Int)))) (cutL y_homes (some ((0 : Int) + ((i131 : Nat) : Int))) (some (((0 : Int) + ((i131 : Nat) : Int)) + (2 : Int)))) := RL.cut (some ((0 : Int) + ((i131 : Nat) : Int))) (some (((0 : Int) + ((i131 : Nat) : Int)) + (2 : Int))) (hA_y_homes.up (Same.trans g42.ff (Same.trans sm118 sm138)))
            have ne194 := ow184.ne np192
            have ne195 := ow185.ne np192
            have g196 := g182.own (o := (.lst (cutV ws_y_homes (some ((0 : Int) + ((i131 : Nat) : Int))) (some (((0 : Int) + ((i131 : Nat) : Int)) + (2 : Int)))))) np192
            have g197 := g183.own (o := (.lst (cutV ws_y_homes (some ((0 : Int) + ((i131 : Nat) : Int))) (some (((0 : Int) + ((i131 : Nat) : Int)) + (2 : Int)))))) np192
            have ow198 := ow184.own (o := (.lst (cutV ws_y_homes (some ((0 : Int) + ((i131 : Nat) : Int))) (some (((0 : Int) + ((i131 : Nat) : Int)) + (2 : Int)))))) np192
            have ow199 := ow185.own (o := (.lst (cutV ws_y_homes (some ((0 : Int) + ((i131 : Nat) : Int))) (some (((0 : Int) + ((i131 : Nat) : Int)) + (2 : Int)))))) np192
            have ow200 : Ow H0 F135 (upd (upd H133 p178 (.lst (cutV ws_y_homes (some ((0 : Int) + ((i131 : Nat) : Int))) (some (((0 : Int) + ((i131 : Nat) : Int)) + (2 : Int)))))) p191 (.lst (cutV ws_y_homes (some ((0 : Int) + ((i131 : Nat) : Int))) (some (((0 : Int) + ((i131 : Nat) : Int)) + (2 : Int)))))) p191 (cutV ws_y_homes (some ((0 : Int) + ((i131 : Nat) : Int))) (some (((0 : Int) + ((i131 : Nat) : Int)) + (2 : Int)))) := Ow.new g182 np192
            obtain ⟨t201, hb202, hc174⟩ := bnd hc174
            refine ⟨p191, (cutL y_homes (some ((0 : Int) + ((i131 : Nat) : Int))) (some (((0 : Int) + ((i131 : Nat) : Int)) + (2 : Int)))), rfl, (by rw [← RL.ints hA193]; exact ow200.sq), (maxO_ok hb202).1, fun m203 hm204 hl205 => ?_⟩
            obtain rfl := max_uniq hb202 hm204 hl205
            refine ⟨(by show 2 ≤ sizeLine; decide), fun p206 np207 => ?_⟩
            have ne208 := ow198.ne np207
            have ne209 := ow199.ne np207
            have ne210 := ow200.ne np207
            have sm211 := same_new (o := (.tup [(V.int m188), (V.int m203)])) (g196.noneF np207)
            have g212 := g196.frz (o := (.tup [(V.int m188), (V.int m203)])) np207
            have g213 := g197.frz (o := (.tup [(V.int m188), (V.int m203)])) np207
            have ow214 := ow198.frz (o := (.tup [(V.int m188), (V.int m203)])) np207
            have ow215 := ow199.frz (o := (.tup [(V.int m188), (V.int m203)])) np207
            have ow216 := ow200.frz (o := (.tup [(V.int m188), (V.int m203)])) np207
            have r217 : R K (upd F135 p206 (.tup [(V.int m188), (V.int m203)])) (.ref p206) ((m188, m203) : (Int × Int)) := R.mk2 fzT (Rp.int m188) (Rp.int m203)
            have rH218 : R K (upd (upd (upd H133 p178 (.lst (cutV ws_y_homes (some ((0 : Int) + ((i131 : Nat) : Int))) (some (((0 : Int) + ((i131 : Nat) : Int)) + (2 : Int)))))) p191 (.lst (cutV ws_y_homes (some ((0 : Int) + ((i131 : Nat) : Int))) (some (((0 : Int) + ((i131 : Nat) : Int)) + (2 : Int)))))) p206 (.tup [(V.int m188), (V.int m203)])) (V.ref p206) (m188, m203) := (Rp.up r217 g212.fh)
            have rH219 : R K (upd (upd (upd H133 p178 (.lst (cutV ws_y_homes (some ((0 : Int) + ((i131 : Nat) : Int))) (some (((0 : Int) + ((i131 : Nat) : Int)) + (2 : Int)))))) p191 (.lst (cutV ws_y_homes (some ((0 : Int) + ((i131 : Nat) : Int))) (some (((0 : Int) + ((i131 : Nat) : Int)) + (2 : Int)))))) p206 (.tup [(V.int m188), (V.int m203)])) (V.ref D74) ds115 := (R.mkl ow214.sq hl125 (RpA.up (hA120.up (Same.trans sm138 sm211)) g212.fh))
            obtain rfl := sjoin hc174
            refine ⟨(V.ref D74), rfl, _, _, (Rp.dp _ _ rH218), (Rp.dp _ _ rH219), (R.shaped rH218), (R.shaped rH219), _, rfl, (q177 _ _ g213 trivial)⟩
          intro F220 H221 g222 hB223
          have g224 := Gr.trans g137 g222
          have ow225 := owk0139.gr0 g222
          refine (iteB (fun hc => ?_) (fun hc => ?_))
          · have hm140 := ifT hc hm140
            refine p_ret ?_
            refine ⟨(V.int ((0 : Int) + ((i131 : Nat) : Int))), rfl, (by show 2 ≤ sizeLine; decide), fun p226 np227 => ?_⟩
            have ne228 := ow225.ne np227
            have sm229 := same_new (o := (.tup [(V.str ("tie" : Str)), (V.int ((0 : Int) + ((i131 : Nat) : Int)))])) (g224.noneF np227)
            have g230 := g224.frz (o := (.tup [(V.str ("tie" : Str)), (V.int ((0 : Int) + ((i131 : Nat) : Int)))])) np227
            have ow231 := ow225.frz (o := (.tup [(V.str ("tie" : Str)), (V.int ((0 : Int) + ((i131 : Nat) : Int)))])) np227
            have r232 : R K (upd F220 p226 (.tup [(V.str ("tie" : Str)), (V.int ((0 : Int) + ((i131 : Nat) : Int)))])) (.ref p226) ((("tie" : Str), ((0 : Int) + ((i131 : Nat) : Int))) : (Str × Int)) := R.mk2 fzT (Rp.str ("tie" : Str) ⟨by decide +kernel, by decide +kernel⟩) (Rp.int ((0 : Int) + ((i131 : Nat) : Int)))
            have r233 : R K (upd F220 p226 (.tup [(V.str ("tie" : Str)), (V.int ((0 : Int) + ((i131 : Nat) : Int)))])) (V.ref p226) (some (((Sum.inr) (("tie" : Str), ((0 : Int) + ((i131 : Nat) : Int)))) : ((T1 Str) ⊕ (Str × Int)))) := r232
            obtain rfl := sjoin hm140
            have hm := bret hm
            obtain rfl := sjoin hm
            exact (hQ _ _ _ g230 r233)
          · have hm140 := ifF hc hm140
            refine p_next ?_
            exact ⟨F220, (some (V.int ((0 : Int) + ((i131 : Nat) : Int)))), rfl, g224, (Same.trans sm138 g222.ff), ow225, hm140⟩
      intro σ234 H235 hP
      obtain ⟨F236, o_y_k237, rfl, g238, sm239, owk0240, hm241⟩ := hP
      rw [drop_end (rangeL_len _ _).symm, m_l_fault_due_l2.eq_1] at hm241
      obtain rfl := sjoin hm241
      have hm := bgo0 hm
      refine p_nx ?_
      refine p_seq ?_
      refine p_if ?_
      obtain ⟨p242, v245, v246, v247, v248, ev243, hS244, r249, r250, r251, r252⟩ := R.p4_v r_y_want
      obtain rfl := R.int_v r249
      refine ⟨v_y_want, rfl, p242, _, _, v248, ev243, rfl, (SqT_mono g238.fh (SqT_mono (Same.trans g42.ff (Same.trans sm118 sm239)) hS244)), rfl, _, rfl, (isN_eq (r252.up (Same.trans g42.ff (Same.trans sm118 sm239)))), _, rfl, ?_⟩
      obtain ⟨c253, hc254, hm⟩ := bnd hm
      refine andJT (M := M0) (F := F236) (c := c253) (P := fun _ _ => True) (fun ha => ?_) (fun ha => ⟨(sjoin (ifF ha hc254)).symm, trivial⟩) g238.fh ?_
      · intro Q256 q257
        have hc254 := ifT ha hc254
        obtain ⟨t258, hb259, hc254⟩ := bnd hc254
        have eq260 : v248 = V.int t258 := R.int_v (getO_ok (x := t258) hb259 (r252.up (Same.trans g42.ff (Same.trans sm118 sm239))))
        obtain rfl := sjoin hc254
        refine ⟨(V.ref p_y_homes), rfl, p_y_homes, ws_y_homes, _, rfl, (.inl (g238.seq nm_y_homes hS_y_homes)), (RL.len (hA_y_homes.up (Same.trans g42.ff (Same.trans sm118 sm239)))), _, _, rfl, rfl, v_y_want, rfl, p242, _, _, v248, ev243, rfl, (SqT_mono g238.fh (SqT_mono (Same.trans g42.ff (Same.trans sm118 sm239)) hS244)), rfl, _, _, rfl, eq260, _, rfl, (q257 _ _ (Gr.refl (M := M0) g238.fh) trivial)⟩
      intro F261 H262 g263 hB264
      have g265 := Gr.trans g238 g263
      have ow266 := owk0240.gr0 g263
      refine (iteB (fun hc => ?_) (fun hc => ?_))
      · have hm := ifT hc hm
        refine p_ret ?_
        refine ⟨(by show 1 ≤ sizeLine; decide), fun p267 np268 => ?_⟩
        have ne269 := ow266.ne np268
        have sm270 := same_new (o := (.tup [(V.str ("most" : Str))])) (g265.noneF np268)
        have g271 := g265.frz (o := (.tup [(V.str ("most" : Str))])) np268
        have ow272 := ow266.frz (o := (.tup [(V.str ("most" : Str))])) np268
        have r273 : R K (upd F261 p267 (.tup [(V.str ("most" : Str))])) (.ref p267) ((T1.mk ("most" : Str)) : (T1 Str)) := R.mk1 fzT (Rp.str ("most" : Str) ⟨by decide +kernel, by decide +kernel⟩)
        have r274 : R K (upd F261 p267 (.tup [(V.str ("most" : Str))])) (V.ref p267) (some (((Sum.inl) (T1.mk ("most" : Str))) : ((T1 Str) ⊕ (Str × Int)))) := r273
        obtain rfl := sjoin hm
        exact (hQ _ _ _ g271 r274)
      · have hm := ifF hc hm
        refine p_next ?_
        refine p_nx ?_
        refine p_seq ?_
        refine p_if ?_
        obtain ⟨t275, hb276, hm⟩ := bnd hm
        obtain ⟨v277, ha278, r279⟩ := RL.at (hA_y_homes.up (Same.trans g42.ff (Same.trans sm118 (Same.trans sm239 g263.ff)))) hb276
        obtain rfl := R.int_v r279
        obtain ⟨t280, hb281, hm⟩ := bnd hm
        obtain ⟨p282, ws283, ev284, hS285, hl286, hA287⟩ := R.lst_v r64
        obtain ⟨v288, ha289, r290⟩ := RL.at (hA287.up (Same.trans g42.ff (Same.trans sm118 (Same.trans sm239 g263.ff)))) hb281
        obtain rfl := R.int_v r290
        refine ⟨(V.ref p_y_homes), rfl, _, rfl, p_y_homes, ws_y_homes, _, (V.int t275), rfl, rfl, (g265.seq nm_y_homes hS_y_homes), ha278, v_y_town, rfl, p54, _, _, v60, ev55, rfl, (SqT_mono g265.fh (SqT_mono (Same.trans g42.ff (Same.trans sm118 (Same.trans sm239 g263.ff))) hS56)), rfl, v_y_want, rfl, p242, _, _, (V.int y_want.a), ev243, rfl, (SqT_mono g265.fh (SqT_mono (Same.trans g42.ff (Same.trans sm118 (Same.trans sm239 g263.ff))) hS244)), rfl, p282, ws283, _, (V.int t280), ev284, rfl, (Same.seq g265.fh (Same.seq (Same.trans g42.ff (Same.trans sm118 (Same.trans sm239 g263.ff))) hS285)), ha289, rfl, _, rfl, (iteB (fun hc => ?_) (fun hc => ?_))⟩
        · have hm := ifT hc hm
          refine p_ret ?_
          refine ⟨(by show 1 ≤ sizeLine; decide), fun p291 np292 => ?_⟩
          have ne293 := ow266.ne np292
          have sm294 := same_new (o := (.tup [(V.str ("goal" : Str))])) (g265.noneF np292)
          have g295 := g265.frz (o := (.tup [(V.str ("goal" : Str))])) np292
          have ow296 := ow266.frz (o := (.tup [(V.str ("goal" : Str))])) np292
          have r297 : R K (upd F261 p291 (.tup [(V.str ("goal" : Str))])) (.ref p291) ((T1.mk ("goal" : Str)) : (T1 Str)) := R.mk1 fzT (Rp.str ("goal" : Str) ⟨by decide +kernel, by decide +kernel⟩)
          have r298 : R K (upd F261 p291 (.tup [(V.str ("goal" : Str))])) (V.ref p291) (some (((Sum.inl) (T1.mk ("goal" : Str))) : ((T1 Str) ⊕ (Str × Int)))) := r297
          obtain rfl := sjoin hm
          exact (hQ _ _ _ g295 r298)
        · have hm := ifF hc hm
          refine p_next ?_
          refine p_nx ?_
          refine p_seq ?_
          refine p_asg ?_
          obtain ⟨r299, hb300, hm⟩ := bnd hm
          refine ⟨v_y_want, rfl, (V.ref p_y_homes), rfl, F261, v_y_want, y_want, p_y_homes, ws_y_homes, y_homes, r299, rfl, g265.fh, (r_y_want.up (Same.trans g42.ff (Same.trans sm118 (Same.trans sm239 g263.ff)))), (g265.seq nm_y_homes hS_y_homes), hl_y_homes, (hA_y_homes.up (Same.trans g42.ff (Same.trans sm118 (Same.trans sm239 g263.ff)))), id, hb300, fun p304 ws305 F301 H302 g303 np306 h307 nF308 hl309 hA310 => ?_⟩
          have ne311 := ow266.ne np306
          have n0312 := g265.none0 np306
          have g313 := Gr.trans g265 g303
          have ow314 := ow266.gr0 g303
          have ow315 : Ow H0 F301 H302 p304 ws305 := ⟨h307, nF308, n0312⟩
          refine p_name ?_
          refine p_nx ?_
          refine p_seq ?_
          refine p_if ?_
          obtain ⟨t316, hb317, hm⟩ := bnd hm
          obtain ⟨v318, ha319, r320⟩ := RL.at hA310 hb317
          obtain ⟨p321, v324, v325, ev322, hS323, r326, r327⟩ := R.p2_v r320
          obtain rfl := R.int_v r326
          obtain rfl := R.int_v r327
          obtain ⟨p328, ws329, ev330, hS331, hl332, hA333⟩ := R.vt_v r250
          refine ⟨(V.ref p304), rfl, _, rfl, p304, ws305, _, v318, rfl, rfl, ow315.sq, ha319, p321, _, _, (V.int t316.1), ev322, rfl, (SqT_mono g313.fh hS323), rfl, v_y_want, rfl, p242, _, _, v246, ev243, rfl, (SqT_mono g313.fh (SqT_mono (Same.trans g42.ff (Same.trans sm118 (Same.trans sm239 (Same.trans g263.ff g303.ff)))) hS244)), rfl, p328, ws329, _, (by rw [ev330]), (.inr (SqT_mono g313.fh (SqT_mono (Same.trans g42.ff (Same.trans sm118 (Same.trans sm239 (Same.trans g263.ff g303.ff)))) hS331))), (RL.len (hA333.up (Same.trans g42.ff (Same.trans sm118 (Same.trans sm239 (Same.trans g263.ff g303.ff)))))), _, _, rfl, rfl, _, rfl, (iteB (fun hc => ?_) (fun hc => ?_))⟩
          · have hm := ifT hc hm
            refine p_ret ?_
            refine ⟨(by show 1 ≤ sizeLine; decide), fun p334 np335 => ?_⟩
            have ne336 := ow314.ne np335
            have ne337 := ow315.ne np335
            have sm338 := same_new (o := (.tup [(V.str ("by" : Str))])) (g313.noneF np335)
            have g339 := g313.frz (o := (.tup [(V.str ("by" : Str))])) np335
            have ow340 := ow314.frz (o := (.tup [(V.str ("by" : Str))])) np335
            have ow341 := ow315.frz (o := (.tup [(V.str ("by" : Str))])) np335
            have r342 : R K (upd F301 p334 (.tup [(V.str ("by" : Str))])) (.ref p334) ((T1.mk ("by" : Str)) : (T1 Str)) := R.mk1 fzT (Rp.str ("by" : Str) ⟨by decide +kernel, by decide +kernel⟩)
            have r343 : R K (upd F301 p334 (.tup [(V.str ("by" : Str))])) (V.ref p334) (some (((Sum.inl) (T1.mk ("by" : Str))) : ((T1 Str) ⊕ (Str × Int)))) := r342
            obtain rfl := sjoin hm
            exact (hQ _ _ _ g339 r343)
          · have hm := ifF hc hm
            refine p_next ?_
            refine p_nx ?_
            refine p_seq ?_
            refine p_asg ?_
            obtain ⟨l344, hb346, hm⟩ := bnd hm
            obtain ⟨hk345, rfl⟩ := rangeO1_ok hb346
            refine ⟨(V.ref p304), rfl, p304, ws305, _, rfl, (.inl ow315.sq), (RL.len hA310), _, rfl, hk345.1.1, hk345.1.2, fun D347 nD348 => ?_⟩
            have ne349 := ow314.ne nD348
            have ne350 := ow315.ne nD348
            have g351 := g313.own (o := (.lst [])) nD348
            have ow352 := ow314.own (o := (.lst [])) nD348
            have ow353 := ow315.own (o := (.lst [])) nD348
            have ow354 : Ow H0 F301 (upd H302 D347 (.lst [])) D347 [] := Ow.new g313 nD348
            obtain ⟨l355, hb356, hm⟩ := bnd hm
            refine lc_range (lo := (0 : Int)) (n := ((((r299).length : Nat) : Int)).toNat) (fun i H' => ∃ (F' : Hp) (acc : List V) (ds : List Int) (rest : List Int), Gr M0 F0 H0 F' H' ∧ Same F301 F' ∧ Ow H0 F' H' D347 acc ∧ RL K F' acc ds ∧ acc.length ≤ i ∧ Ow H0 F' H' D74 acc114 ∧ Ow H0 F' H' p304 ws305 ∧ m_l_fault_due_c3 r299 ((rangeL (0 : Int) ((((r299).length : Nat) : Int)).toNat).drop i) = some rest ∧ ds ++ rest = l355) ?_ ?_ ?_
            · exact ⟨F301, [], [], l355, g351, Same.refl _, ow354, RpA.nil, Nat.le_refl _, ow352, ow353, hb356, rfl⟩
            · intro i358 H360 hx359 hP
              obtain ⟨F361, acc362, ds363, rest364, g0365, sm366, owD367, hA368, hi369, ow0370, ow1371, hm372, hr373⟩ := hP
              have he375 := rangeL_at (lo := (0 : Int)) hx359
              rw [drop_at he375, m_l_fault_due_c3.eq_2] at hm372
              obtain ⟨t376, hb377, hm372⟩ := bnd hm372
              obtain ⟨v378, ha379, r380⟩ := RL.at (hA310.up sm366) hb377
              refine ⟨rfl, (V.ref p304), rfl, (V.int ((0 : Int) + ((i358 : Nat) : Int))), rfl, p304, ws305, _, v378, rfl, rfl, ow1371.sq, ha379, (V.ref p304), rfl, (V.int ((0 : Int) + ((i358 : Nat) : Int))), rfl, _, rfl, p304, ws305, rfl, ow1371.sq, fun p381 np382 => ?_⟩
              have hA383 : RL K F361 (cutV ws305 none (some ((0 : Int) + ((i358 : Nat) : Int)))) (cutL r299 none (some ((0 : Int) + ((i358 : Nat) : Int)))) := RL.cut none (some ((0 : Int) + ((i358 : Nat) : Int))) (hA310.up sm366)
              have ne384 := ow0370.ne np382
              have ne385 := ow1371.ne np382
              have ne386 := owD367.ne np382
              have g387 := g0365.own (o := (.lst (cutV ws305 none (some ((0 : Int) + ((i358 : Nat) : Int)))))) np382
              have ow388 := ow0370.own (o := (.lst (cutV ws305 none (some ((0 : Int) + ((i358 : Nat) : Int)))))) np382
              have ow389 := ow1371.own (o := (.lst (cutV ws305 none (some ((0 : Int) + ((i358 : Nat) : Int)))))) np382
              have ow390 := owD367.own (o := (.lst (cutV ws305 none (some ((0 : Int) + ((i358 : Nat) : Int)))))) np382
              have ow391 : Ow H0 F361 (upd H360 p381 (.lst (cutV ws305 none (some ((0 : Int) + ((i358 : Nat) : Int)))))) p381 (cutV ws305 none (some ((0 : Int) + ((i358 : Nat) : Int)))) := Ow.new g0365 np382
              have rH392 : R K (upd H360 p381 (.lst (cutV ws305 none (some ((0 : Int) + ((i358 : Nat) : Int)))))) v378 t376 := (Rp.up r380 g387.fh)
              have rH393 : R K (upd H360 p381 (.lst (cutV ws305 none (some ((0 : Int) + ((i358 : Nat) : Int)))))) (V.ref p381) (cutL r299 none (some ((0 : Int) + ((i358 : Nat) : Int)))) := (R.mkl ow391.sq (Nat.le_trans (cutV_length _ _ _) hl309) (RpA.up hA383 g387.fh))
              refine ⟨_, _, (Rp.dp _ _ rH392), (Rp.dp _ _ rH393), (R.shaped rH392), (R.shaped rH393), _, rfl, (iteB (fun hc => ?_) (fun hc => ?_))⟩
              · have hc : (inD t376 (cutL r299 none (some ((0 : Int) + ((i358 : Nat) : Int))))) = true := hc
                have hm372 := ifT hc hm372
                have hA394 : RL K F361 (acc362 ++ [(V.int ((0 : Int) + ((i358 : Nat) : Int)))]) (ds363 ++ [(((0 : Int) + ((i358 : Nat) : Int)) : Int)]) := RL.snoc hA368 (Rp.int ((0 : Int) + ((i358 : Nat) : Int)))
                obtain ⟨rest395, h396, h397⟩ := bnd hm372
                obtain rfl := sjoin h397
                refine ⟨(V.int ((0 : Int) + ((i358 : Nat) : Int))), rfl, acc362, ow390.h, (lt_line hi369 hx359 hk345.2), ?_⟩
                have g398 := g387.put (o := (.lst (acc362 ++ [(V.int ((0 : Int) + ((i358 : Nat) : Int)))]))) ow390
                have ow399 := ow388.other (o := (.lst (acc362 ++ [(V.int ((0 : Int) + ((i358 : Nat) : Int)))]))) ne349
                have ow400 := ow389.other (o := (.lst (acc362 ++ [(V.int ((0 : Int) + ((i358 : Nat) : Int)))]))) ne350
                have ow401 := ow391.other (o := (.lst (acc362 ++ [(V.int ((0 : Int) + ((i358 : Nat) : Int)))]))) (Ne.symm ne386)
                have ow402 := ow390.put (us := (acc362 ++ [(V.int ((0 : Int) + ((i358 : Nat) : Int)))]))
                exact ⟨F361, (acc362 ++ [(V.int ((0 : Int) + ((i358 : Nat) : Int)))]), (ds363 ++ [((0 : Int) + ((i358 : Nat) : Int))]), rest395, g398, sm366, ow402, hA394, (by rw [List.length_append]; exact Nat.succ_le_succ hi369), ow399, ow400, h396, (snoc_rest hr373)⟩
              · have hc : (inD t376 (cutL r299 none (some ((0 : Int) + ((i358 : Nat) : Int))))) = false := hc
                have hm372 := ifF hc hm372
                exact ⟨F361, acc362, ds363, rest364, g387, sm366, ow390, hA368, (Nat.le_succ_of_le hi369), ow388, ow389, hm372, hr373⟩
            intro H403 hP
            obtain ⟨F404, acc405, ds406, _rest, g0408, sm409, owD410, hA411, hi412, ow0413, ow1414, hm415, hr416⟩ := hP
            rw [drop_end (rangeL_len _ _).symm] at hm415
            rw [m_l_fault_due_c3.eq_1] at hm415
            obtain rfl := sjoin hm415
            rw [List.append_nil] at hr416
            obtain rfl := hr416
            have hl417 : acc405.length ≤ sizeLine := Nat.le_trans hi412 hk345.2
            refine p_name ?_
            refine p_nx ?_
            refine p_ret ?_
            refine ⟨(V.ref D347), rfl, (by show 0 ≤ sizeLine; decide), fun p418 np419 => ?_⟩
            have ne420 := ow0413.ne np419
            have ne421 := ow1414.ne np419
            have ne422 := owD410.ne np419
            have g423 := g0408.own (o := (.lst [])) np419
            have ow424 := ow0413.own (o := (.lst [])) np419
            have ow425 := ow1414.own (o := (.lst [])) np419
            have ow426 := owD410.own (o := (.lst [])) np419
            have ow427 : Ow H0 F404 (upd H403 p418 (.lst [])) p418 [] := Ow.new g0408 np419
            have rH429 : R K (upd H403 p418 (.lst [])) (V.ref D347) ds406 := (R.mkl ow426.sq hl417 (RpA.up hA411 g423.fh))
            have rH430 : R K (upd H403 p418 (.lst [])) (V.ref p418) ([] : (List Int)) := (R.mkl ow427.sq (by show 0 ≤ sizeLine; decide) (RpA.up RpA.nil g423.fh))
            refine ⟨_, _, (Rp.dp _ _ rH429), (Rp.dp _ _ rH430), (R.shaped rH429), (R.shaped rH430), _, rfl, ?_⟩
            refine ifJ (M := M0) (F := F404) (P := fun v' F' H' => R K F' v' ((if (eqD ds406 ([] : (List Int))) then (none : (Option (T1 Str))) else (some (T1.mk ("twice" : Str)))) : (Option (T1 Str)))) (fun ha => ?_) (fun ha => ?_) ?_
            · intro Q433 q434
              have ha : (eqD ds406 ([] : (List Int))) = true := ha
              exact (q434 _ _ _ (Gr.refl (M := M0) g423.fh) (by rw [if_pos ha]; exact Rp.non))
            · intro Q435 q436
              have ha : (eqD ds406 ([] : (List Int))) = false := ha
              refine ⟨(by show 1 ≤ sizeLine; decide), fun p437 np438 => ?_⟩
              have ne439 := ow424.ne np438
              have ne440 := ow425.ne np438
              have ne441 := ow426.ne np438
              have ne442 := ow427.ne np438
              have sm443 := same_new (o := (.tup [(V.str ("twice" : Str))])) (g423.noneF np438)
              have g444 := g423.frz (o := (.tup [(V.str ("twice" : Str))])) np438
              have g445 := (Gr.refl (M := M0) g423.fh).frz (o := (.tup [(V.str ("twice" : Str))])) np438
              have ow446 := ow424.frz (o := (.tup [(V.str ("twice" : Str))])) np438
              have ow447 := ow425.frz (o := (.tup [(V.str ("twice" : Str))])) np438
              have ow448 := ow426.frz (o := (.tup [(V.str ("twice" : Str))])) np438
              have ow449 := ow427.frz (o := (.tup [(V.str ("twice" : Str))])) np438
              have r450 : R K (upd F404 p437 (.tup [(V.str ("twice" : Str))])) (.ref p437) ((T1.mk ("twice" : Str)) : (T1 Str)) := R.mk1 fzT (Rp.str ("twice" : Str) ⟨by decide +kernel, by decide +kernel⟩)
              exact (q436 _ _ _ g445 (by rw [if_neg (ne_true_of_eq_false ha)]; exact r450))
            intro v454 F451 H452 g453 hp455
            have g457 := Gr.trans g423 g453
            have ow458 := ow424.gr0 g453
            have ow459 := ow425.gr0 g453
            have ow460 := ow426.gr0 g453
            have ow461 := ow427.gr0 g453
            have r462 : R K F451 v454 ((((if (eqD ds406 ([] : (List Int))) then (none : (Option (T1 Str))) else (some (T1.mk ("twice" : Str))))).map (Sum.inl : (T1 Str) → ((T1 Str) ⊕ (Str × Int)))) : (Option ((T1 Str) ⊕ (Str × Int)))) := R.omap (fun _ => rfl) hp455
            obtain rfl := sjoin hm
            exact (hQ _ _ _ g457 r462)
end K22
namespace K22
open PySem PySem.Spec PyProof.Rows L2 TL G
theorem ok_law {P : Program} {w : World} {K : PySem.W.Frag} {mg : Str → Option Value} {base : Heap} (T : Txt K mg) (hlaw : ∀ b : Bag, BOk b → ∃ b', m_law b = some (true, b')) : FnOk P w K mg base CX0 10 T.a_law T.d_law ["_law_script"] (sp_law K) := by
  have G_l_bag : FnOk P w K mg base CX0 1 T.a_l_bag T.d_l_bag ["_law_script"] (sp_l_bag K) := ok_l_bag T
  have b_l_bag := T.F_l_bag.bindsN (ps := ["_law_script"]) fun _ _ _ _ _ _ us hl => match us, hl with | [_], _ => rfl
  have G_l_town_drawn : FnOk P w K mg base CX0 3 T.a_l_town_drawn T.d_l_town_drawn ["_law_bag_here"] (sp_l_town_drawn K) := ok_l_town_drawn T
  have b_l_town_drawn := T.F_l_town_drawn.bindsN (ps := ["_law_bag_here"]) fun _ _ _ _ _ _ us hl => match us, hl with | [_], _ => rfl
  have G_l_walked : FnOk P w K mg base CX0 3 T.a_l_walked T.d_l_walked ["_law_bag_here", "_law_town"] (sp_l_walked K) := ok_l_walked T
  have b_l_walked := T.F_l_walked.bindsN (ps := ["_law_bag_here", "_law_town"]) fun _ _ _ _ _ _ us hl => match us, hl with | [_, _], _ => rfl
  have G_l_torn_drawn : FnOk P w K mg base CX0 3 T.a_l_torn_drawn T.d_l_torn_drawn ["_law_bag_here", "_law_town"] (sp_l_torn_drawn K) := ok_l_torn_drawn T
  have b_l_torn_drawn := T.F_l_torn_drawn.bindsN (ps := ["_law_bag_here", "_law_town"]) fun _ _ _ _ _ _ us hl => match us, hl with | [_, _], _ => rfl
  have G_l_want_fitting : FnOk P w K mg base CX0 3 T.a_l_want_fitting T.d_l_want_fitting ["_law_bag_here", "_law_town", "_law_homes"] (sp_l_want_fitting K) := ok_l_want_fitting T
  have b_l_want_fitting := T.F_l_want_fitting.bindsN (ps := ["_law_bag_here", "_law_town", "_law_homes"]) fun _ _ _ _ _ _ us hl => match us, hl with | [_, _, _], _ => rfl
  have G_l_fault_due : FnOk P w K mg base CX0 3 T.a_l_fault_due T.d_l_fault_due ["_law_town", "_law_torn", "_law_gate", "_law_want", "_law_homes"] (sp_l_fault_due K) := ok_l_fault_due T
  have b_l_fault_due := T.F_l_fault_due.bindsN (ps := ["_law_town", "_law_torn", "_law_gate", "_law_want", "_law_homes"]) fun _ _ _ _ _ _ us hl => match us, hl with | [_, _, _, _, _], _ => rfl
  have G_l_copied : FnOk P w K mg base CX0 1 T.a_l_copied T.d_l_copied ["_law_town"] (sp_l_copied K) := ok_l_copied T
  have b_l_copied := T.F_l_copied.bindsN (ps := ["_law_town"]) fun _ _ _ _ _ _ us hl => match us, hl with | [_], _ => rfl
  have G_l_alike : FnOk P w K mg base CX0 9 T.a_l_alike T.d_l_alike ["_law_found", "_law_due"] (sp_alike 8 K) := ok_l_alike T 9
  have b_l_alike := T.F_l_alike.bindsN (ps := ["_law_found", "_law_due"]) fun _ _ _ _ _ _ us hl => match us, hl with | [_, _], _ => rfl
  have G_way_fault : FnOk P w K mg base CX0 3 T.a_way_fault T.d_way_fault ["net", "broken", "door", "order", "houses"] (sp_way_fault K) := ok_way_fault T
  have b_way_fault := T.F_way_fault.bindsN (ps := ["net", "broken", "door", "order", "houses"]) fun _ _ _ _ _ _ us hl => match us, hl with | [_, _, _, _, _], _ => rfl
  have G_l_bent_once : FnOk P w K mg base CX0 3 T.a_l_bent_once T.d_l_bent_once ["_law_bag_here", "_law_town", "_law_homes"] (sp_l_bent_once K) := ok_l_bent_once T
  have b_l_bent_once := T.F_l_bent_once.bindsN (ps := ["_law_bag_here", "_law_town", "_law_homes"]) fun _ _ _ _ _ _ us hl => match us, hl with | [_, _, _], _ => rfl
  refine fd_ok T.F_law sc_law (fun vs H Q E h => ?_) (fun cdv A outer s H0 vs Q E hr h => ?_)
  · obtain ⟨_, _, rfl, _⟩ := h
    rfl
  · obtain ⟨a_, ns_, rfl, hS_, hl_, hQ_⟩ := h
    refine ⟨_, (pss_cons (ps_set (i := 1) sc_law.nd rfl (.inl rfl) (pe_call G_l_bag (hr.mono (by decide)) (by rfl) T.g_l_bag T.F_l_bag.kp b_l_bag .nil pass0 (pa_cons (pv 0) pa_nil))) (pss_cons (ps_for PassesOwn.never rfl (pi_range1 (by rfl) T.n_range (pa_cons pe_int pa_nil)) (pg_name (i := 2) sc_law.nd rfl (Or.inl rfl)) (pss_cons (ps_set (i := 3) sc_law.nd rfl (.inl rfl) (pe_call G_l_town_drawn (hr.mono (by decide)) (by rfl) T.g_l_town_drawn T.F_l_town_drawn.kp b_l_town_drawn .nil pass0 (pa_cons (pv 1) pa_nil))) (pss_cons (ps_set (i := 4) sc_law.nd rfl (.inl rfl) (pe_call G_l_walked (hr.mono (by decide)) (by rfl) T.g_l_walked T.F_l_walked.kp b_l_walked .nil pass0 (pa_cons (pv 1) (pa_cons (pv 3) pa_nil)))) (pss_cons (ps_set (i := 3) sc_law.nd rfl (.inl rfl) (pe_tup (pa_cons (pe_ix (ix_tupK (K := K)) (pv 3) pe_int (fun _ _ => rfl)) (pa_cons (pe_ix (ix_tupK (K := K)) (pv 3) pe_int (fun _ _ => rfl)) (pa_cons (pe_ix (ix_tupK (K := K)) (pv 3) pe_int (fun _ _ => rfl)) (pa_cons (pe_op (op_catLK (K := K)) (pe_op (op_catLK (K := K)) (pe_lst (pa_cons (pe_ix (ix_listK (K := K)) (pv 4) pe_int (fun _ _ => rfl)) pa_nil)) (pe_slice (sl_listK (K := K)) (pe_ix (ix_tupK (K := K)) (pv 3) pe_int (fun _ _ => rfl)) po_none (po_some pe_int))) (pe_lst (pa_cons (pe_ix (ix_listK (K := K)) (pv 4) (pe_un un_neg pe_int) (fun _ _ => rfl)) pa_nil))) pa_nil)))))) (pss_cons (ps_set (i := 5) sc_law.nd rfl (.inl rfl) (pe_call G_l_torn_drawn (hr.mono (by decide)) (by rfl) T.g_l_torn_drawn T.F_l_torn_drawn.kp b_l_torn_drawn .nil pass0 (pa_cons (pv 1) (pa_cons (pv 3) pa_nil)))) (pss_cons (ps_set (i := 6) sc_law.nd rfl (.inl rfl) (pe_call G_l_want_fitting (hr.mono (by decide)) (by rfl) T.g_l_want_fitting T.F_l_want_fitting.kp b_l_want_fitting .nil pass0 (pa_cons (pv 1) (pa_cons (pv 3) (pa_cons (pv 4) pa_nil))))) (pss_one (ps_for PassesOwn.never rfl (pi_range1 (by rfl) T.n_range (pa_cons pe_int pa_nil)) (pg_name (i := 7) sc_law.nd rfl (Or.inl rfl)) (pss_cons (ps_set (i := 8) sc_law.nd rfl (.inl rfl) (pe_call G_l_fault_due (hr.mono (by decide)) (by rfl) T.g_l_fault_due T.F_l_fault_due.kp b_l_fault_due .nil pass0 (pa_cons (pv 3) (pa_cons (pv 5) (pa_cons pe_int (pa_cons (pv 6) (pa_cons (pv 4) pa_nil))))))) (pss_cons (ps_set (i := 9) sc_law.nd rfl (.inl rfl) (pe_tup (pa_cons (pe_call G_l_copied (hr.mono (by decide)) (by rfl) T.g_l_copied T.F_l_copied.kp b_l_copied .nil pass0 (pa_cons (pv 3) pa_nil)) (pa_cons (pe_callTy (call_list_of_ (K := K)) (by rfl) T.n_list (by decide +kernel) (pa_cons (pv 5) pa_nil)) (pa_cons (pe_callTy (call_list_of_ (K := K)) (by rfl) T.n_list (by decide +kernel) (pa_cons (pv 4) pa_nil)) pa_nil))))) (pss_cons (ps_if (pt_not (pt_val (pe_call G_l_alike (hr.mono (by decide)) (by rfl) T.g_l_alike T.F_l_alike.kp b_l_alike .nil pass0 (pa_cons (pe_call G_way_fault (hr.mono (by decide)) (by rfl) T.g_way_fault T.F_way_fault.kp b_way_fault .nil pass0 (pa_cons (pv 3) (pa_cons (pv 5) (pa_cons pe_int (pa_cons (pv 6) (pa_cons (pv 4) pa_nil)))))) (pa_cons (pv 8) pa_nil))))) (pss_one (ps_ret pe_bl)) pss_nil) (pss_cons (ps_set (i := 10) sc_law.nd rfl (.inl rfl) (pe_callK0 G_way_fault (hr.mono (by decide)) (by rfl) T.g_way_fault T.F_way_fault.kp (kb_way_fault_0 T.F_way_fault) pass0 (pk_cons (pv 4) (pk_cons (pv 6) (pk_cons pe_int (pk_cons (pv 5) (pk_cons (pv 3) pk_nil))))))) (pss_cons (ps_if (PW.pt (pw_or (pt_not (pt_val (pe_call G_l_alike (hr.mono (by decide)) (by rfl) T.g_l_alike T.F_l_alike.kp b_l_alike .nil pass0 (pa_cons (pv 10) (pa_cons (pv 8) pa_nil))))) (pw_or1 (pt_cmpR (op_neDK (K := K) hr.units) (pe_tup (pa_cons (pv 3) (pa_cons (pv 5) (pa_cons (pv 4) pa_nil)))) (pv 9) (nomark _))))) (pss_one (ps_ret pe_bl)) pss_nil) (pss_cons (ps_set (i := 5) sc_law.nd rfl (.inl rfl) (pe_ifExp (pt_cmpR op_eq (pv 7) pe_int (nomark _)) (pe_lst pa_nil) (pv 5))) (pss_one (ps_set (i := 4) sc_law.nd rfl (.inl rfl) (pe_slice (sl_listK (K := K)) (pe_call G_l_bent_once (hr.mono (by decide)) (by rfl) T.g_l_bent_once T.F_l_bent_once.kp b_l_bent_once .nil pass0 (pa_cons (pv 1) (pa_cons (pv 3) (pa_cons (pv 4) pa_nil)))) po_none (po_some pe_int)))))))))))))))))) (pss_one (ps_ret (pe_cmpR (op_eqDK (K := K) hr.units) (pe_call G_way_fault (hr.mono (by decide)) (by rfl) T.g_way_fault T.F_way_fault.kp b_way_fault .nil pass0 (pa_cons (pe_tup (pa_cons pe_int (pa_cons pe_int (pa_cons (pe_lst pa_nil) (pa_cons (pe_lst (pa_cons pe_int pa_nil)) pa_nil))))) (pa_cons (pe_lst pa_nil) (pa_cons pe_int (pa_cons (pe_tup (pa_cons pe_int (pa_cons (pe_tup pa_nil) (pa_cons (pe_tup pa_nil) (pa_cons pe_int pa_nil))))) (pa_cons (pe_lst pa_nil) pa_nil)))))) (pe_tup (pa_cons pe_str pa_nil)) (nomark _)))))), ?_⟩
    refine p_seq ?_
    refine p_asg ?_
    refine ⟨_, rfl, a_, ns_, rfl, hS_, hl_, fun B C b F0 H0 hS0 hB hb_ hScr_ hNm_ => ?_⟩
    refine p_name ?_
    refine p_nx ?_
    obtain ⟨b_, hm⟩ := hlaw b hb_
    have hQ : ∀ F' H', Gr (Bc B C) F0 H0 F' H' → BagAt F' H' B C b_ → Q (.bl true) H' := fun _ H' _ _ => hQ_ H'
    have g0 : Gr (Bc B C) F0 H0 F0 H0 := Gr.refl hS0
    unfold m_law at hm
    refine p_seq ?_
    refine p_for ?_
    refine ⟨_, rfl, (by decide), (by decide), ?_⟩
    obtain ⟨l2, ht3, hm⟩ := bndL1 hm
    refine for_range (lo := (0 : Int)) (n := (6 : Nat)) (fun i σ' H' => ∃ (F' : Hp) (o_y_turn : Option V) (o_y_town : Option V) (o_y_homes : Option V) (o_y_torn : Option V) (o_y_want : Option V) (o_y_k : Option V) (o_y_due : Option V) (o_y_kept : Option V) (o_y_told : Option V) (b : Bag), σ' = [(some (V.ref a_)), (some (V.ref B)), o_y_turn, o_y_town, o_y_homes, o_y_torn, o_y_want, o_y_k, o_y_due, o_y_kept, o_y_told] ∧ Gr (Bc B C) F0 H0 F' H' ∧ Same F0 F' ∧ BagAt F' H' B C b ∧ m_law_l1  ((rangeL (0 : Int) 6).drop i) b = some l2) ?_ ?_ ?_
    · exact ⟨F0, none, none, none, none, none, none, none, none, none, b, rfl, g0, (Same.refl _), hB, ht3⟩
    · intro i4 σ' H6 hx5 hP
      obtain ⟨F8, o_y_turn9, o_y_town10, o_y_homes11, o_y_torn12, o_y_want13, o_y_k14, o_y_due15, o_y_kept16, o_y_told17, b18, rfl, g19, sm20, hB21, hm22⟩ := hP
      have he24 := rangeL_at (lo := (0 : Int)) hx5
      rw [drop_at he24, m_law_l1.eq_2] at hm22
      refine p_name ?_
      refine p_seq ?_
      refine p_asg ?_
      obtain ⟨r25, b26, hb27, hm22⟩ := bnd2 hm22
      refine ⟨(V.ref B), rfl, F8, B, C, b18, r25, b26, rfl, g19.fh, hB21, hb27, fun v32 F28 H29 g30 hB31 r33 => ?_⟩
      have g34 := Gr.trans g19 g30
      refine p_name ?_
      refine p_nx ?_
      refine p_seq ?_
      refine p_asg ?_
      obtain ⟨r35, b36, hb37, hm22⟩ := bnd2 hm22
      refine ⟨(V.ref B), rfl, v32, rfl, F28, B, C, b26, v32, r25, r35, b36, rfl, g34.fh, hB31, r33, hb37, fun p42 ws43 F38 H39 g40 hB41 np44 h45 nF46 hl47 hA48 => ?_⟩
      have nb49 := hB31.nb np44
      have n050 := g34.none0 np44
      have g51 := Gr.trans g34 g40
      have ow52 : Ow H0 F38 H39 p42 ws43 := ⟨h45, nF46, n050⟩
      refine p_name ?_
      refine p_nx ?_
      refine p_seq ?_
      refine p_asg ?_
      obtain ⟨p53, v56, v57, v58, v59, ev54, hS55, r60, r61, r62, r63⟩ := R.p4_v r33
      obtain rfl := R.int_v r60
      obtain rfl := R.int_v r61
      obtain ⟨t64, hb65, hm22⟩ := bnd hm22
      obtain ⟨v66, ha67, r68⟩ := RL.at hA48 hb65
      obtain rfl := R.int_v r68
      refine ⟨v32, rfl, p53, _, _, (V.int r25.a), ev54, rfl, (SqT_mono g51.fh (SqT_mono g40.ff hS55)), rfl, v32, rfl, p53, _, _, (V.int r25.b), ev54, rfl, (SqT_mono g51.fh (SqT_mono g40.ff hS55)), rfl, v32, rfl, p53, _, _, v58, ev54, rfl, (SqT_mono g51.fh (SqT_mono g40.ff hS55)), rfl, (V.ref p42), rfl, p42, ws43, _, (V.int t64), rfl, rfl, ow52.sq, ha67, (by show 1 ≤ sizeLine; decide), fun p69 np70 => ?_⟩
      have ne71 := ow52.ne np70
      have nb72 := hB41.nb np70
      have g73 := g51.own (o := (.lst [(V.int t64)])) np70
      have ow74 := ow52.own (o := (.lst [(V.int t64)])) np70
      have hB75 := hB41.own (o := (.lst [(V.int t64)])) np70
      have ow76 : Ow H0 F38 (upd H39 p69 (.lst [(V.int t64)])) p69 [(V.int t64)] := Ow.new g51 np70
      have hA77 : RL K F38 [(V.int t64)] ([t64] : List Int) := (RpA.cons (Rp.int t64) RpA.nil)
      obtain ⟨p78, ws79, ev80, hS81, hl82, hA83⟩ := R.lst_v r63
      refine ⟨v32, rfl, p53, _, _, v59, ev54, rfl, (SqT_mono g73.fh (SqT_mono g40.ff hS55)), rfl, _, rfl, p78, ws79, ev80, (Same.seq g73.fh (Same.seq g40.ff hS81)), fun p84 np85 => ?_⟩
      have hA86 : RL K F38 (cutV ws79 none (some (6 : Int))) (cutL r25.e none (some (6 : Int))) := RL.cut none (some (6 : Int)) (hA83.up g40.ff)
      have ne87 := ow74.ne np85
      have ne88 := ow76.ne np85
      have nb89 := hB75.nb np85
      have g90 := g73.own (o := (.lst (cutV ws79 none (some (6 : Int))))) np85
      have ow91 := ow74.own (o := (.lst (cutV ws79 none (some (6 : Int))))) np85
      have ow92 := ow76.own (o := (.lst (cutV ws79 none (some (6 : Int))))) np85
      have hB93 := hB75.own (o := (.lst (cutV ws79 none (some (6 : Int))))) np85
      have ow94 : Ow H0 F38 (upd (upd H39 p69 (.lst [(V.int t64)])) p84 (.lst (cutV ws79 none (some (6 : Int))))) p84 (cutV ws79 none (some (6 : Int))) := Ow.new g73 np85
      obtain ⟨t95, hb96, hm22⟩ := bnd hm22
      obtain ⟨hk97, rfl⟩ := conL_ok hb96
      have hz100 : ([(V.int t64)] ++ (cutV ws79 none (some (6 : Int)))).length ≤ sizeLine := by rw [List.length_append, RL.len hA77, RL.len hA86]; exact hk97
      refine ⟨p69, p84, [(V.int t64)], (cutV ws79 none (some (6 : Int))), rfl, rfl, ow92.sq, ow94.sq, (by rw [RL.len hA77, RL.len hA86]; exact hk97), fun p98 np99 => ?_⟩
      have hA101 := RL.app hA77 hA86
      have ne103 := ow91.ne np99
      have ne104 := ow92.ne np99
      have ne105 := ow94.ne np99
      have nb106 := hB93.nb np99
      have g107 := g90.own (o := (.lst ([(V.int t64)] ++ (cutV ws79 none (some (6 : Int)))))) np99
      have ow108 := ow91.own (o := (.lst ([(V.int t64)] ++ (cutV ws79 none (some (6 : Int)))))) np99
      have ow109 := ow92.own (o := (.lst ([(V.int t64)] ++ (cutV ws79 none (some (6 : Int)))))) np99
      have ow110 := ow94.own (o := (.lst ([(V.int t64)] ++ (cutV ws79 none (some (6 : Int)))))) np99
      have hB111 := hB93.own (o := (.lst ([(V.int t64)] ++ (cutV ws79 none (some (6 : Int)))))) np99
      have ow112 : Ow H0 F38 (upd (upd (upd H39 p69 (.lst [(V.int t64)])) p84 (.lst (cutV ws79 none (some (6 : Int))))) p98 (.lst ([(V.int t64)] ++ (cutV ws79 none (some (6 : Int)))))) p98 ([(V.int t64)] ++ (cutV ws79 none (some (6 : Int)))) := Ow.new g90 np99
      obtain ⟨t113, hb114, hm22⟩ := bnd hm22
      obtain ⟨v115, ha116, r117⟩ := RL.at hA48 hb114
      obtain rfl := R.int_v r117
      refine ⟨(V.ref p42), rfl, _, rfl, p42, ws43, _, (V.int t113), rfl, rfl, ow108.sq, ha116, (by show 1 ≤ sizeLine; decide), fun p118 np119 => ?_⟩
      have ne120 := ow108.ne np119
      have ne121 := ow109.ne np119
      have ne122 := ow110.ne np119
      have ne123 := ow112.ne np119
      have nb124 := hB111.nb np119
      have g125 := g107.own (o := (.lst [(V.int t113)])) np119
      have ow126 := ow108.own (o := (.lst [(V.int t113)])) np119
      have ow127 := ow109.own (o := (.lst [(V.int t113)])) np119
      have ow128 := ow110.own (o := (.lst [(V.int t113)])) np119
      have ow129 := ow112.own (o := (.lst [(V.int t113)])) np119
      have hB130 := hB111.own (o := (.lst [(V.int t113)])) np119
      have ow131 : Ow H0 F38 (upd (upd (upd (upd H39 p69 (.lst [(V.int t64)])) p84 (.lst (cutV ws79 none (some (6 : Int))))) p98 (.lst ([(V.int t64)] ++ (cutV ws79 none (some (6 : Int)))))) p118 (.lst [(V.int t113)])) p118 [(V.int t113)] := Ow.new g107 np119
      have hA132 : RL K F38 [(V.int t113)] ([t113] : List Int) := (RpA.cons (Rp.int t113) RpA.nil)
      obtain ⟨t133, hb134, hm22⟩ := bnd hm22
      obtain ⟨hk135, rfl⟩ := conL_ok hb134
      have hz138 : (([(V.int t64)] ++ (cutV ws79 none (some (6 : Int)))) ++ [(V.int t113)]).length ≤ sizeLine := by rw [List.length_append, RL.len hA101, RL.len hA132]; exact hk135
      refine ⟨p98, p118, ([(V.int t64)] ++ (cutV ws79 none (some (6 : Int)))), [(V.int t113)], rfl, rfl, ow129.sq, ow131.sq, (by rw [RL.len hA101, RL.len hA132]; exact hk135), fun p136 np137 => ?_⟩
      have hA139 := RL.app hA101 hA132
      have ne141 := ow126.ne np137
      have ne142 := ow127.ne np137
      have ne143 := ow128.ne np137
      have ne144 := ow129.ne np137
      have ne145 := ow131.ne np137
      have nb146 := hB130.nb np137
      have g147 := g125.own (o := (.lst (([(V.int t64)] ++ (cutV ws79 none (some (6 : Int)))) ++ [(V.int t113)]))) np137
      have ow148 := ow126.own (o := (.lst (([(V.int t64)] ++ (cutV ws79 none (some (6 : Int)))) ++ [(V.int t113)]))) np137
      have ow149 := ow127.own (o := (.lst (([(V.int t64)] ++ (cutV ws79 none (some (6 : Int)))) ++ [(V.int t113)]))) np137
      have ow150 := ow128.own (o := (.lst (([(V.int t64)] ++ (cutV ws79 none (some (6 : Int)))) ++ [(V.int t113)]))) np137
      have ow151 := ow129.own (o := (.lst (([(V.int t64)] ++ (cutV ws79 none (some (6 : Int)))) ++ [(V.int t113)]))) np137
      have ow152 := ow131.own (o := (.lst (([(V.int t64)] ++ (cutV ws79 none (some (6 : Int)))) ++ [(V.int t113)]))) np137
      have hB153 := hB130.own (o := (.lst (([(V.int t64)] ++ (cutV ws79 none (some (6 : Int)))) ++ [(V.int t113)]))) np137
      have ow154 : Ow H0 F38 (upd (upd (upd (upd (upd H39 p69 (.lst [(V.int t64)])) p84 (.lst (cutV ws79 none (some (6 : Int))))) p98 (.lst ([(V.int t64)] ++ (cutV ws79 none (some (6 : Int)))))) p118 (.lst [(V.int t113)])) p136 (.lst (([(V.int t64)] ++ (cutV ws79 none (some (6 : Int)))) ++ [(V.int t113)]))) p136 (([(V.int t64)] ++ (cutV ws79 none (some (6 : Int)))) ++ [(V.int t113)]) := Ow.new g125 np137
      have sm155 := ow154.sf
      have g156 := g147.fz ow154
      have ow157 : Ow H0 (upd F38 p136 (.lst (([(V.int t64)] ++ (cutV ws79 none (some (6 : Int)))) ++ [(V.int t113)]))) (upd (upd (upd (upd (upd H39 p69 (.lst [(V.int t64)])) p84 (.lst (cutV ws79 none (some (6 : Int))))) p98 (.lst ([(V.int t64)] ++ (cutV ws79 none (some (6 : Int)))))) p118 (.lst [(V.int t113)])) p136 (.lst (([(V.int t64)] ++ (cutV ws79 none (some (6 : Int)))) ++ [(V.int t113)]))) p42 ws43 := ow148.fz ne141
      have ow158 : Ow H0 (upd F38 p136 (.lst (([(V.int t64)] ++ (cutV ws79 none (some (6 : Int)))) ++ [(V.int t113)]))) (upd (upd (upd (upd (upd H39 p69 (.lst [(V.int t64)])) p84 (.lst (cutV ws79 none (some (6 : Int))))) p98 (.lst ([(V.int t64)] ++ (cutV ws79 none (some (6 : Int)))))) p118 (.lst [(V.int t113)])) p136 (.lst (([(V.int t64)] ++ (cutV ws79 none (some (6 : Int)))) ++ [(V.int t113)]))) p69 [(V.int t64)] := ow149.fz ne142
      have ow159 : Ow H0 (upd F38 p136 (.lst (([(V.int t64)] ++ (cutV ws79 none (some (6 : Int)))) ++ [(V.int t113)]))) (upd (upd (upd (upd (upd H39 p69 (.lst [(V.int t64)])) p84 (.lst (cutV ws79 none (some (6 : Int))))) p98 (.lst ([(V.int t64)] ++ (cutV ws79 none (some (6 : Int)))))) p118 (.lst [(V.int t113)])) p136 (.lst (([(V.int t64)] ++ (cutV ws79 none (some (6 : Int)))) ++ [(V.int t113)]))) p84 (cutV ws79 none (some (6 : Int))) := ow150.fz ne143
      have ow160 : Ow H0 (upd F38 p136 (.lst (([(V.int t64)] ++ (cutV ws79 none (some (6 : Int)))) ++ [(V.int t113)]))) (upd (upd (upd (upd (upd H39 p69 (.lst [(V.int t64)])) p84 (.lst (cutV ws79 none (some (6 : Int))))) p98 (.lst ([(V.int t64)] ++ (cutV ws79 none (some (6 : Int)))))) p118 (.lst [(V.int t113)])) p136 (.lst (([(V.int t64)] ++ (cutV ws79 none (some (6 : Int)))) ++ [(V.int t113)]))) p98 ([(V.int t64)] ++ (cutV ws79 none (some (6 : Int)))) := ow151.fz ne144
      have ow161 : Ow H0 (upd F38 p136 (.lst (([(V.int t64)] ++ (cutV ws79 none (some (6 : Int)))) ++ [(V.int t113)]))) (upd (upd (upd (upd (upd H39 p69 (.lst [(V.int t64)])) p84 (.lst (cutV ws79 none (some (6 : Int))))) p98 (.lst ([(V.int t64)] ++ (cutV ws79 none (some (6 : Int)))))) p118 (.lst [(V.int t113)])) p136 (.lst (([(V.int t64)] ++ (cutV ws79 none (some (6 : Int)))) ++ [(V.int t113)]))) p118 [(V.int t113)] := ow152.fz ne145
      have hB162 : BagAt (upd F38 p136 (.lst (([(V.int t64)] ++ (cutV ws79 none (some (6 : Int)))) ++ [(V.int t113)]))) (upd (upd (upd (upd (upd H39 p69 (.lst [(V.int t64)])) p84 (.lst (cutV ws79 none (some (6 : Int))))) p98 (.lst ([(V.int t64)] ++ (cutV ws79 none (some (6 : Int)))))) p118 (.lst [(V.int t113)])) p136 (.lst (([(V.int t64)] ++ (cutV ws79 none (some (6 : Int)))) ++ [(V.int t113)]))) B C b36 := hB153.fz nb146
      have r163 : R K (upd F38 p136 (.lst (([(V.int t64)] ++ (cutV ws79 none (some (6 : Int)))) ++ [(V.int t113)]))) (.ref p136) ((([t64] : List Int) ++ (cutL r25.e none (some (6 : Int)))) ++ ([t113] : List Int)) := R.mkl fzS hz138 (RpA.up hA139 sm155)
      refine ⟨(by show 4 ≤ sizeLine; decide), fun p164 np165 => ?_⟩
      have ne166 := ow157.ne np165
      have ne167 := ow158.ne np165
      have ne168 := ow159.ne np165
      have ne169 := ow160.ne np165
      have ne170 := ow161.ne np165
      have nb171 := hB162.nb np165
      have sm172 := same_new (o := (.tup [(V.int r25.a), (V.int r25.b), v58, (V.ref p136)])) (g156.noneF np165)
      have g173 := g156.frz (o := (.tup [(V.int r25.a), (V.int r25.b), v58, (V.ref p136)])) np165
      have ow174 := ow157.frz (o := (.tup [(V.int r25.a), (V.int r25.b), v58, (V.ref p136)])) np165
      have ow175 := ow158.frz (o := (.tup [(V.int r25.a), (V.int r25.b), v58, (V.ref p136)])) np165
      have ow176 := ow159.frz (o := (.tup [(V.int r25.a), (V.int r25.b), v58, (V.ref p136)])) np165
      have ow177 := ow160.frz (o := (.tup [(V.int r25.a), (V.int r25.b), v58, (V.ref p136)])) np165
      have ow178 := ow161.frz (o := (.tup [(V.int r25.a), (V.int r25.b), v58, (V.ref p136)])) np165
      have hB179 := hB162.frz (o := (.tup [(V.int r25.a), (V.int r25.b), v58, (V.ref p136)])) np165
      have r180 : R K (upd (upd F38 p136 (.lst (([(V.int t64)] ++ (cutV ws79 none (some (6 : Int)))) ++ [(V.int t113)]))) p164 (.tup [(V.int r25.a), (V.int r25.b), v58, (V.ref p136)])) (.ref p164) ((T4.mk r25.a r25.b r25.c ((([t64] : List Int) ++ (cutL r25.e none (some (6 : Int)))) ++ ([t113] : List Int))) : (T4 Int Int (List (Int × Int)) (List Int))) := R.mk4 fzT (Rp.int r25.a) (Rp.int r25.b) (r62.up (Same.trans g40.ff (Same.trans sm155 sm172))) (r163.up sm172)
      obtain ⟨y_town181, hb182, hm22⟩ := bnd hm22
      have hx183 : (T4.mk r25.a r25.b r25.c ((([t64] : List Int) ++ (cutL r25.e none (some (6 : Int)))) ++ ([t113] : List Int))) = y_town181 := sjoin hb182
      have r184 : R K _ (V.ref p164) y_town181 := hx183 ▸ (r180 : R K _ (V.ref p164) (T4.mk r25.a r25.b r25.c ((([t64] : List Int) ++ (cutL r25.e none (some (6 : Int)))) ++ ([t113] : List Int))))
      refine p_name ?_
      refine p_nx ?_
      refine p_seq ?_
      refine p_asg ?_
      obtain ⟨r185, b186, hb187, hm22⟩ := bnd2 hm22
      refine ⟨(V.ref B), rfl, (V.ref p164), rfl, (upd (upd F38 p136 (.lst (([(V.int t64)] ++ (cutV ws79 none (some (6 : Int)))) ++ [(V.int t113)]))) p164 (.tup [(V.int r25.a), (V.int r25.b), v58, (V.ref p136)])), B, C, b36, (V.ref p164), y_town181, r185, b186, rfl, g173.fh, hB179, r184, hb187, fun p192 ws193 F188 H189 g190 hB191 np194 h195 nF196 hl197 hA198 => ?_⟩
      have ne199 := ow174.ne np194
      have ne200 := ow175.ne np194
      have ne201 := ow176.ne np194
      have ne202 := ow177.ne np194
      have ne203 := ow178.ne np194
      have nb204 := hB179.nb np194
      have n0205 := g173.none0 np194
      have g206 := Gr.trans g173 g190
      have ow207 := ow174.gr g190 nb49
      have ow208 := ow175.gr g190 nb72
      have ow209 := ow176.gr g190 nb89
      have ow210 := ow177.gr g190 nb106
      have ow211 := ow178.gr g190 nb124
      have ow212 : Ow H0 F188 H189 p192 ws193 := ⟨h195, nF196, n0205⟩
      refine p_name ?_
      refine p_nx ?_
      refine p_seq ?_
      refine p_asg ?_
      obtain ⟨r213, b214, hb215, hm22⟩ := bnd2 hm22
      refine ⟨(V.ref B), rfl, (V.ref p164), rfl, (V.ref p42), rfl, F188, B, C, b186, (V.ref p164), y_town181, p42, ws43, r35, r213, b214, rfl, g206.fh, hB191, (r184.up g190.ff), ow207.sq, hl47, (hA48.up (Same.trans sm155 (Same.trans sm172 g190.ff))), (fun _ _ g_ => g_.seq nb49 ow207.sq), hb215, fun v220 F216 H217 g218 hB219 r221 => ?_⟩
      have g222 := Gr.trans g206 g218
      have ow223 := ow207.gr g218 nb49
      have ow224 := ow208.gr g218 nb72
      have ow225 := ow209.gr g218 nb89
      have ow226 := ow210.gr g218 nb106
      have ow227 := ow211.gr g218 nb124
      have ow228 := ow212.gr g218 nb204
      refine p_name ?_
      refine p_nx ?_
      refine p_for ?_
      refine ⟨_, rfl, (by decide), (by decide), ?_⟩
      have sm229 := ow228.sf
      have g230 := g222.fz ow228
      have ow231 : Ow H0 (upd F216 p192 (.lst ws193)) H217 p42 ws43 := ow223.fz ne199
      have ow232 : Ow H0 (upd F216 p192 (.lst ws193)) H217 p69 [(V.int t64)] := ow224.fz ne200
      have ow233 : Ow H0 (upd F216 p192 (.lst ws193)) H217 p84 (cutV ws79 none (some (6 : Int))) := ow225.fz ne201
      have ow234 : Ow H0 (upd F216 p192 (.lst ws193)) H217 p98 ([(V.int t64)] ++ (cutV ws79 none (some (6 : Int)))) := ow226.fz ne202
      have ow235 : Ow H0 (upd F216 p192 (.lst ws193)) H217 p118 [(V.int t113)] := ow227.fz ne203
      have hB236 : BagAt (upd F216 p192 (.lst ws193)) H217 B C b214 := hB219.fz nb204
      have r237 : R K (upd F216 p192 (.lst ws193)) (.ref p192) r185 := R.mkl fzS hl197 (RpA.up (hA198.up g218.ff) sm229)
      have sm238 := ow231.sf
      have g239 := g230.fz ow231
      have ow240 : Ow H0 (upd (upd F216 p192 (.lst ws193)) p42 (.lst ws43)) H217 p69 [(V.int t64)] := ow232.fz (Ne.symm ne71)
      have ow241 : Ow H0 (upd (upd F216 p192 (.lst ws193)) p42 (.lst ws43)) H217 p84 (cutV ws79 none (some (6 : Int))) := ow233.fz (Ne.symm ne87)
      have ow242 : Ow H0 (upd (upd F216 p192 (.lst ws193)) p42 (.lst ws43)) H217 p98 ([(V.int t64)] ++ (cutV ws79 none (some (6 : Int)))) := ow234.fz (Ne.symm ne103)
      have ow243 : Ow H0 (upd (upd F216 p192 (.lst ws193)) p42 (.lst ws43)) H217 p118 [(V.int t113)] := ow235.fz (Ne.symm ne120)
      have hB244 : BagAt (upd (upd F216 p192 (.lst ws193)) p42 (.lst ws43)) H217 B C b214 := hB236.fz nb49
      have r245 : R K (upd (upd F216 p192 (.lst ws193)) p42 (.lst ws43)) (.ref p42) r35 := R.mkl fzS hl47 (RpA.up (hA48.up (Same.trans sm155 (Same.trans sm172 (Same.trans g190.ff (Same.trans g218.ff sm229))))) sm238)
      obtain ⟨l249, ht250, hm22⟩ := bndL3 hm22
      refine for_range (lo := (0 : Int)) (n := (4 : Nat)) (fun i σ' H' => ∃ (F' : Hp) (y_torn : (List Int)) (v_y_torn : V) (y_homes : (List Int)) (v_y_homes : V) (o_y_k : Option V) (o_y_due : Option V) (o_y_kept : Option V) (o_y_told : Option V) (b : Bag), σ' = [(some (V.ref a_)), (some (V.ref B)), (some (V.int ((0 : Int) + ((i4 : Nat) : Int)))), (some (V.ref p164)), (some v_y_homes), (some v_y_torn), (some v220), o_y_k, o_y_due, o_y_kept, o_y_told] ∧ Gr (Bc B C) F0 H0 F' H' ∧ Same (upd (upd F216 p192 (.lst ws193)) p42 (.lst ws43)) F' ∧ R K F' v_y_torn y_torn ∧ R K F' v_y_homes y_homes ∧ BagAt F' H' B C b ∧ m_law_l2 y_town181 r213 ((rangeL (0 : Int) 4).drop i) y_torn y_homes b = some l249) ?_ ?_ ?_
      · exact ⟨(upd (upd F216 p192 (.lst ws193)) p42 (.lst ws43)), r185, (V.ref p192), r35, (V.ref p42), o_y_k14, o_y_due15, o_y_kept16, o_y_told17, b214, rfl, g239, (Same.refl _), (r237.up sm238), r245, hB244, ht250⟩
      · intro i251 σ' H253 hx252 hP
        obtain ⟨F255, y_torn256, v_y_torn257, y_homes258, v_y_homes259, o_y_k260, o_y_due261, o_y_kept262, o_y_told263, b264, rfl, g265, sm266, r_y_torn267, r_y_homes268, hB269, hm270⟩ := hP
        have he272 := rangeL_at (lo := (0 : Int)) hx252
        rw [drop_at he272, m_law_l2.eq_2] at hm270
        refine p_name ?_
        refine p_seq ?_
        refine p_asg ?_
        obtain ⟨p273, ws274, ev275, hS276, hl277, hA278⟩ := R.lst_v r_y_torn267
        obtain ⟨p279, ws280, ev281, hS282, hl283, hA284⟩ := R.lst_v r_y_homes268
        obtain ⟨r285, hb286, hm270⟩ := bnd hm270
        refine ⟨(V.ref p164), rfl, v_y_torn257, rfl, v220, rfl, v_y_homes259, rfl, F255, (V.ref p164), y_town181, p273, ws274, y_torn256, (0 : Int), v220, r213, p279, ws280, y_homes258, r285, (by (rw [ev275, ev281]) <;> rfl), g265.fh, (r184.up (Same.trans g190.ff (Same.trans g218.ff (Same.trans sm229 (Same.trans sm238 sm266))))), (Same.seq g265.fh hS276), hl277, hA278, id, (r221.up (Same.trans sm229 (Same.trans sm238 sm266))), (Same.seq g265.fh hS282), hl283, hA284, id, hb286, fun v290 F287 H288 g289 r291 => ?_⟩
        have g292 := Gr.trans g265 (Gr.of0 g289)
        have hB293 := hB269.gr0 g289
        refine p_name ?_
        refine p_nx ?_
        refine p_seq ?_
        refine p_asg ?_
        refine ⟨(V.ref p164), rfl, F287, (V.ref p164), y_town181, rfl, g292.fh, (r184.up (Same.trans g190.ff (Same.trans g218.ff (Same.trans sm229 (Same.trans sm238 (Same.trans sm266 g289.ff)))))), fun v298 F295 H296 g297 r299 => ?_⟩
        have g300 := Gr.trans g292 (Gr.of0 g297)
        have hB301 := hB293.gr0 g297
        refine ⟨v_y_torn257, rfl, p273, ws274, (by rw [ev275]), (.inl (Same.seq g300.fh (Same.seq (Same.trans g289.ff g297.ff) hS276))), fun p302 np303 => ?_⟩
        have hA304 := (hA278.up (Same.trans g289.ff g297.ff))
        have nb305 := hB301.nb np303
        have g306 := g300.own (o := (.lst ws274)) np303
        have hB307 := hB301.own (o := (.lst ws274)) np303
        have ow308 : Ow H0 F295 (upd H296 p302 (.lst ws274)) p302 ws274 := Ow.new g300 np303
        refine ⟨v_y_homes259, rfl, p279, ws280, (by rw [ev281]), (.inl (Same.seq g306.fh (Same.seq (Same.trans g289.ff g297.ff) hS282))), fun p309 np310 => ?_⟩
        have hA311 := (hA284.up (Same.trans g289.ff g297.ff))
        have ne312 := ow308.ne np310
        have nb313 := hB307.nb np310
        have g314 := g306.own (o := (.lst ws280)) np310
        have ow315 := ow308.own (o := (.lst ws280)) np310
        have hB316 := hB307.own (o := (.lst ws280)) np310
        have ow317 : Ow H0 F295 (upd (upd H296 p302 (.lst ws274)) p309 (.lst ws280)) p309 ws280 := Ow.new g306 np310
        have sm318 := ow315.sf
        have g319 := g314.fz ow315
        have ow320 : Ow H0 (upd F295 p302 (.lst ws274)) (upd (upd H296 p302 (.lst ws274)) p309 (.lst ws280)) p309 ws280 := ow317.fz (Ne.symm ne312)
        have hB321 : BagAt (upd F295 p302 (.lst ws274)) (upd (upd H296 p302 (.lst ws274)) p309 (.lst ws280)) B C b264 := hB316.fz nb305
        have r322 : R K (upd F295 p302 (.lst ws274)) (.ref p302) y_torn256 := R.mkl fzS hl277 (RpA.up hA304 sm318)
        have sm323 := ow320.sf
        have g324 := g319.fz ow320
        have hB325 : BagAt (upd (upd F295 p302 (.lst ws274)) p309 (.lst ws280)) (upd (upd H296 p302 (.lst ws274)) p309 (.lst ws280)) B C b264 := hB321.fz nb313
        have r326 : R K (upd (upd F295 p302 (.lst ws274)) p309 (.lst ws280)) (.ref p309) y_homes258 := R.mkl fzS hl283 (RpA.up (hA311.up sm318) sm323)
        refine ⟨(by show 3 ≤ sizeLine; decide), fun p327 np328 => ?_⟩
        have nb329 := hB325.nb np328
        have sm330 := same_new (o := (.tup [v298, (V.ref p302), (V.ref p309)])) (g324.noneF np328)
        have g331 := g324.frz (o := (.tup [v298, (V.ref p302), (V.ref p309)])) np328
        have hB332 := hB325.frz (o := (.tup [v298, (V.ref p302), (V.ref p309)])) np328
        have r333 : R K (upd (upd (upd F295 p302 (.lst ws274)) p309 (.lst ws280)) p327 (.tup [v298, (V.ref p302), (V.ref p309)])) (.ref p327) ((T3.mk (m_l_copied y_town181) y_torn256 y_homes258) : (T3 (T4 Int Int (List (Int × Int)) (List Int)) (List Int) (List Int))) := R.mk3 fzT (r299.up (Same.trans sm318 (Same.trans sm323 sm330))) (r322.up (Same.trans sm323 sm330)) (r326.up sm330)
        obtain ⟨y_kept334, hb335, hm270⟩ := bnd hm270
        have hx336 : (T3.mk (m_l_copied y_town181) y_torn256 y_homes258) = y_kept334 := sjoin hb335
        have r337 : R K _ (V.ref p327) y_kept334 := hx336 ▸ (r333 : R K _ (V.ref p327) (T3.mk (m_l_copied y_town181) y_torn256 y_homes258))
        refine p_name ?_
        refine p_nx ?_
        refine p_seq ?_
        refine p_if ?_
        obtain ⟨r338, hb339, hm270⟩ := bnd hm270
        refine ⟨(V.ref p164), rfl, v_y_torn257, rfl, v220, rfl, v_y_homes259, rfl, (upd (upd (upd F295 p302 (.lst ws274)) p309 (.lst ws280)) p327 (.tup [v298, (V.ref p302), (V.ref p309)])), (V.ref p164), y_town181, p273, ws274, y_torn256, (0 : Int), v220, r213, p279, ws280, y_homes258, r338, (by (rw [ev275, ev281]) <;> rfl), g331.fh, (r184.up (Same.trans g190.ff (Same.trans g218.ff (Same.trans sm229 (Same.trans sm238 (Same.trans sm266 (Same.trans g289.ff (Same.trans g297.ff (Same.trans sm318 (Same.trans sm323 sm330)))))))))), (Same.seq g331.fh (Same.seq (Same.trans g289.ff (Same.trans g297.ff (Same.trans sm318 (Same.trans sm323 sm330)))) hS276)), hl277, (hA278.up (Same.trans g289.ff (Same.trans g297.ff (Same.trans sm318 (Same.trans sm323 sm330))))), id, (r221.up (Same.trans sm229 (Same.trans sm238 (Same.trans sm266 (Same.trans g289.ff (Same.trans g297.ff (Same.trans sm318 (Same.trans sm323 sm330)))))))), (Same.seq g331.fh (Same.seq (Same.trans g289.ff (Same.trans g297.ff (Same.trans sm318 (Same.trans sm323 sm330)))) hS282)), hl283, (hA284.up (Same.trans g289.ff (Same.trans g297.ff (Same.trans sm318 (Same.trans sm323 sm330))))), id, hb339, fun v343 F340 H341 g342 r344 => ?_⟩
        have g345 := Gr.trans g331 (Gr.of0 g342)
        have hB346 := hB332.gr0 g342
        have rH347 : R K H341 v343 r338 := (Rp.up r344 g345.fh)
        have rH348 : R K H341 v290 r285 := (Rp.up (r291.up (Same.trans g297.ff (Same.trans sm318 (Same.trans sm323 (Same.trans sm330 g342.ff))))) g345.fh)
        obtain ⟨r349, hb351, hm270⟩ := bnd hm270
        obtain ⟨hxy350, rfl⟩ := alike_ok hb351
        refine ⟨v290, rfl, v343, v290, _, rfl, rH347, (R.of_eq hxy350 rH348), (Nat.le_trans (Dep.le (r338 : (Option ((T1 Str) ⊕ (Str × Int))))) (by decide)), fun F352 H353 g354 => ?_⟩
        have g355 := Gr.apart g345 g354
        have hB356 := hB346.apart g354
        refine ⟨_, rfl, (iteB (fun hc => ?_) (fun hc => ?_))⟩
        · have hm270 := ifT hc hm270
          refine p_ret ?_
          obtain rfl := sjoin hm270
          have hm22 := bret hm22
          obtain rfl := sjoin hm22
          have hm := bret hm
          obtain ⟨he357, rfl⟩ := pjoin hm
          exact absurd he357 (by decide)
        · have hm270 := ifF hc hm270
          refine p_next ?_
          refine p_nx ?_
          refine p_seq ?_
          refine p_asg ?_
          obtain ⟨r358, hb359, hm270⟩ := bnd hm270
          refine ⟨v_y_homes259, rfl, v220, rfl, v_y_torn257, rfl, (V.ref p164), rfl, F340, (V.ref p164), y_town181, p273, ws274, y_torn256, (0 : Int), v220, r213, p279, ws280, y_homes258, r358, (by (rw [ev275, ev281]) <;> rfl), g355.fh, (r184.up (Same.trans g190.ff (Same.trans g218.ff (Same.trans sm229 (Same.trans sm238 (Same.trans sm266 (Same.trans g289.ff (Same.trans g297.ff (Same.trans sm318 (Same.trans sm323 (Same.trans sm330 g342.ff))))))))))), (Same.seq g355.fh (Same.seq (Same.trans g289.ff (Same.trans g297.ff (Same.trans sm318 (Same.trans sm323 (Same.trans sm330 g342.ff))))) hS276)), hl277, (hA278.up (Same.trans g289.ff (Same.trans g297.ff (Same.trans sm318 (Same.trans sm323 (Same.trans sm330 g342.ff)))))), id, (r221.up (Same.trans sm229 (Same.trans sm238 (Same.trans sm266 (Same.trans g289.ff (Same.trans g297.ff (Same.trans sm318 (Same.trans sm323 (Same.trans sm330 g342.ff))))))))), (Same.seq g355.fh (Same.seq (Same.trans g289.ff (Same.trans g297.ff (Same.trans sm318 (Same.trans sm323 (Same.trans sm330 g342.ff))))) hS282)), hl283, (hA284.up (Same.trans g289.ff (Same.trans g297.ff (Same.trans sm318 (Same.trans sm323 (Same.trans sm330 g342.ff)))))), id, hb359, fun v363 F360 H361 g362 r364 => ?_⟩
          have g365 := Gr.trans g355 (Gr.of0 g362)
          have hB366 := hB356.gr0 g362
          refine p_name ?_
          refine p_nx ?_
          refine p_seq ?_
          refine p_if ?_
          have rH367 : R K H361 v363 r358 := (Rp.up r364 g365.fh)
          have rH368 : R K H361 v290 r285 := (Rp.up (r291.up (Same.trans g297.ff (Same.trans sm318 (Same.trans sm323 (Same.trans sm330 (Same.trans g342.ff g362.ff)))))) g365.fh)
          obtain ⟨r369, hb371, hm270⟩ := bnd hm270
          obtain ⟨hxy370, rfl⟩ := alike_ok hb371
          refine ⟨v363, rfl, v290, rfl, v363, v290, _, rfl, rH367, (R.of_eq hxy370 rH368), (Nat.le_trans (Dep.le (r358 : (Option ((T1 Str) ⊕ (Str × Int))))) (by decide)), fun F372 H373 g374 => ?_⟩
          have g375 := Gr.apart g365 g374
          have hB376 := hB366.apart g374
          refine ⟨_, rfl, ?_⟩
          refine orJT (M := M0) (F := F360) (c := ((!true) || (!eqD (T3.mk y_town181 y_torn256 y_homes258) y_kept334))) (P := fun _ _ => True) (fun ha => ?_) (fun ha => ⟨(orTt ha), trivial⟩) g375.fh ?_
          · intro Q380 q381
            refine ⟨(V.ref p164), rfl, v_y_torn257, rfl, v_y_homes259, rfl, (by show 3 ≤ sizeLine; decide), fun p382 np383 => ?_⟩
            have nb384 := hB376.nb np383
            have sm385 := same_new (o := (.tup [(V.ref p164), v_y_torn257, v_y_homes259])) (g375.noneF np383)
            have g386 := g375.frz (o := (.tup [(V.ref p164), v_y_torn257, v_y_homes259])) np383
            have g387 := (Gr.refl (M := M0) g375.fh).frz (o := (.tup [(V.ref p164), v_y_torn257, v_y_homes259])) np383
            have hB388 := hB376.frz (o := (.tup [(V.ref p164), v_y_torn257, v_y_homes259])) np383
            have r389 : R K (upd F360 p382 (.tup [(V.ref p164), v_y_torn257, v_y_homes259])) (.ref p382) ((T3.mk y_town181 y_torn256 y_homes258) : (T3 (T4 Int Int (List (Int × Int)) (List Int)) (List Int) (List Int))) := R.mk3 fzT (r184.up (Same.trans g190.ff (Same.trans g218.ff (Same.trans sm229 (Same.trans sm238 (Same.trans sm266 (Same.trans g289.ff (Same.trans g297.ff (Same.trans sm318 (Same.trans sm323 (Same.trans sm330 (Same.trans g342.ff (Same.trans g362.ff sm385))))))))))))) (r_y_torn267.up (Same.trans g289.ff (Same.trans g297.ff (Same.trans sm318 (Same.trans sm323 (Same.trans sm330 (Same.trans g342.ff (Same.trans g362.ff sm385)))))))) (r_y_homes268.up (Same.trans g289.ff (Same.trans g297.ff (Same.trans sm318 (Same.trans sm323 (Same.trans sm330 (Same.trans g342.ff (Same.trans g362.ff sm385))))))))
            have rH390 : R K (upd H373 p382 (.tup [(V.ref p164), v_y_torn257, v_y_homes259])) (V.ref p382) (T3.mk y_town181 y_torn256 y_homes258) := (Rp.up r389 g386.fh)
            have rH391 : R K (upd H373 p382 (.tup [(V.ref p164), v_y_torn257, v_y_homes259])) (V.ref p327) y_kept334 := (Rp.up (r337.up (Same.trans g342.ff (Same.trans g362.ff sm385))) g386.fh)
            refine ⟨(V.ref p327), rfl, _, _, (Rp.dp _ _ rH390), (Rp.dp _ _ rH391), (R.shaped rH390), (R.shaped rH391), _, rfl, (qOb ha (q381 _ _ g387 trivial))⟩
          intro F392 H393 g394 hB395
          have g396 := Gr.trans g375 (Gr.of0 g394)
          have hB397 := hB376.gr0 g394
          refine (iteB (fun hc => ?_) (fun hc => ?_))
          · have hm270 := ifT hc hm270
            refine p_ret ?_
            obtain rfl := sjoin hm270
            have hm22 := bret hm22
            obtain rfl := sjoin hm22
            have hm := bret hm
            obtain ⟨he398, rfl⟩ := pjoin hm
            exact absurd he398 (by decide)
          · have hm270 := ifF hc hm270
            refine p_next ?_
            refine p_nx ?_
            refine p_seq ?_
            refine p_asg ?_
            refine ⟨(V.int ((0 : Int) + ((i251 : Nat) : Int))), rfl, rfl, _, rfl, ?_⟩
            refine ifJ (M := M0) (F := F392) (P := fun v' F' H' => R K F' v' ((if (eqI ((0 : Int) + ((i251 : Nat) : Int)) (0 : Int)) then ([] : (List Int)) else y_torn256) : (List Int))) (fun ha => ?_) (fun ha => ?_) ?_
            · intro Q401 q402
              have ha : (eqI ((0 : Int) + ((i251 : Nat) : Int)) (0 : Int)) = true := ha
              refine ⟨(by show 0 ≤ sizeLine; decide), fun p403 np404 => ?_⟩
              have nb405 := hB397.nb np404
              have g406 := g396.own (o := (.lst [])) np404
              have g407 := (Gr.refl (M := M0) g396.fh).own (o := (.lst [])) np404
              have hB408 := hB397.own (o := (.lst [])) np404
              have ow409 : Ow H0 F392 (upd H393 p403 (.lst [])) p403 [] := Ow.new g396 np404
              have sm411 := ow409.sf
              have g412 := g406.fz ow409
              have g413 := Gr.freeze g407 ow409.h (Gr.none0 (Gr.refl (M := M0) g396.fh) np404)
              have hB414 : BagAt (upd F392 p403 (.lst [])) (upd H393 p403 (.lst [])) B C b264 := hB408.fz nb405
              have r415 : R K (upd F392 p403 (.lst [])) (.ref p403) ([] : (List Int)) := R.mkl fzS (by show 0 ≤ sizeLine; decide) (RpA.up RpA.nil sm411)
              exact (q402 _ _ _ g413 (by rw [if_pos ha]; exact r415))
            · intro Q416 q417
              have ha : (eqI ((0 : Int) + ((i251 : Nat) : Int)) (0 : Int)) = false := ha
              refine ⟨v_y_torn257, rfl, (q417 _ _ _ (Gr.refl (M := M0) g396.fh) (by rw [if_neg (ne_true_of_eq_false ha)]; exact (r_y_torn267.up (Same.trans g289.ff (Same.trans g297.ff (Same.trans sm318 (Same.trans sm323 (Same.trans sm330 (Same.trans g342.ff (Same.trans g362.ff g394.ff))))))))))⟩
            intro v421 F418 H419 g420 hp422
            have g424 := Gr.trans g396 (Gr.of0 g420)
            have hB425 := hB397.gr0 g420
            obtain ⟨y_torn426, hb427, hm270⟩ := bnd hm270
            have hx428 : (if (eqI ((0 : Int) + ((i251 : Nat) : Int)) (0 : Int)) then ([] : (List Int)) else y_torn256) = y_torn426 := sjoin hb427
            have r429 : R K _ v421 y_torn426 := hx428 ▸ (hp422 : R K _ v421 (if (eqI ((0 : Int) + ((i251 : Nat) : Int)) (0 : Int)) then ([] : (List Int)) else y_torn256))
            refine p_name ?_
            refine p_nx ?_
            refine p_asg ?_
            obtain ⟨r430, b431, hb432, hm270⟩ := bnd2 hm270
            refine ⟨(V.ref B), rfl, (V.ref p164), rfl, v_y_homes259, rfl, F418, B, C, b264, (V.ref p164), y_town181, p279, ws280, y_homes258, r430, b431, (by (rw [ev281]) <;> rfl), g424.fh, hB425, (r184.up (Same.trans g190.ff (Same.trans g218.ff (Same.trans sm229 (Same.trans sm238 (Same.trans sm266 (Same.trans g289.ff (Same.trans g297.ff (Same.trans sm318 (Same.trans sm323 (Same.trans sm330 (Same.trans g342.ff (Same.trans g362.ff (Same.trans g394.ff g420.ff)))))))))))))), (Same.seq g424.fh (Same.seq (Same.trans g289.ff (Same.trans g297.ff (Same.trans sm318 (Same.trans sm323 (Same.trans sm330 (Same.trans g342.ff (Same.trans g362.ff (Same.trans g394.ff g420.ff)))))))) hS282)), hl283, (hA284.up (Same.trans g289.ff (Same.trans g297.ff (Same.trans sm318 (Same.trans sm323 (Same.trans sm330 (Same.trans g342.ff (Same.trans g362.ff (Same.trans g394.ff g420.ff))))))))), (fun _ _ g_ => Same.seq g_.fh (Same.seq g_.ff (Same.seq (Same.trans g289.ff (Same.trans g297.ff (Same.trans sm318 (Same.trans sm323 (Same.trans sm330 (Same.trans g342.ff (Same.trans g362.ff (Same.trans g394.ff g420.ff)))))))) hS282))), hb432, fun p437 ws438 F433 H434 g435 hB436 np439 h440 nF441 hl442 hA443 => ?_⟩
            have nb444 := hB425.nb np439
            have n0445 := g424.none0 np439
            have g446 := Gr.trans g424 g435
            have ow447 : Ow H0 F433 H434 p437 ws438 := ⟨h440, nF441, n0445⟩
            refine ⟨_, rfl, p437, ws438, rfl, ow447.sq, fun p448 np449 => ?_⟩
            have hA450 : RL K F433 (cutV ws438 none (some (40 : Int))) (cutL r430 none (some (40 : Int))) := RL.cut none (some (40 : Int)) hA443
            have ne451 := ow447.ne np449
            have nb452 := hB436.nb np449
            have g453 := g446.own (o := (.lst (cutV ws438 none (some (40 : Int))))) np449
            have ow454 := ow447.own (o := (.lst (cutV ws438 none (some (40 : Int))))) np449
            have hB455 := hB436.own (o := (.lst (cutV ws438 none (some (40 : Int))))) np449
            have ow456 : Ow H0 F433 (upd H434 p448 (.lst (cutV ws438 none (some (40 : Int))))) p448 (cutV ws438 none (some (40 : Int))) := Ow.new g446 np449
            obtain ⟨y_homes457, hb458, hm270⟩ := bnd hm270
            have hx459 : (cutL r430 none (some (40 : Int))) = y_homes457 := sjoin hb458
            have hA460 : RL K F433 (cutV ws438 none (some (40 : Int))) y_homes457 := RL.re hx459 hA450
            refine p_name ?_
            have sm461 := ow456.sf
            have g462 := g453.fz ow456
            have ow463 : Ow H0 (upd F433 p448 (.lst (cutV ws438 none (some (40 : Int))))) (upd H434 p448 (.lst (cutV ws438 none (some (40 : Int))))) p437 ws438 := ow454.fz ne451
            have hB464 : BagAt (upd F433 p448 (.lst (cutV ws438 none (some (40 : Int))))) (upd H434 p448 (.lst (cutV ws438 none (some (40 : Int))))) B C b431 := hB455.fz nb452
            have r465 : R K (upd F433 p448 (.lst (cutV ws438 none (some (40 : Int))))) (.ref p448) y_homes457 := R.mkl fzS (Nat.le_trans (cutV_length _ _ _) hl442) (RpA.up hA460 sm461)
            exact ⟨(upd F433 p448 (.lst (cutV ws438 none (some (40 : Int))))), y_torn426, v421, y_homes457, (V.ref p448), (some (V.int ((0 : Int) + ((i251 : Nat) : Int)))), (some v290), (some (V.ref p327)), (some v363), b431, rfl, g462, (Same.trans sm266 (Same.trans g289.ff (Same.trans g297.ff (Same.trans sm318 (Same.trans sm323 (Same.trans sm330 (Same.trans g342.ff (Same.trans g362.ff (Same.trans g394.ff (Same.trans g420.ff (Same.trans g435.ff sm461))))))))))), (r429.up (Same.trans g435.ff sm461)), r465, hB464, hm270⟩
      intro σ466 H467 hP
      obtain ⟨F468, y_torn469, v_y_torn470, y_homes471, v_y_homes472, o_y_k473, o_y_due474, o_y_kept475, o_y_told476, b477, rfl, g478, sm479, r_y_torn480, r_y_homes481, hB482, hm483⟩ := hP
      rw [drop_end (rangeL_len _ _).symm, m_law_l2.eq_1] at hm483
      obtain rfl := sjoin hm483
      have hm22 := lpgo hm22
      dsimp only at hm22
      exact ⟨F468, (some (V.int ((0 : Int) + ((i4 : Nat) : Int)))), (some (V.ref p164)), (some v_y_homes472), (some v_y_torn470), (some v220), o_y_k473, o_y_due474, o_y_kept475, o_y_told476, b477, rfl, g478, (Same.trans sm20 (Same.trans g30.ff (Same.trans g40.ff (Same.trans sm155 (Same.trans sm172 (Same.trans g190.ff (Same.trans g218.ff (Same.trans sm229 (Same.trans sm238 sm479))))))))), hB482, hm22⟩
    intro σ484 H485 hP
    obtain ⟨F486, o_y_turn487, o_y_town488, o_y_homes489, o_y_torn490, o_y_want491, o_y_k492, o_y_due493, o_y_kept494, o_y_told495, b496, rfl, g497, sm498, hB499, hm500⟩ := hP
    rw [drop_end (rangeL_len _ _).symm, m_law_l1.eq_1] at hm500
    obtain rfl := sjoin hm500
    have hm := bgo1 hm
    refine p_nx ?_
    refine p_ret ?_
    refine ⟨(by show 0 ≤ sizeLine; decide), fun p501 np502 => ?_⟩
    have nb503 := hB499.nb np502
    have g504 := g497.own (o := (.lst [])) np502
    have hB505 := hB499.own (o := (.lst [])) np502
    have ow506 : Ow H0 F486 (upd H485 p501 (.lst [])) p501 [] := Ow.new g497 np502
    have hA507 : RL K F486 [] ([] : List (Int × Int)) := RpA.nil
    refine ⟨(by show 1 ≤ sizeLine; decide), fun p508 np509 => ?_⟩
    have ne510 := ow506.ne np509
    have nb511 := hB505.nb np509
    have g512 := g504.own (o := (.lst [(V.int (0 : Int))])) np509
    have ow513 := ow506.own (o := (.lst [(V.int (0 : Int))])) np509
    have hB514 := hB505.own (o := (.lst [(V.int (0 : Int))])) np509
    have ow515 : Ow H0 F486 (upd (upd H485 p501 (.lst [])) p508 (.lst [(V.int (0 : Int))])) p508 [(V.int (0 : Int))] := Ow.new g504 np509
    have hA516 : RL K F486 [(V.int (0 : Int))] ([(0 : Int)] : List Int) := (RpA.cons (Rp.int (0 : Int)) RpA.nil)
    have sm517 := ow513.sf
    have g518 := g512.fz ow513
    have ow519 : Ow H0 (upd F486 p501 (.lst [])) (upd (upd H485 p501 (.lst [])) p508 (.lst [(V.int (0 : Int))])) p508 [(V.int (0 : Int))] := ow515.fz (Ne.symm ne510)
    have hB520 : BagAt (upd F486 p501 (.lst [])) (upd (upd H485 p501 (.lst [])) p508 (.lst [(V.int (0 : Int))])) B C b496 := hB514.fz nb503
    have r521 : R K (upd F486 p501 (.lst [])) (.ref p501) ([] : List (Int × Int)) := R.mkl fzS (by show 0 ≤ sizeLine; decide) (RpA.up hA507 sm517)
    have sm522 := ow519.sf
    have g523 := g518.fz ow519
    have hB524 : BagAt (upd (upd F486 p501 (.lst [])) p508 (.lst [(V.int (0 : Int))])) (upd (upd H485 p501 (.lst [])) p508 (.lst [(V.int (0 : Int))])) B C b496 := hB520.fz nb511
    have r525 : R K (upd (upd F486 p501 (.lst [])) p508 (.lst [(V.int (0 : Int))])) (.ref p508) ([(0 : Int)] : List Int) := R.mkl fzS (by show 1 ≤ sizeLine; decide) (RpA.up (hA516.up sm517) sm522)
    refine ⟨(by show 4 ≤ sizeLine; decide), fun p526 np527 => ?_⟩
    have nb528 := hB524.nb np527
    have sm529 := same_new (o := (.tup [(V.int (1 : Int)), (V.int (1 : Int)), (V.ref p501), (V.ref p508)])) (g523.noneF np527)
    have g530 := g523.frz (o := (.tup [(V.int (1 : Int)), (V.int (1 : Int)), (V.ref p501), (V.ref p508)])) np527
    have hB531 := hB524.frz (o := (.tup [(V.int (1 : Int)), (V.int (1 : Int)), (V.ref p501), (V.ref p508)])) np527
    have r532 : R K (upd (upd (upd F486 p501 (.lst [])) p508 (.lst [(V.int (0 : Int))])) p526 (.tup [(V.int (1 : Int)), (V.int (1 : Int)), (V.ref p501), (V.ref p508)])) (.ref p526) ((T4.mk (1 : Int) (1 : Int) ([] : List (Int × Int)) ([(0 : Int)] : List Int)) : (T4 Int Int (List (Int × Int)) (List Int))) := R.mk4 fzT (Rp.int (1 : Int)) (Rp.int (1 : Int)) (r521.up (Same.trans sm522 sm529)) (r525.up sm529)
    refine ⟨(by show 0 ≤ sizeLine; decide), fun p533 np534 => ?_⟩
    have nb535 := hB531.nb np534
    have g536 := g530.own (o := (.lst [])) np534
    have hB537 := hB531.own (o := (.lst [])) np534
    have ow538 : Ow H0 (upd (upd (upd F486 p501 (.lst [])) p508 (.lst [(V.int (0 : Int))])) p526 (.tup [(V.int (1 : Int)), (V.int (1 : Int)), (V.ref p501), (V.ref p508)])) (upd (upd (upd (upd H485 p501 (.lst [])) p508 (.lst [(V.int (0 : Int))])) p526 (.tup [(V.int (1 : Int)), (V.int (1 : Int)), (V.ref p501), (V.ref p508)])) p533 (.lst [])) p533 [] := Ow.new g530 np534
    have hA539 : RL K (upd (upd (upd F486 p501 (.lst [])) p508 (.lst [(V.int (0 : Int))])) p526 (.tup [(V.int (1 : Int)), (V.int (1 : Int)), (V.ref p501), (V.ref p508)])) [] ([] : List Int) := RpA.nil
    refine ⟨(by show 0 ≤ sizeLine; decide), fun p540 np541 => ?_⟩
    have ne542 := ow538.ne np541
    have nb543 := hB537.nb np541
    have sm544 := same_new (o := (.tup [])) (g536.noneF np541)
    have g545 := g536.frz (o := (.tup [])) np541
    have ow546 := ow538.frz (o := (.tup [])) np541
    have hB547 := hB537.frz (o := (.tup [])) np541
    have r548 : R K (upd (upd (upd (upd F486 p501 (.lst [])) p508 (.lst [(V.int (0 : Int))])) p526 (.tup [(V.int (1 : Int)), (V.int (1 : Int)), (V.ref p501), (V.ref p508)])) p540 (.tup [])) (V.ref p540) (VT.mk [] : (VT Int)) := (R.mkvt (xs := []) fzT (Nat.zero_le _) RpA.nil)
    refine ⟨(by show 0 ≤ sizeLine; decide), fun p549 np550 => ?_⟩
    have ne551 := ow546.ne np550
    have nb552 := hB547.nb np550
    have sm553 := same_new (o := (.tup [])) (g545.noneF np550)
    have g554 := g545.frz (o := (.tup [])) np550
    have ow555 := ow546.frz (o := (.tup [])) np550
    have hB556 := hB547.frz (o := (.tup [])) np550
    have r557 : R K (upd (upd (upd (upd (upd F486 p501 (.lst [])) p508 (.lst [(V.int (0 : Int))])) p526 (.tup [(V.int (1 : Int)), (V.int (1 : Int)), (V.ref p501), (V.ref p508)])) p540 (.tup [])) p549 (.tup [])) (V.ref p549) (VT.mk [] : (VT Int)) := (R.mkvt (xs := []) fzT (Nat.zero_le _) RpA.nil)
    refine ⟨(by show 4 ≤ sizeLine; decide), fun p558 np559 => ?_⟩
    have ne560 := ow555.ne np559
    have nb561 := hB556.nb np559
    have sm562 := same_new (o := (.tup [(V.int (0 : Int)), (V.ref p540), (V.ref p549), (V.int (0 : Int))])) (g554.noneF np559)
    have g563 := g554.frz (o := (.tup [(V.int (0 : Int)), (V.ref p540), (V.ref p549), (V.int (0 : Int))])) np559
    have ow564 := ow555.frz (o := (.tup [(V.int (0 : Int)), (V.ref p540), (V.ref p549), (V.int (0 : Int))])) np559
    have hB565 := hB556.frz (o := (.tup [(V.int (0 : Int)), (V.ref p540), (V.ref p549), (V.int (0 : Int))])) np559
    have r566 : R K (upd (upd (upd (upd (upd (upd F486 p501 (.lst [])) p508 (.lst [(V.int (0 : Int))])) p526 (.tup [(V.int (1 : Int)), (V.int (1 : Int)), (V.ref p501), (V.ref p508)])) p540 (.tup [])) p549 (.tup [])) p558 (.tup [(V.int (0 : Int)), (V.ref p540), (V.ref p549), (V.int (0 : Int))])) (.ref p558) ((T4.mk (0 : Int) (VT.mk [] : (VT Int)) (VT.mk [] : (VT Int)) (some (0 : Int))) : (T4 Int (VT Int) (VT Int) (Option Int))) := R.mk4 fzT (Rp.int (0 : Int)) (r548.up (Same.trans sm553 sm562)) (r557.up sm562) (Rp.int (0 : Int))
    refine ⟨(by show 0 ≤ sizeLine; decide), fun p567 np568 => ?_⟩
    have ne569 := ow564.ne np568
    have nb570 := hB565.nb np568
    have g571 := g563.own (o := (.lst [])) np568
    have ow572 := ow564.own (o := (.lst [])) np568
    have hB573 := hB565.own (o := (.lst [])) np568
    have ow574 : Ow H0 (upd (upd (upd (upd (upd (upd F486 p501 (.lst [])) p508 (.lst [(V.int (0 : Int))])) p526 (.tup [(V.int (1 : Int)), (V.int (1 : Int)), (V.ref p501), (V.ref p508)])) p540 (.tup [])) p549 (.tup [])) p558 (.tup [(V.int (0 : Int)), (V.ref p540), (V.ref p549), (V.int (0 : Int))])) (upd (upd (upd (upd (upd (upd (upd (upd H485 p501 (.lst [])) p508 (.lst [(V.int (0 : Int))])) p526 (.tup [(V.int (1 : Int)), (V.int (1 : Int)), (V.ref p501), (V.ref p508)])) p533 (.lst [])) p540 (.tup [])) p549 (.tup [])) p558 (.tup [(V.int (0 : Int)), (V.ref p540), (V.ref p549), (V.int (0 : Int))])) p567 (.lst [])) p567 [] := Ow.new g563 np568
    have hA575 : RL K (upd (upd (upd (upd (upd (upd F486 p501 (.lst [])) p508 (.lst [(V.int (0 : Int))])) p526 (.tup [(V.int (1 : Int)), (V.int (1 : Int)), (V.ref p501), (V.ref p508)])) p540 (.tup [])) p549 (.tup [])) p558 (.tup [(V.int (0 : Int)), (V.ref p540), (V.ref p549), (V.int (0 : Int))])) [] ([] : List Int) := RpA.nil
    obtain ⟨r576, hb577, hm⟩ := bnd hm
    refine ⟨(upd (upd (upd (upd (upd (upd F486 p501 (.lst [])) p508 (.lst [(V.int (0 : Int))])) p526 (.tup [(V.int (1 : Int)), (V.int (1 : Int)), (V.ref p501), (V.ref p508)])) p540 (.tup [])) p549 (.tup [])) p558 (.tup [(V.int (0 : Int)), (V.ref p540), (V.ref p549), (V.int (0 : Int))])), (V.ref p526), (T4.mk (1 : Int) (1 : Int) ([] : List (Int × Int)) ([(0 : Int)] : List Int)), p533, [], ([] : List Int), (0 : Int), (V.ref p558), (T4.mk (0 : Int) (VT.mk [] : (VT Int)) (VT.mk [] : (VT Int)) (some (0 : Int))), p567, [], ([] : List Int), r576, rfl, g571.fh, (r532.up (Same.trans sm544 (Same.trans sm553 sm562))), ow572.sq, (by show 0 ≤ sizeLine; decide), (hA539.up (Same.trans sm544 (Same.trans sm553 sm562))), id, r566, ow574.sq, (by show 0 ≤ sizeLine; decide), hA575, id, hb577, fun v581 F578 H579 g580 r582 => ?_⟩
    have g583 := Gr.trans g571 (Gr.of0 g580)
    have ow584 := ow572.gr0 g580
    have ow585 := ow574.gr0 g580
    have hB586 := hB573.gr0 g580
    refine ⟨(by show 1 ≤ sizeLine; decide), fun p587 np588 => ?_⟩
    have ne589 := ow584.ne np588
    have ne590 := ow585.ne np588
    have nb591 := hB586.nb np588
    have sm592 := same_new (o := (.tup [(V.str ("start" : Str))])) (g583.noneF np588)
    have g593 := g583.frz (o := (.tup [(V.str ("start" : Str))])) np588
    have ow594 := ow584.frz (o := (.tup [(V.str ("start" : Str))])) np588
    have ow595 := ow585.frz (o := (.tup [(V.str ("start" : Str))])) np588
    have hB596 := hB586.frz (o := (.tup [(V.str ("start" : Str))])) np588
    have r597 : R K (upd F578 p587 (.tup [(V.str ("start" : Str))])) (.ref p587) ((T1.mk ("start" : Str)) : (T1 Str)) := R.mk1 fzT (Rp.str ("start" : Str) ⟨by decide +kernel, by decide +kernel⟩)
    have r598 : R K (upd F578 p587 (.tup [(V.str ("start" : Str))])) (V.ref p587) (some (((Sum.inl) (T1.mk ("start" : Str))) : ((T1 Str) ⊕ (Str × Int)))) := r597
    have rH599 : R K (upd H579 p587 (.tup [(V.str ("start" : Str))])) v581 r576 := (Rp.up (r582.up sm592) g593.fh)
    have rH600 : R K (upd H579 p587 (.tup [(V.str ("start" : Str))])) (V.ref p587) (some (((Sum.inl) (T1.mk ("start" : Str))) : ((T1 Str) ⊕ (Str × Int)))) := (Rp.up r598 g593.fh)
    obtain ⟨he601, rfl⟩ := pjoin hm
    refine ⟨_, _, (Rp.dp _ _ rH599), (Rp.dp _ _ rH600), (R.shaped rH599), (R.shaped rH600), (retQ (e := (eqD r576 (some (((Sum.inl) (T1.mk ("start" : Str))) : ((T1 Str) ⊕ (Str × Int)))))) he601 (hQ _ _ g593 hB596))⟩
end K22
namespace K22
open PySem PySem.Spec PyProof.Rows L2 TL G
theorem bits_log {n : Int} (h0 : 0 < n) (h1 : n < 18446744073709551616) : Builtin.Int.intBits n < 9000 := by
  have h2 : n.natAbs < 2 ^ 64 := by omega
  have h3 : n.natAbs ≠ 0 := by omega
  have h4 := (Nat.log2_lt h3).mpr h2
  unfold Builtin.Int.intBits
  first | (split <;> omega) | omega | (simp; omega)
theorem stir_in {z c : Int} (h0 : 0 ≤ z) (h1 : z < 2147483648) : ∀ n, 0 ≤ (stirN z c n).1 ∧ (stirN z c n).1 < 2147483648
  | 0 => ⟨h0, h1⟩
  | n + 1 => ⟨Int.emod_nonneg _ (by decide), Int.lt_trans (Int.emod_lt_of_pos _ (by decide)) (by decide)⟩
theorem stirred_O {b : Bag} {n : Int} (hb : BOk b) (h0 : 0 < n) (h1 : n < 18446744073709551616) : O2 BOk (m_l_stirred b n) (fun r => 0 ≤ r ∧ r < n) := by
  unfold m_l_stirred
  rw [if_pos ⟨⟨h0, bits_log h0 h1⟩, hb.lo, hb.hi⟩]
  have hs := stir_in (c := b.cnt) hb.lo hb.hi (1 + Builtin.Int.intBits n / 27)
  exact O2.ret ⟨hs.1, hs.2, hb.len⟩ ⟨Int.emod_nonneg _ (by omega), Int.emod_lt_of_pos _ h0⟩
theorem draw_O {b : Bag} {n : Int} (hb : BOk b) (h0 : 0 < n) (h1 : n < 18446744073709551616) : O2 BOk (m_l_draw b n) (fun r => 0 ≤ r ∧ r < n) := by
  have hlog : n.natAbs.log2 < 9000 := by
    have hn : n.natAbs < 2 ^ 64 := by omega
    have hz : n.natAbs ≠ 0 := by omega
    have := (Nat.log2_lt hz).mpr hn
    omega
  have h63 := hb.len
  have hm : 0 ≤ b.left % n ∧ b.left % n < n := ⟨Int.emod_nonneg _ (by omega), Int.emod_lt_of_pos _ h0⟩
  unfold m_l_draw
  rw [if_pos ⟨⟨h0, hlog⟩, by rw [sizeLine_eq]; omega⟩]
  by_cases hz : b.left = 0
  · rw [if_pos hz]
    cases e : b.cells[b.at_]? with
    | some x => exact O2.ret ⟨hb.lo, hb.hi, hb.len⟩ ⟨Int.emod_nonneg _ (by omega), Int.emod_lt_of_pos _ h0⟩
    | none => exact stirred_O hb h0 h1
  · rw [if_neg hz]
    exact O2.ret ⟨hb.lo, hb.hi, hb.len⟩ hm
end K22
namespace K22
open PySem PySem.Spec PyProof.Rows L2 TL G
/-! ### a town -/
structure TownOk (t : T4 Int Int (List (Int × Int)) (List Int)) : Prop where
  w : 1 ≤ t.a ∧ t.a ≤ 30
  n : 1 ≤ t.b ∧ t.b ≤ 12
  ties : ∀ p ∈ t.c, 0 ≤ p.1 ∧ p.1 < p.2 ∧ p.2 < t.b
  few : t.c.length ≤ 20
  nd : t.c.Nodup
  doors : ∀ d ∈ t.e, 0 ≤ d ∧ d < t.b
  some_ : 1 ≤ t.e.length ∧ t.e.length ≤ 8
theorem divI_ok_ {a n : Int} (h0 : 0 < n) (h1 : n < 100) : divI a n = some (a / n) := by
  unfold divI
  rw [if_pos ⟨h0, by
    have : n.natAbs < 2 ^ 7 := by omega
    have hz : n.natAbs ≠ 0 := by omega
    have := (Nat.log2_lt hz).mpr this
    omega⟩]
theorem modI_ok_ {a n : Int} (h0 : 0 < n) : modI a n = some (a % n) := by unfold modI; rw [if_pos h0]
theorem tw_c1 {n : Int} (h0 : 0 < n) (h1 : n ≤ 12) : ∀ l : List Int, ∃ r, m_l_town_drawn_c1 n l = some r ∧ (∀ p ∈ r, ∃ k ∈ l, p = (k / n, k % n) ∧ p.1 < p.2) ∧ r.length ≤ l.length ∧ (l.Nodup → r.Nodup)
  | [] => ⟨[], rfl, fun _ h => (List.not_mem_nil h).elim, Nat.le_refl _, fun _ => List.nodup_nil⟩
  | k :: l => by
    obtain ⟨r, e, hr, hl, hnd⟩ := tw_c1 h0 h1 l
    unfold m_l_town_drawn_c1
    rw [divI_ok_ h0 (by omega), Option.bind_some, modI_ok_ h0, Option.bind_some]
    have sub : ∀ p ∈ r, ∃ j ∈ k :: l, p = (j / n, j % n) ∧ p.1 < p.2 := fun p hp => by
      obtain ⟨j, hj, h⟩ := hr p hp
      exact ⟨j, List.mem_cons_of_mem _ hj, h⟩
    by_cases h : k / n < k % n
    · rw [if_pos (decide_eq_true h), Option.bind_some, Option.bind_some, e]
      refine ⟨(k / n, k % n) :: r, rfl, fun p hp => ?_, Nat.succ_le_succ hl, fun hnd2 => ?_⟩
      · rcases List.mem_cons.mp hp with rfl | hp
        · exact ⟨k, List.mem_cons_self .., rfl, h⟩
        · exact sub p hp
      · obtain ⟨a1, a2⟩ := List.nodup_cons.mp hnd2
        refine List.nodup_cons.mpr ⟨fun hm => ?_, hnd a2⟩
        obtain ⟨j, hj, e1, _⟩ := hr _ hm
        obtain ⟨e2, e3⟩ := Prod.mk.inj e1
        have := Int.emod_add_mul_ediv k n
        have := Int.emod_add_mul_ediv j n
        rw [e2, e3] at *
        exact a1 (by rw [show k = j by omega]; exact hj)
    · rw [if_neg (by rw [decide_eq_true_iff]; exact h), e]
      exact ⟨r, rfl, sub, Nat.le_succ_of_le hl, fun hnd2 => hnd (List.nodup_cons.mp hnd2).2⟩
theorem liked_ok (s : Int) (p : Int × Int) (n : Int) : ∃ r, m_l_liked s p n = some r := by
  unfold m_l_liked
  rw [Option.bind_some]
  split
  · exact ⟨_, rfl⟩
  · split <;> exact ⟨_, rfl⟩
theorem tw_c2 (n s : Int) : ∀ l : List (Int × Int), ∃ r, m_l_town_drawn_c2 n s l = some r ∧ r.Sublist l
  | [] => ⟨[], rfl, .slnil⟩
  | p :: l => by
    obtain ⟨r, e, hr⟩ := tw_c2 n s l
    obtain ⟨c, hc⟩ := liked_ok s p n
    unfold m_l_town_drawn_c2
    rw [hc, Option.bind_some]
    cases c with
    | true => rw [if_pos rfl, e]; exact ⟨p :: r, rfl, hr.cons₂ p⟩
    | false => rw [if_neg (by decide), e]; exact ⟨r, rfl, hr.cons p⟩
theorem tw_c3 (s : List (Int × Int)) : ∀ l : List (Int × Int), m_l_town_drawn_c3 s l = l.filter fun p => !inD p s
  | [] => rfl
  | p :: l => by
    unfold m_l_town_drawn_c3
    rw [tw_c3 s l, List.filter_cons]
theorem pop_perm {α : Type} (s : List α) {f : List α} {j : Nat} (h : j < f.length) : ((s ++ [f[j]]) ++ f.eraseIdx j).Perm (s ++ f) := by
  rw [List.append_assoc]
  exact List.Perm.append_left s (erase_perm h)
theorem tw_l4 : ∀ (l : List Int) (s f : List (Int × Int)) (b : Bag), BOk b → l.length ≤ f.length → f.length ≤ 1000 → s.length + l.length ≤ 400 →
    ∃ s' f' b', m_l_town_drawn_l4 l s f b = some (s', f', b') ∧ BOk b' ∧ (s' ++ f').Perm (s ++ f) ∧ s'.length = s.length + l.length
  | [], s, f, b, hb, _, _, _ => ⟨s, f, b, rfl, hb, List.Perm.refl _, rfl⟩
  | k :: l, s, f, b, hb, hl, hf, hn => by
    rw [List.length_cons] at hl hn
    obtain ⟨r, b1, e1, hb1, hr⟩ := draw_O (n := ((f.length : Nat) : Int)) hb (by omega) (by omega)
    obtain ⟨⟨x, f2⟩, e2, j, hj, hx, rfl⟩ := popI_O (xs := f) (i := r) (P := fun q => ∃ j : Nat, ∃ hj : j < f.length, q.1 = f[j] ∧ q.2 = f.eraseIdx j) hr.1 hr.2 fun j hj _ => ⟨j, hj, rfl, rfl⟩
    have hlen : (f.eraseIdx j).length = f.length - 1 := List.length_eraseIdx_of_lt hj
    obtain ⟨s', f', b', e3, hb', hp, hln⟩ := tw_l4 l (s ++ [x]) (f.eraseIdx j) b1 hb1 (by omega) (by omega) (by rw [List.length_append]; show _ + 1 + _ ≤ _; omega)
    refine ⟨s', f', b', ?_, hb', ?_, ?_⟩
    · unfold m_l_town_drawn_l4
      rw [e1, bind2_some, e2, bind2_some, appL_some (by omega), Option.bind_some]
      exact e3
    · have hx' : x = f[j] := hx
      rw [hx'] at hp
      exact hp.trans (pop_perm s hj)
    · rw [hln, List.length_append, List.length_cons]
      show s.length + 1 + l.length = s.length + (l.length + 1)
      omega
theorem tw_c5 : ∀ (l : List Int) (s : List (Int × Int)) (b : Bag), BOk b → l.length = s.length → s.length ≤ 1000 →
    ∃ r s' b', m_l_town_drawn_c5 l s b = some (r, s', b') ∧ BOk b' ∧ r.Perm s
  | [], s, b, hb, hl, _ => ⟨[], s, b, rfl, hb, by rw [List.eq_nil_of_length_eq_zero hl.symm]⟩
  | k :: l, s, b, hb, hl, hn => by
    rw [List.length_cons] at hl
    obtain ⟨r, b1, e1, hb1, hr⟩ := draw_O (n := ((s.length : Nat) : Int)) hb (by omega) (by omega)
    obtain ⟨⟨x, s2⟩, e2, j, hj, hx, rfl⟩ := popI_O (xs := s) (i := r) (P := fun q => ∃ j : Nat, ∃ hj : j < s.length, q.1 = s[j] ∧ q.2 = s.eraseIdx j) hr.1 hr.2 fun j hj _ => ⟨j, hj, rfl, rfl⟩
    have hlen : (s.eraseIdx j).length = s.length - 1 := List.length_eraseIdx_of_lt hj
    obtain ⟨rest, s', b', e3, hb', hp⟩ := tw_c5 l (s.eraseIdx j) b1 hb1 (by omega) (by omega)
    refine ⟨x :: rest, s', b', ?_, hb', ?_⟩
    · unfold m_l_town_drawn_c5
      rw [e1, bind2_some, e2, bind2_some, e3]
      rfl
    · have hx' : x = s[j] := hx
      rw [hx']
      exact (hp.cons _).trans (erase_perm hj)
theorem tw_c6 {n : Int} (h0 : 0 < n) (h1 : n ≤ 12) : ∀ (l : List Int) (b : Bag), BOk b → O2 BOk (m_l_town_drawn_c6 n l b) (fun r => r.length = l.length ∧ ∀ d ∈ r, 0 ≤ d ∧ d < n)
  | [], b, hb => O2.ret hb ⟨rfl, fun _ h => (List.not_mem_nil h).elim⟩
  | k :: l, b, hb => by
    unfold m_l_town_drawn_c6
    refine O2.bind (draw_O hb h0 (by omega)) fun r b hb hr => ?_
    refine O2.bind (tw_c6 h0 h1 l b hb) fun rest b hb h => ?_
    refine O2.ret hb ⟨congrArg Nat.succ h.1, fun d hd => ?_⟩
    rcases List.mem_cons.mp hd with rfl | hd
    · exact hr
    · exact h.2 d hd
theorem tw_sizes : ∀ n ∈ ([1, 2, 3, 4, 5, 6, 7, 8, 9, 10, 11, 12] : List Int), ∀ s ∈ ([0, 1, 2, 3] : List Int), ((m_l_town_drawn_c1 n (rangeL 0 (n * n).toNat)).bind fun l => (m_l_town_drawn_c2 n s l).map fun r => decide (r.length ≤ 20)) = some true := by decide +kernel
theorem mem12 {n : Int} (h0 : 1 ≤ n) (h1 : n ≤ 12) : n ∈ ([1, 2, 3, 4, 5, 6, 7, 8, 9, 10, 11, 12] : List Int) := by
  simp only [List.mem_cons, List.not_mem_nil, or_false]
  omega
theorem mem4 {n : Int} (h0 : 0 ≤ n) (h1 : n < 4) : n ∈ ([0, 1, 2, 3] : List Int) := by
  simp only [List.mem_cons, List.not_mem_nil, or_false]
  omega
theorem rangeL_nodup (lo : Int) (n : Nat) : (rangeL lo n).Nodup := by
  unfold rangeL
  refine List.pairwise_map.mpr (List.nodup_range.imp fun {a b} h e => h (by omega))
theorem mem_rangeL0 {n : Nat} {k : Int} (h : k ∈ rangeL 0 n) : 0 ≤ k ∧ k < (n : Nat) := mem_rangeL h
theorem town_O {b : Bag} (hb : BOk b) : O2 BOk (m_l_town_drawn b) TownOk := by
  unfold m_l_town_drawn
  refine O2.bind (draw_O hb (by decide) (by decide)) fun r1 b hb h1 => ?_
  refine O2.bind (draw_O hb (by decide) (by decide)) fun r2 b hb h2 => ?_
  refine O2.bind (draw_O hb (by decide) (by decide)) fun r3 b hb h3 => ?_
  refine O2.bind1 (P := fun n => 1 ≤ n ∧ n ≤ 12) (atI_O h3.1 h3.2 fun x hx => ?_) fun n hn => ?_
  · simp only [List.mem_cons, List.not_mem_nil, or_false] at hx
    omega
  refine O2.bind (draw_O hb (by decide) (by decide)) fun s b hb hs => ?_
  have hsq : 1 ≤ n * n ∧ n * n ≤ 144 := by
    have h1 : n * n ≤ n * 12 := Int.mul_le_mul_of_nonneg_left hn.2 (by omega)
    have h2 : 1 * 1 ≤ n * n := Int.mul_le_mul hn.1 hn.1 (by decide) (by omega)
    omega
  have hmul : mulI n n = some (n * n) := by
    have h3 : n.natAbs < 2 ^ 64 := by omega
    have h4 := log2_lt64 h3
    unfold mulI
    rw [if_pos (by omega)]
  rw [hmul, Option.bind_some]
  refine O2.bind1 (rangeO1_O (P := fun l => l = rangeL 0 (n * n).toNat) (by omega) (by omega) rfl) fun l hl => ?_
  subst hl
  obtain ⟨ps, e1, hps, hpl, hpn⟩ := tw_c1 (n := n) (by omega) hn.2 (rangeL 0 (n * n).toNat)
  rw [rangeL_length] at hpl
  obtain ⟨ls, e2, hls⟩ := tw_c2 n s ps
  have hsz := tw_sizes n (mem12 hn.1 hn.2) s (mem4 hs.1 hs.2)
  rw [e1, Option.bind_some, e2] at hsz
  have hsz2 : ls.length ≤ 20 := of_decide_eq_true (Option.some.inj hsz)
  rw [e1, Option.bind_some, e2, Option.bind_some, tw_c3, Option.bind_some]
  have hnd := hpn (rangeL_nodup _ _)
  have hpair : ∀ p ∈ ps, 0 ≤ p.1 ∧ p.1 < p.2 ∧ p.2 < n := fun p hp => by
    obtain ⟨k, hk, e, hlt⟩ := hps p hp
    have hk2 := mem_rangeL hk
    have m1 := Int.emod_nonneg k (show n ≠ 0 by omega)
    have m2 := Int.emod_lt_of_pos k (show 0 < n by omega)
    have m3 : 0 ≤ k / n := Int.ediv_nonneg hk2.1 (by omega)
    rw [e] at hlt ⊢
    exact ⟨m3, hlt, m2⟩
  have hfl : ((ps.filter fun p => !inD p ls)).length ≤ 144 := Nat.le_trans (List.length_filter_le _ _) (by omega)
  have hdis : (ls ++ ps.filter fun p => !inD p ls).Nodup := by
    refine List.nodup_append.mpr ⟨hls.nodup hnd, hnd.filter _, fun x hx y hy e => ?_⟩
    subst e
    have := (List.mem_filter.mp hy).2
    rw [inD_true hx] at this
    cases this
  have hin : ∀ p ∈ ls ++ ps.filter fun p => !inD p ls, p ∈ ps := fun p hp => by
    rcases List.mem_append.mp hp with h | h
    · exact hls.subset h
    · exact (List.mem_filter.mp h).1
  generalize (ps.filter fun p => !inD p ls) = fs at hfl hdis hin ⊢
  refine O2.bind (draw_O hb (by omega) (by omega)) fun r4 b hb h4 => ?_
  refine O2.bind1 (rangeO1_O (P := fun l => l.length ≤ fs.length ∧ ls.length + l.length ≤ 20) (by split <;> omega) (by split <;> omega) (by rw [rangeL_length]; split <;> omega)) fun l hl => ?_
  obtain ⟨s', f', b2, e3, hb2, hp2, hl2⟩ := tw_l4 l ls fs b hb hl.1 (by omega) (by omega)
  rw [e3, bind3_some]
  refine O2.bind1 (rangeO1_O (P := fun l => l.length = s'.length) (by omega) (by omega) (by rw [rangeL_length]; omega)) fun l3 hl3 => ?_
  obtain ⟨ts, s3, b3, e4, hb3, hp3⟩ := tw_c5 l3 s' b2 hb2 hl3 (by omega)
  rw [e4, bind3_some]
  refine O2.bind (draw_O hb3 (by decide) (by decide)) fun r5 b hb h5 => ?_
  refine O2.bind1 (rangeO1_O (P := fun l => 1 ≤ l.length ∧ l.length ≤ 8) (by omega) (by omega) (by rw [rangeL_length]; omega)) fun l4 hl4 => ?_
  refine O2.bind (tw_c6 (n := n) (by omega) hn.2 l4 b hb) fun ds b hb hd => ?_
  refine O2.bind (draw_O hb (by decide) (by decide)) fun r6 b hb h6 => ?_
  have hsub : ∀ p ∈ ts, p ∈ ls ++ fs := fun p hp => hp2.mem_iff.mp (List.mem_append.mpr (.inl (hp3.mem_iff.mp hp)))
  refine O2.ret hb ⟨by show 1 ≤ (1 : Int) + r6 ∧ (1 : Int) + r6 ≤ 30; omega, hn, fun p hp => hpair p (hin p (hsub p hp)), by show ts.length ≤ 20; rw [hp3.length_eq, hl2]; exact hl.2, ?_, hd.2, by show 1 ≤ ds.length ∧ ds.length ≤ 8; rw [hd.1]; exact hl4⟩
  have : (s' ++ f').Nodup := hp2.nodup_iff.mpr hdis
  exact hp3.nodup_iff.mpr (List.nodup_append.mp this).1
/-! ### which ties are broken -/
theorem torn_c1 {k : Int} (hk : k ≤ 10) : ∀ (l : List Int) (b : Bag), BOk b → O2 BOk (m_l_torn_drawn_c1 k l b) (fun r => r.Sublist l)
  | [], b, hb => O2.ret hb .slnil
  | x :: l, b, hb => by
    unfold m_l_torn_drawn_c1
    refine O2.bind (P := fun _ => True) ?_ fun c b hb _ => ?_
    · refine O2.ite (fun hc => ?_) (fun _ => O2.ret hb trivial)
      have hc := of_decide_eq_true hc
      refine O2.bind (draw_O hb hc (by omega)) fun r b hb _ => O2.ret hb trivial
    · refine O2.ite (fun _ => ?_) (fun _ => (torn_c1 hk l b hb).imp fun r h => h.cons x)
      refine O2.bind (torn_c1 hk l b hb) fun r b hb h => O2.ret hb (h.cons₂ x)
theorem torn_O {b : Bag} {t : T4 Int Int (List (Int × Int)) (List Int)} (hb : BOk b) (ht : t.c.length ≤ 1000) : O2 BOk (m_l_torn_drawn b t) (fun r => r.Sublist (rangeL 0 t.c.length)) := by
  unfold m_l_torn_drawn
  refine O2.bind (draw_O hb (by decide) (by decide)) fun r1 b hb h1 => ?_
  refine O2.bind1 (P := fun n => n ≤ 10) (atI_O h1.1 h1.2 fun x hx => ?_) fun n hn => ?_
  · simp only [List.mem_cons, List.not_mem_nil, or_false] at hx
    omega
  refine O2.bind1 (rangeO1_O (P := fun l => l = rangeL 0 t.c.length) (by omega) (by omega) (by rw [Int.toNat_natCast])) fun l hl => ?_
  subst hl
  refine O2.bind (torn_c1 hn _ b hb) fun r b hb h => O2.ret hb h
end K22
namespace K22
open PySem PySem.Spec PyProof.Rows L2 TL G
abbrev Want := T4 Int (VT Int) (VT Int) (Option Int)
abbrev Town := T4 Int Int (List (Int × Int)) (List Int)
/-! ### a walk -/
theorem wk_c2 (t : Town) {f : List Int} (hf : f ≠ []) : ∀ l : List Int, ∃ r, m_l_walked_c2 t f l = some r ∧ r.Sublist l
  | [] => ⟨[], rfl, .slnil⟩
  | k :: l => by
    obtain ⟨r, e, hr⟩ := wk_c2 t hf l
    obtain ⟨z, hz⟩ : ∃ z, atI f (-(1 : Int)) = some z := by
      rcases List.eq_nil_or_concat f with h | ⟨a, x, rfl⟩
      · exact absurd h hf
      · rw [List.concat_eq_append]; exact ⟨x, atI_last _ _⟩
    unfold m_l_walked_c2
    rw [hz, Option.bind_some, Option.bind_some, e]
    generalize inD _ t.c = c
    cases c with
    | true => exact ⟨k :: r, rfl, hr.cons₂ k⟩
    | false => exact ⟨r, rfl, hr.cons k⟩
theorem wk_l1 {t : Town} (ht : TownOk t) : ∀ (l f : List Int) (b : Bag), BOk b → f ≠ [] → (∀ h ∈ f, 0 ≤ h ∧ h < t.b) → f.length + l.length ≤ 1000 → O2 BOk (m_l_walked_l1 t l f b) (fun r => r ≠ [] ∧ (∀ h ∈ r, 0 ≤ h ∧ h < t.b) ∧ r.length ≤ f.length + l.length)
  | [], f, b, hb, hf, hr, _ => O2.ret hb ⟨hf, hr, Nat.le_refl _⟩
  | k :: l, f, b, hb, hf, hr, hn => by
    rw [List.length_cons] at hn
    have hn2 := ht.n
    unfold m_l_walked_l1
    refine O2.bind1 (rangeO1_O (P := fun l => l = rangeL 0 t.b.toNat) (by omega) (by omega) rfl) fun l0 hl0 => ?_
    subst hl0
    obtain ⟨r, e, hsub⟩ := wk_c2 t hf (rangeL 0 t.b.toNat)
    rw [e, Option.bind_some]
    have hrl : r.length ≤ 12 := Nat.le_trans hsub.length_le (by rw [rangeL_length]; omega)
    refine O2.ite (fun hc => ?_) (fun _ => (wk_l1 ht l f b hb hf hr (by omega)).imp fun r h => ⟨h.1, h.2.1, by rw [List.length_cons]; omega⟩)
    have hne : r ≠ [] := fun z => by rw [z, eqD_refl] at hc; cases hc
    have hpos : 0 < r.length := List.length_pos_iff.mpr hne
    refine O2.bind (draw_O hb (by omega) (by omega)) fun d b hb hd => ?_
    refine O2.bind1 (P := fun x => 0 ≤ x ∧ x < t.b) (atI_O hd.1 hd.2 fun x hx => ?_) fun x hx => ?_
    · have := mem_rangeL (hsub.subset hx)
      omega
    rw [appL_some (by omega), Option.bind_some]
    refine (wk_l1 ht l (f ++ [x]) b hb (by simp) (fun h hh => (List.mem_append.mp hh).elim (hr h) fun e => by rw [List.mem_singleton.mp e]; exact hx) (by rw [List.length_append]; show _ + 1 + _ ≤ _; omega)).imp fun r h => ⟨h.1, h.2.1, ?_⟩
    have := h.2.2
    rw [List.length_append] at this
    rw [List.length_cons]
    have e1 : [x].length = 1 := rfl
    omega
theorem walked_O {b : Bag} {t : Town} (hb : BOk b) (ht : TownOk t) : O2 BOk (m_l_walked b t) (fun r => r ≠ [] ∧ (∀ h ∈ r, 0 ≤ h ∧ h < t.b) ∧ r.length ≤ 40) := by
  have hn2 := ht.n
  unfold m_l_walked
  refine O2.bind (draw_O hb (by omega) (by omega)) fun r1 b hb h1 => ?_
  rw [Option.bind_some]
  refine O2.bind (draw_O hb (by decide) (by decide)) fun r2 b hb h2 => ?_
  refine O2.bind1 (P := fun n => 1 ≤ n ∧ n ≤ 20) (atI_O h2.1 h2.2 fun x hx => ?_) fun n hn => ?_
  · simp only [List.mem_cons, List.not_mem_nil, or_false] at hx
    omega
  refine O2.bind (draw_O hb (by omega) (by omega)) fun r3 b hb h3 => ?_
  refine O2.bind1 (rangeO1_O (P := fun l => l.length ≤ 20) (by omega) (by omega) (by rw [rangeL_length]; omega)) fun l hl => ?_
  refine O2.bind (wk_l1 ht l [r1] b hb (by simp) (fun h hh => by rw [List.mem_singleton.mp hh]; exact h1) (by show 1 + _ ≤ _; omega)) fun r b hb h => ?_
  exact O2.ret hb ⟨h.1, h.2.1, Nat.le_trans h.2.2 (by show 1 + _ ≤ _; omega)⟩
/-! ### an order -/
theorem wf_c2 : ∀ (l : List Int) (b : Bag), BOk b → O2 BOk (m_l_want_fitting_c2 l b) (fun r => r.Sublist l)
  | [], b, hb => O2.ret hb .slnil
  | x :: l, b, hb => by
    unfold m_l_want_fitting_c2
    refine O2.bind (draw_O hb (by decide) (by decide)) fun r b hb _ => ?_
    refine O2.ite (fun _ => ?_) (fun _ => (wf_c2 l b hb).imp fun r h => h.cons x)
    refine O2.bind (wf_c2 l b hb) fun r b hb h => O2.ret hb (h.cons₂ x)
theorem wf_c3 (f : List Int) : ∀ (l : List Int) (b : Bag), BOk b → O2 BOk (m_l_want_fitting_c3 f l b) (fun r => r.Sublist l)
  | [], b, hb => O2.ret hb .slnil
  | x :: l, b, hb => by
    unfold m_l_want_fitting_c3
    refine O2.bind (P := fun _ => True) ?_ fun c b hb _ => ?_
    · refine O2.ite (fun _ => ?_) (fun _ => O2.ret hb trivial)
      refine O2.bind (draw_O hb (by decide) (by decide)) fun r b hb _ => O2.ret hb trivial
    · refine O2.ite (fun _ => ?_) (fun _ => (wf_c3 f l b hb).imp fun r h => h.cons x)
      refine O2.bind (wf_c3 f l b hb) fun r b hb h => O2.ret hb (h.cons₂ x)
theorem wf_l1 : ∀ (l by_ : List Int), by_.length ≤ 3 → ∃ r, m_l_want_fitting_l1 l by_ = some r ∧ r.length ≤ 3
  | [], by_, h => ⟨by_, rfl, h⟩
  | x :: l, by_, h => by
    unfold m_l_want_fitting_l1
    by_cases h3 : ((by_.length : Nat) : Int) < 3
    · rw [decide_eq_true h3, if_pos rfl]
      obtain ⟨c, hc⟩ : ∃ c, (if eqD by_ ([] : List Int) = true then some true else Option.bind (atI by_ (-(1 : Int))) fun t => some (neI t x)) = some c := by
        rcases List.eq_nil_or_concat by_ with rfl | ⟨a, y, rfl⟩
        · exact ⟨true, by rw [eqD_refl, if_pos rfl]⟩
        · rw [List.concat_eq_append, eqD_false (by simp), if_neg (by decide), atI_last]
          exact ⟨_, rfl⟩
      rw [hc, Option.bind_some, Option.bind_some]
      cases c with
      | true =>
        rw [if_pos rfl, appL_some (by omega), Option.bind_some]
        exact wf_l1 l (by_ ++ [x]) (by rw [List.length_append]; show _ + 1 ≤ _; omega)
      | false =>
        rw [if_neg (by decide)]
        exact wf_l1 l by_ h
    · rw [decide_eq_false h3, if_neg (by decide), Option.bind_some, if_neg (by decide)]
      exact wf_l1 l by_ h
theorem want_O {b : Bag} {t : Town} {f : List Int} (hb : BOk b) (hn : 1 ≤ t.b ∧ t.b ≤ 12) (hf : f ≠ []) (hfl : f.length ≤ 1000) : O2 BOk (m_l_want_fitting b t f) (fun r => r.a = ((t.e.length : Nat) : Int) - 1) := by
  have hpos : 0 < f.length := List.length_pos_iff.mpr hf
  unfold m_l_want_fitting
  refine O2.bind (wf_c2 f b hb) fun l b hb _ => ?_
  obtain ⟨by_, e1, h1⟩ := wf_l1 l [] (Nat.zero_le _)
  rw [e1, Option.bind_some]
  refine O2.bind (P := fun _ => True) ?_ fun by2 b hb _ => ?_
  · refine O2.bind (draw_O hb (by decide) (by decide)) fun r b hb _ => ?_
    exact O2.ite (fun _ => O2.ret hb trivial) (fun _ => O2.ret hb trivial)
  refine O2.bind1 (rangeO1_O (P := fun l => l.length ≤ 100) (by omega) (by omega) (by rw [rangeL_length]; omega)) fun l2 hl2 => ?_
  refine O2.bind (wf_c3 f l2 b hb) fun l3 b hb h3 => ?_
  have hl3 := h3.length_le
  rw [Option.bind_some]
  refine O2.bind (P := fun _ => True) ?_ fun past b hb _ => ?_
  · refine O2.bind (draw_O hb (by decide) (by decide)) fun r b hb _ => ?_
    refine O2.ite (fun _ => ?_) (fun _ => O2.ret hb trivial)
    refine O2.bind (draw_O hb (by omega) (by omega)) fun r b hb hr => ?_
    refine O2.bind1 (atI_O (P := fun _ => True) hr.1 hr.2 fun _ _ => trivial) fun x _ => ?_
    have c1 := cutL_len (cutL l3 none (some 3)) none (some (2 : Int))
    have c2 := cutL_len l3 none (some (3 : Int))
    rw [conL_some (by show _ + 1 ≤ _; omega), Option.bind_some]
    have hs : ssetO (cutL (cutL l3 none (some 3)) none (some 2) ++ [x]) = some (ssort (cutL (cutL l3 none (some 3)) none (some 2) ++ [x])) := by
      unfold ssetO
      rw [if_pos (by rw [List.length_append]; show _ + 1 < _; omega)]
    rw [hs, Option.bind_some]
    exact O2.ret hb trivial
  refine O2.bind (draw_O hb (by decide) (by decide)) fun r b hb hr => ?_
  refine O2.bind1 (atI_O (P := fun _ => True) hr.1 hr.2 fun _ _ => trivial) fun x _ => ?_
  exact O2.ret hb rfl
/-! ### a list bent -/
theorem bent_O {b : Bag} {t : Town} {f : List Int} (hb : BOk b) (hn : 1 ≤ t.b ∧ t.b ≤ 12) (hfl : f.length ≤ 40) : O2 BOk (m_l_bent_once b t f) (fun r => True) := by
  have cl : ∀ lo hi : Option Int, (cutL f lo hi).length ≤ 40 := fun lo hi => Nat.le_trans (cutL_len f lo hi) hfl
  unfold m_l_bent_once
  refine O2.bind (draw_O hb (by omega) (by omega)) fun r1 b hb h1 => ?_
  refine O2.bind (draw_O hb (by omega) (by omega)) fun r2 b hb h2 => ?_
  refine O2.bind (draw_O hb (by omega) (by omega)) fun r3 b hb h3 => ?_
  refine O2.bind (draw_O hb (by decide) (by decide)) fun r4 b hb h4 => ?_
  refine O2.bind1 (atI_O (P := fun _ => True) h4.1 h4.2 fun _ _ => trivial) fun x _ => ?_
  refine O2.bind (draw_O hb (by decide) (by decide)) fun r5 b hb h5 => ?_
  have c1 := cl none (some r1)
  refine O2.ite (fun _ => ?_) (fun _ => ?_)
  · have c2 := cl (some r1) none
    rw [conL_some (by show _ + 1 ≤ _; omega), Option.bind_some, conL_some (by rw [List.length_append]; show _ + 1 + _ ≤ _; omega), Option.bind_some]
    exact O2.ret hb trivial
  refine O2.ite (fun _ => ?_) (fun _ => ?_)
  · have c2 := cl (some (r1 + 1)) none
    rw [conL_some (by omega), Option.bind_some]
    exact O2.ret hb trivial
  refine O2.ite (fun _ => ?_) (fun _ => ?_)
  · refine O2.bind (draw_O hb (by decide) (by decide)) fun r6 b hb h6 => ?_
    have c2 := cl (some (if r1 - r6 > 0 then r1 - r6 else 0)) none
    rw [conL_some (by omega), Option.bind_some]
    exact O2.ret hb trivial
  refine O2.ite (fun _ => O2.ret hb trivial) (fun _ => ?_)
  refine O2.ite (fun _ => ?_) (fun _ => ?_)
  · have c2 := cl (some (r1 + 2)) none
    rw [conL_some (by omega), Option.bind_some]
    exact O2.ret hb trivial
  refine O2.ite (fun _ => O2.ret hb trivial) (fun _ => ?_)
  have c2 := cl (some (r1 + 1)) none
  obtain ⟨y, e, hy⟩ : ∃ y, repL ([x] : List Int) (toI (decide (r1 < ((f.length : Nat) : Int)))) = some y ∧ y.length ≤ 1 := by
    unfold toI
    split
    · exact ⟨[x], rfl, Nat.le_refl _⟩
    · exact ⟨[], rfl, Nat.zero_le _⟩
  rw [e, Option.bind_some, conL_some (by omega), Option.bind_some, conL_some (by rw [List.length_append]; omega), Option.bind_some]
  exact O2.ret hb trivial
/-! ### both look alike -/
theorem whole_eq (torn : List Int) : ∀ (l pre : List (Int × Int)) (t : Town), t.c = pre ++ l → m_l_fault_due_c1 t torn (rangeL ((pre.length : Nat) : Int) l.length) = some (m_whole_pairs_c1 torn (List.zip (rangeL ((pre.length : Nat) : Int) l.length) l))
  | [], pre, t, _ => rfl
  | p :: l, pre, t, h => by
    have ih := whole_eq torn l (pre ++ [p]) t (by rw [h, List.append_assoc]; rfl)
    rw [List.length_append, show ((pre.length + [p].length : Nat) : Int) = ((pre.length : Nat) : Int) + 1 by show ((pre.length + 1 : Nat) : Int) = _; omega] at ih
    have ha : atI t.c ((pre.length : Nat) : Int) = some p := atI_nat (by rw [h, List.getElem?_append_right (Nat.le_refl _), Nat.sub_self]; rfl)
    rw [List.length_cons, rangeL_cons]
    show m_l_fault_due_c1 t torn (_ :: _) = some (m_whole_pairs_c1 torn ((((pre.length : Nat) : Int), p) :: List.zip (rangeL (((pre.length : Nat) : Int) + 1) l.length) l))
    unfold m_l_fault_due_c1 m_whole_pairs_c1
    rw [ih, ha]
    by_cases hc : ((pre.length : Nat) : Int) ∈ torn
    · rw [decide_eq_true hc]; rfl
    · rw [decide_eq_false hc]; rfl
theorem whole_spec (t : Town) (torn : List Int) : m_l_fault_due_c1 t torn (rangeL 0 t.c.length) = some (m_whole_pairs t torn) := whole_eq torn t.c [] t rfl
/-- the first step that is none, from place k on -/
def stepF (pairs : List (Int × Int)) (past : List Int) : Nat → List Int → Option (Str × Int)
  | _, [] => none
  | k, h :: r =>
    if h ∈ past then some (("past" : Str), ((k : Nat) : Int)) else
    match r with
    | [] => none
    | g :: r' => if (min h g, max h g) ∉ pairs then some (("tie" : Str), ((k : Nat) : Int)) else stepF pairs past (k + 1) (g :: r')
theorem mm (a b : Int) : ((if b < a then b else a, if b > a then b else a) : Int × Int) = (min a b, max a b) := by
  by_cases h : b < a
  · rw [if_pos h, if_neg (by omega), Int.min_eq_right (by omega), Int.max_eq_left (by omega)]
  · rw [if_neg h, Int.min_eq_left (by omega)]
    by_cases h2 : b > a
    · rw [if_pos h2, Int.max_eq_right (by omega)]
    · rw [if_neg h2, Int.max_eq_left (by omega)]
def lpO {S R : Type} (s : S) : Option R → Lp S R
  | none => .go s
  | some r => .ret r
theorem step_l1 (pairs : List (Int × Int)) (w : Want) : ∀ (l pre hs : List Int), hs = pre ++ l → m_step_fault_l1 pairs w hs (List.zip (rangeL ((pre.length : Nat) : Int) l.length) l) = some (lpO () ((stepF pairs w.c.l pre.length l).map some))
  | [], pre, hs, _ => rfl
  | h :: l, pre, hs, e => by
    have ih := step_l1 pairs w l (pre ++ [h]) hs (by rw [e, List.append_assoc]; rfl)
    rw [List.length_append, show (pre.length + [h].length) = pre.length + 1 from rfl, show ((pre.length + 1 : Nat) : Int) = ((pre.length : Nat) : Int) + 1 by omega] at ih
    rw [List.length_cons, rangeL_cons]
    show m_step_fault_l1 pairs w hs ((((pre.length : Nat) : Int), h) :: List.zip (rangeL (((pre.length : Nat) : Int) + 1) l.length) l) = _
    unfold m_step_fault_l1
    by_cases hp : h ∈ w.c.l
    · rw [decide_eq_true hp, if_pos rfl]
      unfold stepF
      rw [if_pos hp]
      rfl
    · rw [decide_eq_false hp, if_neg (by decide)]
      have hlen : hs.length = pre.length + (l.length + 1) := by rw [e, List.length_append, List.length_cons]
      cases l with
      | nil =>
        rw [decide_eq_false (by rw [hlen]; show ¬ (((pre.length : Nat) : Int) + 1 < ((pre.length + (0 + 1) : Nat) : Int)); omega), if_neg (by decide), ih]
        unfold stepF
        rw [if_neg hp]
      | cons g l =>
        have ha : atI hs (((pre.length : Nat) : Int) + 1) = some g := by
          rw [show ((pre.length : Nat) : Int) + 1 = ((pre.length + 1 : Nat) : Int) by omega]
          exact atI_nat (by rw [e, List.getElem?_append_right (by omega), show pre.length + 1 - pre.length = 1 by omega]; rfl)
        rw [decide_eq_true (by rw [hlen, List.length_cons]; omega), if_pos rfl]
        show Option.bind (atI hs (((pre.length : Nat) : Int) + 1)) _ = _
        rw [ha, Option.bind_some, mm h g]
        conv => rhs; unfold stepF
        rw [if_neg hp]
        by_cases hm : (min h g, max h g) ∈ pairs
        · rw [inD_true hm, notT, ih]
          show _ = some (lpO () (Option.map _ (if (min h g, max h g) ∉ pairs then _ else _)))
          rw [if_neg (fun z => z hm)]
        · rw [inD_false hm, notF]
          show _ = some (lpO () (Option.map _ (if (min h g, max h g) ∉ pairs then _ else _)))
          rw [if_pos hm]
          rfl
theorem step_l2 (pairs : List (Int × Int)) (w : Want) : ∀ (l pre hs : List Int), hs = pre ++ l → m_l_fault_due_l2 w hs pairs (rangeL ((pre.length : Nat) : Int) l.length) = some (lpO () ((stepF pairs w.c.l pre.length l).map fun x => some (Sum.inr x)))
  | [], pre, hs, _ => rfl
  | h :: l, pre, hs, e => by
    have ih := step_l2 pairs w l (pre ++ [h]) hs (by rw [e, List.append_assoc]; rfl)
    rw [List.length_append, show (pre.length + [h].length) = pre.length + 1 from rfl, show ((pre.length + 1 : Nat) : Int) = ((pre.length : Nat) : Int) + 1 by omega] at ih
    have ha : atI hs ((pre.length : Nat) : Int) = some h := atI_nat (by rw [e, List.getElem?_append_right (Nat.le_refl _), Nat.sub_self]; rfl)
    rw [List.length_cons, rangeL_cons]
    unfold m_l_fault_due_l2
    rw [ha, Option.bind_some]
    by_cases hp : h ∈ w.c.l
    · rw [decide_eq_true hp, if_pos rfl]
      unfold stepF
      rw [if_pos hp]
      rfl
    · rw [decide_eq_false hp, if_neg (by decide)]
      have hlen : hs.length = pre.length + (l.length + 1) := by rw [e, List.length_append, List.length_cons]
      cases l with
      | nil =>
        rw [decide_eq_false (by rw [hlen]; show ¬ (((pre.length : Nat) : Int) + 1 < ((pre.length + (0 + 1) : Nat) : Int)); omega), if_neg (by decide), Option.bind_some, if_neg (by decide), ih]
        unfold stepF
        rw [if_neg hp]
      | cons g l =>
        have hc : cutL hs (some ((pre.length : Nat) : Int)) (some (((pre.length : Nat) : Int) + 2)) = [h, g] := by
          rw [show ((pre.length : Nat) : Int) + 2 = ((pre.length + 2 : Nat) : Int) by omega, cutL_at, e, List.drop_left, show pre.length + 2 - pre.length = 2 by omega]
          rfl
        rw [decide_eq_true (by rw [hlen, List.length_cons]; omega), if_pos rfl, hc]
        show Option.bind (Option.bind (some (min h g)) fun t186 => Option.bind (some (max h g)) fun t201 => some (!inD (t186, t201) pairs)) _ = _
        rw [Option.bind_some, Option.bind_some, Option.bind_some]
        conv => rhs; unfold stepF
        rw [if_neg hp]
        by_cases hm : (min h g, max h g) ∈ pairs
        · rw [inD_true hm, notT, ih]
          show _ = some (lpO () (Option.map _ (if (min h g, max h g) ∉ pairs then _ else _)))
          rw [if_neg (fun z => z hm)]
        · rw [inD_false hm, notF]
          show _ = some (lpO () (Option.map _ (if (min h g, max h g) ∉ pairs then _ else _)))
          rw [if_pos hm]
          rfl
/-! ### stands -/
theorem come_eq (w : Want) (d h : Int) (hd : 0 ≤ d) : m_come_to w d h = some (m_l_come w d h) ∧ 0 ≤ (m_l_come w d h).1 := by
  obtain ⟨n, rfl⟩ := Int.eq_ofNat_of_zero_le hd
  have hc : cutL w.b.l (some (n : Int)) (some ((n : Int) + 1)) = (w.b.l.drop n).take 1 := by
    rw [show (n : Int) + 1 = ((n + 1 : Nat) : Int) by omega, cutL_at, show n + 1 - n = 1 by omega]
  unfold m_come_to m_l_come
  rw [hc]
  by_cases hl : n < w.b.l.length
  · have hg : w.b.l[n]? = some w.b.l[n] := List.getElem?_eq_getElem hl
    rw [decide_eq_true (by omega), if_pos rfl, atI_nat hg, Option.bind_some, Option.bind_some, eqI_iff, drop_at hg]
    show _ = some ((n : Int) + toI (eqD (VT.mk [w.b.l[n]]) (VT.mk [h])), h) ∧ _
    have e : eqD (VT.mk [w.b.l[n]]) (VT.mk [h]) = decide (w.b.l[n] = h) := by
      rw [Bool.eq_iff_iff, eqD_iff, decide_eq_true_iff, VT.mk.injEq]
      simp
    have e' : eqD ({ l := List.take 1 (w.b.l[n] :: List.drop (n + 1) w.b.l) } : VT Int) { l := [(T1.mk h).a] } = decide (w.b.l[n] = h) := e
    rw [e, e']
    by_cases hh : w.b.l[n] = h
    · rw [decide_eq_true hh, if_pos rfl]
      exact ⟨rfl, by show 0 ≤ (n : Int) + 1; omega⟩
    · rw [decide_eq_false hh, if_neg (by decide)]
      exact ⟨by show some ((n : Int), h) = some ((n : Int) + 0, h); rw [Int.add_zero], by show 0 ≤ (n : Int) + 0; omega⟩
  · rw [decide_eq_false (by omega), if_neg (by decide), Option.bind_some, if_neg (by decide), List.drop_of_length_le (by omega)]
    have e : eqD (VT.mk (([] : List Int).take 1)) (VT.mk [(T1.mk h).a] : VT Int) = false := eqD_false (by simp)
    rw [e]
    exact ⟨by show some ((n : Int), h) = some ((n : Int) + 0, h); rw [Int.add_zero], by show 0 ≤ (n : Int) + 0; omega⟩
theorem along_l1 (w : Want) : ∀ (l : List Int) (d : Int) (F : List (Int × Int)), 0 ≤ d → F.length + l.length ≤ 1000 → ∃ d' R, m_stands_along_l1 w l d F = some (d', R) ∧ m_l_spots_of_l1 w l d F = some (d', R) ∧ R.length = F.length + l.length
  | [], d, F, _, _ => ⟨d, F, rfl, rfl, rfl⟩
  | h :: l, d, F, hd, hn => by
    rw [List.length_cons] at hn
    obtain ⟨e1, h1⟩ := come_eq w d h hd
    obtain ⟨d', R, e2, e3, h3⟩ := along_l1 w l (m_l_come w d h).1 (F ++ [m_l_come w d h]) h1 (by rw [List.length_append]; show _ + 1 + _ ≤ _; omega)
    refine ⟨d', R, ?_, ?_, ?_⟩
    · unfold m_stands_along_l1
      rw [e1, Option.bind_some, appL_some (by omega), Option.bind_some]
      exact e2
    · unfold m_l_spots_of_l1
      rw [appL_some (by omega), Option.bind_some, atI_last, Option.bind_some]
      exact e3
    · rw [h3, List.length_append, List.length_cons]
      show F.length + 1 + l.length = F.length + (l.length + 1)
      omega
theorem twice_c3 (S : List (Int × Int)) : ∀ l : List Int, (∀ k ∈ l, 0 ≤ k ∧ k < (S.length : Nat)) → ∃ r, m_l_fault_due_c3 S l = some r ∧ (r = [] ↔ ∀ k ∈ l, ∀ (hk : k.toNat < S.length), S[k.toNat] ∉ S.take k.toNat)
  | [], _ => ⟨[], rfl, fun _ k hk => (List.not_mem_nil hk).elim, fun _ => rfl⟩
  | k :: l, h => by
    obtain ⟨r, e, hr⟩ := twice_c3 S l fun j hj => h j (List.mem_cons_of_mem _ hj)
    obtain ⟨h0, h1⟩ := h k (List.mem_cons_self ..)
    obtain ⟨n, rfl⟩ := Int.eq_ofNat_of_zero_le h0
    have hn : n < S.length := by omega
    unfold m_l_fault_due_c3
    rw [atI_nat (List.getElem?_eq_getElem hn), Option.bind_some, cutL_to, e]
    by_cases hm : S[n] ∈ S.take n
    · rw [inD_true hm, if_pos rfl]
      refine ⟨(n : Int) :: r, rfl, ⟨fun z => (List.cons_ne_nil _ _ z).elim, fun z => ?_⟩⟩
      exact absurd hm (z (n : Int) (List.mem_cons_self ..) (by rw [Int.toNat_natCast]; exact hn))
    · rw [inD_false hm, if_neg (by decide)]
      refine ⟨r, rfl, ⟨fun z j hj hk => ?_, fun z => hr.mpr fun j hj hk => z j (List.mem_cons_of_mem _ hj) hk⟩⟩
      rcases List.mem_cons.mp hj with rfl | hj
      · exact hm
      · exact hr.mp z j hj hk
theorem nodup_take (S : List (Int × Int)) : S.Nodup ↔ ∀ k ∈ rangeL 0 S.length, ∀ (hk : k.toNat < S.length), S[k.toNat] ∉ S.take k.toNat := by
  constructor
  · intro h k _ hk hm
    obtain ⟨j, hj, e⟩ := List.getElem_of_mem hm
    rw [List.length_take] at hj
    rw [List.getElem_take] at e
    exact List.pairwise_iff_getElem.mp h j k.toNat (by omega) hk (by omega) e
  · intro h
    refine List.pairwise_iff_getElem.mpr fun i j hi hj hij e => ?_
    refine h (j : Int) ?_ (by rw [Int.toNat_natCast]; exact hj) ?_
    · unfold rangeL
      exact List.mem_map.mpr ⟨j, List.mem_range.mpr hj, by omega⟩
    · show S[j] ∈ S.take j
      rw [← e]
      exact List.mem_take_iff_getElem.mpr ⟨i, by omega, rfl⟩
theorem faults_eq (t : Town) (torn : List Int) (w : Want) (hs : List Int) (hd : 1 ≤ t.e.length) (hw : w.a = ((t.e.length : Nat) : Int) - 1) (hc : t.c.length ≤ 1000) (hl : hs.length ≤ 40) : ∃ r, m_way_fault t torn 0 w hs = some r ∧ m_l_fault_due t torn 0 w hs = some r := by
  unfold m_way_fault m_l_fault_due
  cases hs with
  | nil =>
    rw [eqD_refl, if_pos rfl, Option.bind_some, if_pos rfl]
    exact ⟨_, rfl, rfl⟩
  | cons h l =>
    have he : t.e[0]? = some t.e[0] := List.getElem?_eq_getElem hd
    have e0 : atI t.e (0 : Int) = some t.e[0] := atI_nat (j := 0) he
    have e1 : atI (h :: l) (0 : Int) = some h := atI_nat (j := 0) rfl
    have k0 : eqD (h :: l) ([] : List Int) = false := eqD_false (by simp)
    simp only [k0, Bool.false_eq_true, if_false, e1, e0, Option.bind_some]
    by_cases hst : neI h t.e[0] = true
    · simp only [hst, if_true]
      exact ⟨_, rfl, rfl⟩
    · have hst' : neI h t.e[0] = false := Bool.eq_false_iff.mpr hst
      have q1 : rangeO1 ((t.c.length : Nat) : Int) = some (rangeL 0 t.c.length) := rangeO_len (by omega)
      have q2 : rangeO1 (((h :: l).length : Nat) : Int) = some (rangeL 0 (h :: l).length) := rangeO_len (by omega)
      have s1 := step_l1 (m_whole_pairs t torn) w (h :: l) [] (h :: l) rfl
      have s2 := step_l2 (m_whole_pairs t torn) w (h :: l) [] (h :: l) rfl
      rw [show ((([] : List Int).length : Nat) : Int) = 0 from rfl] at s1 s2
      have s3 : m_step_fault (m_whole_pairs t torn) w (h :: l) = some (stepF (m_whole_pairs t torn) w.c.l 0 (h :: l)) := by
        unfold m_step_fault
        rw [s1]
        show bindL0 (some (lpO () (Option.map some (stepF (m_whole_pairs t torn) w.c.l 0 (h :: l))))) _ _ = _
        cases stepF (m_whole_pairs t torn) w.c.l 0 (h :: l) <;> rfl
      simp only [hst', Bool.false_eq_true, if_false, q1, q2, Option.bind_some, whole_spec, s3, s2]
      show ∃ r, _ ∧ bindL0 (some (lpO () (Option.map (fun x => some (Sum.inr x)) (stepF (m_whole_pairs t torn) w.c.l 0 (h :: l))))) _ _ = _
      cases stepF (m_whole_pairs t torn) w.c.l 0 (h :: l) with
      | some x => exact ⟨some (Sum.inr x), rfl, rfl⟩
      | none =>
        obtain ⟨c, hcc⟩ : ∃ c, (if (!(w.e).isNone) = true then (Option.bind (w.e) fun t97 => some ((decide (t97 < (((((h :: l)).length : Nat) : Int) - (1 : Int)))))) else some false) = some c := by
          cases w.e with
          | none => exact ⟨_, rfl⟩
          | some m => exact ⟨_, rfl⟩
        simp only [hcc, Option.map_none, lpO, bL0_go, Option.isNone_none, Bool.not_true, Bool.false_eq_true, if_false, Option.bind_some]
        cases c with
        | true => exact ⟨_, rfl, rfl⟩
        | false =>
          obtain ⟨z, hz⟩ : ∃ z, atI (h :: l) (-(1 : Int)) = some z := by
            rcases List.eq_nil_or_concat (h :: l) with e | ⟨a, x, e⟩
            · exact absurd e (by simp)
            · rw [e, List.concat_eq_append]; exact ⟨x, atI_last _ _⟩
          have ed : atI t.e w.a = some (t.e[t.e.length - 1]'(by omega)) := by
            rw [hw, show ((t.e.length : Nat) : Int) - 1 = ((t.e.length - 1 : Nat) : Int) by omega]
            exact atI_nat (List.getElem?_eq_getElem (by omega))
          simp only [Bool.false_eq_true, if_false, hz, ed, Option.bind_some]
          by_cases hg : neI z (t.e[t.e.length - 1]'(by omega)) = true
          · simp only [hg, if_true]
            exact ⟨_, rfl, rfl⟩
          · have hg' : neI z (t.e[t.e.length - 1]'(by omega)) = false := Bool.eq_false_iff.mpr hg
            obtain ⟨d', R, a1, a2, a3⟩ := along_l1 w (h :: l) 0 [] (Int.le_refl _) (by show 0 + _ ≤ _; omega)
            have b1 : m_stands_along w (h :: l) = some R := by unfold m_stands_along; rw [Option.bind_some, a1]; rfl
            have b2 : m_l_spots_of w (h :: l) = some R := by unfold m_l_spots_of; rw [Option.bind_some, a2]; rfl
            have hR : R.length = l.length + 1 := by rw [a3, List.length_cons, List.length_nil]; omega
            rw [List.length_cons] at hl
            obtain ⟨y, hy⟩ : ∃ y, atI R (-(1 : Int)) = some y := by
              rcases List.eq_nil_or_concat R with e | ⟨a, x, e⟩
              · rw [e] at hR; cases hR
              · rw [e, List.concat_eq_append]; exact ⟨x, atI_last _ _⟩
            simp only [hg', Bool.false_eq_true, if_false, b1, b2, hy, Option.bind_some]
            by_cases hby : decide (y.1 < ((w.b.l.length : Nat) : Int)) = true
            · simp only [hby, if_true]
              exact ⟨_, rfl, rfl⟩
            · have hby' : decide (y.1 < ((w.b.l.length : Nat) : Int)) = false := Bool.eq_false_iff.mpr hby
              have hls : lsetT R = some (((undup R).length : Nat) : Int) := by unfold lsetT; rw [if_pos (by omega)]
              obtain ⟨r, e3, h3⟩ := twice_c3 R (rangeL 0 R.length) fun k hk => mem_rangeL hk
              have q3 : rangeO1 ((R.length : Nat) : Int) = some (rangeL 0 R.length) := rangeO_len (by omega)
              simp only [hby', Bool.false_eq_true, if_false, hls, q3, e3, Option.bind_some]
              have hlt := undup_lt (l := R)
              have hnd := (nodup_take R).trans h3.symm
              by_cases hn : R.Nodup
              · rw [decide_eq_false (by rw [Int.ofNat_lt]; exact fun z => hlt.mp z hn), if_neg (by decide), hnd.mp hn, eqD_refl, if_pos rfl]
                exact ⟨_, rfl, rfl⟩
              · rw [decide_eq_true (by rw [Int.ofNat_lt]; exact hlt.mpr hn), if_pos rfl, eqD_false (fun z => hn (hnd.mpr z)), if_neg (by decide)]
                exact ⟨_, rfl, rfl⟩
/-! ### the law -/
theorem law_l2 {t : Town} {w : Want} (hn : 1 ≤ t.b ∧ t.b ≤ 12) (hd : 1 ≤ t.e.length) (hw : w.a = ((t.e.length : Nat) : Int) - 1) (hc : t.c.length ≤ 1000) : ∀ (l torn hs : List Int) (b : Bag), BOk b → hs.length ≤ 40 → ∃ torn' hs' b', m_law_l2 t w l torn hs b = some (.go (torn', hs', b')) ∧ BOk b'
  | [], torn, hs, b, hb, _ => ⟨torn, hs, b, rfl, hb⟩
  | k :: l, torn, hs, b, hb, hl => by
    obtain ⟨r, e1, e2⟩ := faults_eq t torn w hs hd hw hc hl
    obtain ⟨r2, b2, e3, hb2, _⟩ := bent_O (t := t) hb hn hl
    obtain ⟨torn', hs', b', e4, hb'⟩ := law_l2 hn hd hw hc l (if eqI k 0 = true then [] else torn) (cutL r2 none (some (40 : Int))) b2 hb2 (by
      have : cutL r2 none (some (40 : Int)) = r2.take 40 := cutL_to r2 40
      rw [this, List.length_take]
      omega)
    refine ⟨torn', hs', b', ?_, hb'⟩
    have ec : m_l_copied t = t := rfl
    unfold m_law_l2
    rw [e1, e2, Option.bind_some, Option.bind_some, Option.bind_some, alike_self, Option.bind_some, notT, Option.bind_some, alike_self, Option.bind_some, ec, eqD_refl, if_neg (by decide), Option.bind_some, e3, bind2_some, Option.bind_some]
    exact e4
theorem law_l1 : ∀ (l : List Int) (b : Bag), BOk b → ∃ b', m_law_l1 l b = some (.go b') ∧ BOk b'
  | [], b, hb => ⟨b, rfl, hb⟩
  | k :: l, b, hb => by
    obtain ⟨t, b1, e1, hb1, ht⟩ := town_O hb
    obtain ⟨hs, b2, e2, hb2, hh1, hh2, hh3⟩ := walked_O hb1 ht
    obtain ⟨x0, hx0⟩ : ∃ x, atI hs (0 : Int) = some x := by
      cases hs with
      | nil => exact absurd rfl hh1
      | cons x r => exact ⟨x, atI_nat (j := 0) rfl⟩
    obtain ⟨x1, hx1⟩ : ∃ x, atI hs (-(1 : Int)) = some x := by
      rcases List.eq_nil_or_concat hs with e | ⟨a, x, e⟩
      · exact absurd e hh1
      · rw [e, List.concat_eq_append]; exact ⟨x, atI_last _ _⟩
    have hcl := cutL_len t.e none (some (6 : Int))
    have hsm := ht.some_
    generalize hd : [x0] ++ cutL t.e none (some (6 : Int)) ++ [x1] = ds
    have hdl : 1 ≤ ds.length := by rw [← hd, List.length_append]; exact Nat.le_add_left _ _
    obtain ⟨torn, b3, e3, hb3, htn⟩ := torn_O (t := ⟨t.a, t.b, t.c, ds⟩) hb2 (by have := ht.few; show t.c.length ≤ _; omega)
    obtain ⟨w, b4, e4, hb4, hw⟩ := want_O (t := ⟨t.a, t.b, t.c, ds⟩) (f := hs) hb3 ht.n hh1 (by omega)
    obtain ⟨torn', hs', b5, e5, hb5⟩ := law_l2 (t := ⟨t.a, t.b, t.c, ds⟩) (w := w) ht.n hdl hw (by have := ht.few; show t.c.length ≤ _; omega) (rangeL (0 : Int) 4) torn hs b4 hb4 hh3
    obtain ⟨b', e6, hb'⟩ := law_l1 l b5 hb5
    refine ⟨b', ?_, hb'⟩
    unfold m_law_l1
    rw [e1, bind2_some, e2, bind2_some, hx0, Option.bind_some, conL_some (by show 1 + _ ≤ _; omega), Option.bind_some, hx1, Option.bind_some, conL_some (by rw [List.length_append]; show 1 + _ + 1 ≤ _; omega), Option.bind_some, hd, Option.bind_some, e3, bind2_some, e4, bind2_some, e5, bL3_go]
    exact e6
theorem law_true (b : Bag) (hb : BOk b) : ∃ b', m_law b = some (true, b') := by
  obtain ⟨b1, e1, hb1⟩ := law_l1 (rangeL (0 : Int) 6) b hb
  refine ⟨b1, ?_⟩
  have f1 : m_way_fault (T4.mk (1 : Int) (1 : Int) ([] : List (Int × Int)) ([(0 : Int)] : List Int)) ([] : List Int) (0 : Int) (T4.mk (0 : Int) (VT.mk [] : (VT Int)) (VT.mk [] : (VT Int)) (some (0 : Int))) ([] : List Int) = some (some (Sum.inl (T1.mk ("start" : Str)))) := by
    unfold m_way_fault
    rw [eqD_refl, if_pos rfl, Option.bind_some, if_pos rfl]
  unfold m_law
  rw [e1, bL1_go, f1, Option.bind_some]
  show some (eqD (some (Sum.inl (T1.mk ("start" : Str)) : T1 Str ⊕ (Str × Int))) _, b1) = _
  have f2 : eqD (some (Sum.inl (T1.mk ("start" : Str))) : Option (T1 Str ⊕ (Str × Int))) (some (Sum.inl (T1.mk ("start" : Str)))) = true := eqD_refl (T1.mk ("start" : Str))
  rw [f2]
end K22
namespace K22
open PySem PySem.Spec PyProof.Rows L2 TL G
def dd_whole_pairs : He.DefD := ⟨("whole_pairs", none), "whole_pairs", "whole_pairs", defArgs s_whole_pairs, defBody s_whole_pairs, defScope s_whole_pairs, [], []⟩
def dd_come_to : He.DefD := ⟨("come_to", none), "come_to", "come_to", defArgs s_come_to, defBody s_come_to, defScope s_come_to, [], []⟩
def dd_stands_along : He.DefD := ⟨("stands_along", none), "stands_along", "stands_along", defArgs s_stands_along, defBody s_stands_along, defScope s_stands_along, [], []⟩
def dd_step_fault : He.DefD := ⟨("step_fault", none), "step_fault", "step_fault", defArgs s_step_fault, defBody s_step_fault, defScope s_step_fault, [], []⟩
def dd_way_fault : He.DefD := ⟨("way_fault", none), "way_fault", "way_fault", defArgs s_way_fault, defBody s_way_fault, defScope s_way_fault, [], []⟩
def dd_l_bag : He.DefD := ⟨("_law_bag", none), "_law_bag", "_law_bag", defArgs s_l_bag, defBody s_l_bag, defScope s_l_bag, [], []⟩
def dd_l_stirred : He.DefD := ⟨("_law_stirred", none), "_law_stirred", "_law_stirred", defArgs s_l_stirred, defBody s_l_stirred, defScope s_l_stirred, [], []⟩
def dd_l_draw : He.DefD := ⟨("_law_draw", none), "_law_draw", "_law_draw", defArgs s_l_draw, defBody s_l_draw, defScope s_l_draw, [], []⟩
def dd_l_alike : He.DefD := ⟨("_law_alike", none), "_law_alike", "_law_alike", defArgs s_l_alike, defBody s_l_alike, defScope s_l_alike, [], []⟩
def dd_l_liked : He.DefD := ⟨("_law_liked", none), "_law_liked", "_law_liked", defArgs s_l_liked, defBody s_l_liked, defScope s_l_liked, [], []⟩
def dd_l_town_drawn : He.DefD := ⟨("_law_town_drawn", none), "_law_town_drawn", "_law_town_drawn", defArgs s_l_town_drawn, defBody s_l_town_drawn, defScope s_l_town_drawn, [], []⟩
def dd_l_torn_drawn : He.DefD := ⟨("_law_torn_drawn", none), "_law_torn_drawn", "_law_torn_drawn", defArgs s_l_torn_drawn, defBody s_l_torn_drawn, defScope s_l_torn_drawn, [], []⟩
def dd_l_come : He.DefD := ⟨("_law_come", none), "_law_come", "_law_come", defArgs s_l_come, defBody s_l_come, defScope s_l_come, [], []⟩
def dd_l_spots_of : He.DefD := ⟨("_law_spots_of", none), "_law_spots_of", "_law_spots_of", defArgs s_l_spots_of, defBody s_l_spots_of, defScope s_l_spots_of, [], []⟩
def dd_l_copied : He.DefD := ⟨("_law_copied", none), "_law_copied", "_law_copied", defArgs s_l_copied, defBody s_l_copied, defScope s_l_copied, [], []⟩
def dd_l_walked : He.DefD := ⟨("_law_walked", none), "_law_walked", "_law_walked", defArgs s_l_walked, defBody s_l_walked, defScope s_l_walked, [], []⟩
def dd_l_want_fitting : He.DefD := ⟨("_law_want_fitting", none), "_law_want_fitting", "_law_want_fitting", defArgs s_l_want_fitting, defBody s_l_want_fitting, defScope s_l_want_fitting, [], []⟩
def dd_l_bent_once : He.DefD := ⟨("_law_bent_once", none), "_law_bent_once", "_law_bent_once", defArgs s_l_bent_once, defBody s_l_bent_once, defScope s_l_bent_once, [], []⟩
def dd_l_fault_due : He.DefD := ⟨("_law_fault_due", none), "_law_fault_due", "_law_fault_due", defArgs s_l_fault_due, defBody s_l_fault_due, defScope s_l_fault_due, [], []⟩
def dd_law : He.DefD := ⟨("law", none), "law", "law", defArgs s_law, defBody s_law, defScope s_law, [], []⟩
def fnL : List He.DefD := [dd_whole_pairs, dd_come_to, dd_stands_along, dd_step_fault, dd_way_fault, dd_l_bag, dd_l_stirred, dd_l_draw, dd_l_alike, dd_l_liked, dd_l_town_drawn, dd_l_torn_drawn, dd_l_come, dd_l_spots_of, dd_l_copied, dd_l_walked, dd_l_want_fitting, dd_l_bent_once, dd_l_fault_due, dd_law]
def faL : List He.Fa := [.glo "whole_pairs", .glo "come_to", .glo "stands_along", .glo "step_fault", .glo "way_fault", .glo "_law_bag", .glo "_law_stirred", .glo "_law_draw", .glo "_law_alike", .glo "_law_liked", .glo "_law_town_drawn", .glo "_law_torn_drawn", .glo "_law_come", .glo "_law_spots_of", .glo "_law_copied", .glo "_law_walked", .glo "_law_want_fitting", .glo "_law_bent_once", .glo "_law_fault_due", .glo "law", .free "abs", .free "all", .free "bool", .free "enumerate", .free "int", .free "isinstance", .free "len", .free "list", .free "max", .free "min", .free "range", .free "set", .free "sorted", .free "str", .free "tuple"]
abbrev RR : PySem.W.OpenRow := PySem.W.OpenLaw.row PySem.Challenge.rw_wishnet_k22_ways_judged
abbrev hk : PySem.W.Hook := He.hookD 4 faL fnL
def ob (s : PySem.W.SharedT) : He.AlD := He.obsDG 4 faL fnL (HandSHeadRun.getT s)
theorem ob_eq (s : PySem.W.SharedT) : ob s = hk.obs s.abs := He.obsDG_eq (HandSHeadRun.getT_eq s)
def looseL : List Str := ["whole_pairs", "come_to", "stands_along", "step_fault", "way_fault", "_law_bag", "_law_stirred", "_law_draw", "_law_alike", "_law_liked", "_law_town_drawn", "_law_torn_drawn", "_law_come", "_law_spots_of", "_law_copied", "_law_walked", "_law_want_fitting", "_law_bent_once", "_law_fault_due"]
theorem run_top (w : World) : HandSHeadRun.RunEq RR (PySem.W.view RR.prog [21]) hk ob 4000 looseL w := by
  intro os
  kernel_rfl
theorem facts {P : Program} {w : World} {K : PySem.W.Frag} {h : Heap} {mg : Str → Option Value} {f : Addr} (X : K.In h) (Gh : h.Ns mainGlobals mg) (hfa : mg ("law" : Str) = some (.ref f)) (c : He.SaysD faL fnL K) :
    ∃ fd : FuncData, (∀ (s : Shared) (v : Value), BindsTo s fd ⟨[v], []⟩ [("_law_script", v)]) ∧ ∀ base : Heap, K.In base → base.Ns mainGlobals mg → FnOk P w K mg base CX0 10 f fd ["_law_script"] (sp_law K) := by
  obtain ⟨d0, F0⟩ := c.def_ 0 (d := dd_whole_pairs) rfl
  obtain ⟨d1, F1⟩ := c.def_ 1 (d := dd_come_to) rfl
  obtain ⟨d2, F2⟩ := c.def_ 2 (d := dd_stands_along) rfl
  obtain ⟨d3, F3⟩ := c.def_ 3 (d := dd_step_fault) rfl
  obtain ⟨d4, F4⟩ := c.def_ 4 (d := dd_way_fault) rfl
  obtain ⟨d5, F5⟩ := c.def_ 5 (d := dd_l_bag) rfl
  obtain ⟨d6, F6⟩ := c.def_ 6 (d := dd_l_stirred) rfl
  obtain ⟨d7, F7⟩ := c.def_ 7 (d := dd_l_draw) rfl
  obtain ⟨d8, F8⟩ := c.def_ 8 (d := dd_l_alike) rfl
  obtain ⟨d9, F9⟩ := c.def_ 9 (d := dd_l_liked) rfl
  obtain ⟨d10, F10⟩ := c.def_ 10 (d := dd_l_town_drawn) rfl
  obtain ⟨d11, F11⟩ := c.def_ 11 (d := dd_l_torn_drawn) rfl
  obtain ⟨d12, F12⟩ := c.def_ 12 (d := dd_l_come) rfl
  obtain ⟨d13, F13⟩ := c.def_ 13 (d := dd_l_spots_of) rfl
  obtain ⟨d14, F14⟩ := c.def_ 14 (d := dd_l_copied) rfl
  obtain ⟨d15, F15⟩ := c.def_ 15 (d := dd_l_walked) rfl
  obtain ⟨d16, F16⟩ := c.def_ 16 (d := dd_l_want_fitting) rfl
  obtain ⟨d17, F17⟩ := c.def_ 17 (d := dd_l_bent_once) rfl
  obtain ⟨d18, F18⟩ := c.def_ 18 (d := dd_l_fault_due) rfl
  obtain ⟨d19, F19⟩ := c.def_ 19 (d := dd_law) rfl
  have G0 := He.glo_ok X Gh (c.fact 0 (f := .glo "whole_pairs") rfl)
  have G1 := He.glo_ok X Gh (c.fact 1 (f := .glo "come_to") rfl)
  have G2 := He.glo_ok X Gh (c.fact 2 (f := .glo "stands_along") rfl)
  have G3 := He.glo_ok X Gh (c.fact 3 (f := .glo "step_fault") rfl)
  have G4 := He.glo_ok X Gh (c.fact 4 (f := .glo "way_fault") rfl)
  have G5 := He.glo_ok X Gh (c.fact 5 (f := .glo "_law_bag") rfl)
  have G6 := He.glo_ok X Gh (c.fact 6 (f := .glo "_law_stirred") rfl)
  have G7 := He.glo_ok X Gh (c.fact 7 (f := .glo "_law_draw") rfl)
  have G8 := He.glo_ok X Gh (c.fact 8 (f := .glo "_law_alike") rfl)
  have G9 := He.glo_ok X Gh (c.fact 9 (f := .glo "_law_liked") rfl)
  have G10 := He.glo_ok X Gh (c.fact 10 (f := .glo "_law_town_drawn") rfl)
  have G11 := He.glo_ok X Gh (c.fact 11 (f := .glo "_law_torn_drawn") rfl)
  have G12 := He.glo_ok X Gh (c.fact 12 (f := .glo "_law_come") rfl)
  have G13 := He.glo_ok X Gh (c.fact 13 (f := .glo "_law_spots_of") rfl)
  have G14 := He.glo_ok X Gh (c.fact 14 (f := .glo "_law_copied") rfl)
  have G15 := He.glo_ok X Gh (c.fact 15 (f := .glo "_law_walked") rfl)
  have G16 := He.glo_ok X Gh (c.fact 16 (f := .glo "_law_want_fitting") rfl)
  have G17 := He.glo_ok X Gh (c.fact 17 (f := .glo "_law_bent_once") rfl)
  have G18 := He.glo_ok X Gh (c.fact 18 (f := .glo "_law_fault_due") rfl)
  have G19 := He.glo_ok X Gh (c.fact 19 (f := .glo "law") rfl)
  let T : Txt K mg := { a_whole_pairs := _, d_whole_pairs := d0, F_whole_pairs := F0, g_whole_pairs := G0, a_come_to := _, d_come_to := d1, F_come_to := F1, g_come_to := G1, a_stands_along := _, d_stands_along := d2, F_stands_along := F2, g_stands_along := G2, a_step_fault := _, d_step_fault := d3, F_step_fault := F3, g_step_fault := G3, a_way_fault := _, d_way_fault := d4, F_way_fault := F4, g_way_fault := G4, a_l_bag := _, d_l_bag := d5, F_l_bag := F5, g_l_bag := G5, a_l_stirred := _, d_l_stirred := d6, F_l_stirred := F6, g_l_stirred := G6, a_l_draw := _, d_l_draw := d7, F_l_draw := F7, g_l_draw := G7, a_l_alike := _, d_l_alike := d8, F_l_alike := F8, g_l_alike := G8, a_l_liked := _, d_l_liked := d9, F_l_liked := F9, g_l_liked := G9, a_l_town_drawn := _, d_l_town_drawn := d10, F_l_town_drawn := F10, g_l_town_drawn := G10, a_l_torn_drawn := _, d_l_torn_drawn := d11, F_l_torn_drawn := F11, g_l_torn_drawn := G11, a_l_come := _, d_l_come := d12, F_l_come := F12, g_l_come := G12, a_l_spots_of := _, d_l_spots_of := d13, F_l_spots_of := F13, g_l_spots_of := G13, a_l_copied := _, d_l_copied := d14, F_l_copied := F14, g_l_copied := G14, a_l_walked := _, d_l_walked := d15, F_l_walked := F15, g_l_walked := G15, a_l_want_fitting := _, d_l_want_fitting := d16, F_l_want_fitting := F16, g_l_want_fitting := G16, a_l_bent_once := _, d_l_bent_once := d17, F_l_bent_once := F17, g_l_bent_once := G17, a_l_fault_due := _, d_l_fault_due := d18, F_l_fault_due := F18, g_l_fault_due := G18, a_law := _, d_law := d19, F_law := F19, g_law := G19, n_abs := He.free_ok X Gh (c.fact 20 (f := .free "abs") rfl), n_all := He.free_ok X Gh (c.fact 21 (f := .free "all") rfl), n_bool := He.free_ok X Gh (c.fact 22 (f := .free "bool") rfl), n_enumerate := He.free_ok X Gh (c.fact 23 (f := .free "enumerate") rfl), n_int := He.free_ok X Gh (c.fact 24 (f := .free "int") rfl), n_isinstance := He.free_ok X Gh (c.fact 25 (f := .free "isinstance") rfl), n_len := He.free_ok X Gh (c.fact 26 (f := .free "len") rfl), n_list := He.free_ok X Gh (c.fact 27 (f := .free "list") rfl), n_max := He.free_ok X Gh (c.fact 28 (f := .free "max") rfl), n_min := He.free_ok X Gh (c.fact 29 (f := .free "min") rfl), n_range := He.free_ok X Gh (c.fact 30 (f := .free "range") rfl), n_set := He.free_ok X Gh (c.fact 31 (f := .free "set") rfl), n_sorted := He.free_ok X Gh (c.fact 32 (f := .free "sorted") rfl), n_str := He.free_ok X Gh (c.fact 33 (f := .free "str") rfl), n_tuple := He.free_ok X Gh (c.fact 34 (f := .free "tuple") rfl) }
  have e := hfa.symm.trans G19
  cases e
  have b := FunD.bindsA (ps := ["_law_script"]) F19 fun _ _ _ _ _ _ us hl => match us, hl with | [_], _ => rfl
  exact ⟨d19, fun s v => b s [v] rfl, fun base _ _ => ok_law T law_true⟩
end K22
open PySem.Calls PySem.W PySem PyProof.Rows
set_option maxHeartbeats 0 in
theorem PySem.Challenge.cw_wishnet_k22_ways_judged_holds : PySem.Challenge.rw_wishnet_k22_ways_judged.Holds := by
  w_on; o_law
  refine HandSHeadRun.head_any (r := OpenLaw.row PySem.Challenge.rw_wishnet_k22_ways_judged) (q := view (OpenLaw.row PySem.Challenge.rw_wishnet_k22_ways_judged).prog [21]) (H := K22.hk) (ob := K22.ob) (M := 4000) (loose := K22.looseL) (d := HandSHeadRun.topDef (OpenLaw.row PySem.Challenge.rw_wishnet_k22_ways_judged).prog 21) (kwd := []) K22.ob_eq
    (by kernel_rfl) (fun s => by kernel_rfl) K22.run_top (by kernel_rfl) (by kernel_rfl) (by kernel_rfl) (by rfl) (by first | assumption | decide +kernel) (by decide +kernel) ⟨rfl, rfl, rfl, rfl, rfl, by decide +kernel⟩ ?hw ?hc
  case hw => w_witness2
  case hc =>
    refine L2.walk_ofE (l := PySem.Challenge.rw_wishnet_k22_ways_judged) (n := 63) (k := 10) (x := "_law_script") (CX := L2.CX0) rfl (by decide) (by kernel_rfl) ⟨rfl, by decide, by decide⟩ ?F (fun _ _ _ _ z => z)
    intro w mg fa h Y Gh hmg0
    obtain ⟨K, KX, c⟩ := Y
    have hmg : mg ("law" : PySem.Str) = some (.ref fa) := by
      have e : (HandSHeadRun.topDef (OpenLaw.row PySem.Challenge.rw_wishnet_k22_ways_judged).prog 21).name = ("law" : PySem.Str) := by kernel_rfl
      rw [← e]
      exact hmg0
    obtain ⟨fd, hb, hF⟩ := K22.facts (P := (PySem.Challenge.rw_wishnet_k22_ways_judged).prog) (w := w) KX Gh hmg c
    exact ⟨K, fd, K22.sp_law K, KX, hb, fun H a ns hl _ hS => ⟨a, ns, rfl, hS, hl, fun _ => rfl⟩, hF⟩
