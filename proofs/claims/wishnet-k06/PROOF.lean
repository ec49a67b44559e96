import PyProof.Rows.All
import Wide.All
import OpenK.AllK
import Wide.FinOn
import HandS.ForMost
import HandS.Walk
import HandS.Wide
import HandS.WideBits
import HandS.StrMore
import HandS.SortInts
import HandS.Strs
import HandS.IsInst
import HandS.Defaults
import HandS.MakeKwOnly
import HandS.Head0
import HandS.Head1
import HandS.Head2
import HandS.HeadEnd
import HandS.HeadHook1
import HandS.HeadHook2
import HandS.Style
import HandS.SetFor
import KE.KDictZip
import KE.KTurns
import HandS.Iter
import HandS.SortRule
import PyProof.Rows.SortShellAny
import Lean
import HandS.WordsExc
import PySem.Challenge.RW_wishnet_k06_whole_signs_turned_and_put
set_option Elab.async false
set_option linter.all false
set_option maxRecDepth 100000
set_option maxHeartbeats 4000000
/-! My base, part 1: data, their standing in a heap, growth of heaps. -/
namespace G
open PySem PySem.Spec L2 PyProof.Rows TL

/-! ### data by type -/
class Enc (α : Type) where
  d : α → PyData
instance : Enc Int := ⟨.int⟩
instance : Enc Bool := ⟨.bool⟩
instance : Enc Str := ⟨.str⟩
instance : Enc Unit := ⟨fun _ => .none⟩
def encO {α : Type} (f : α → PyData) : Option α → PyData
  | none => .none
  | some x => f x
instance {α : Type} [Enc α] : Enc (Option α) := ⟨encO Enc.d⟩
instance {α : Type} [Enc α] : Enc (List α) := ⟨fun xs => .list (xs.map Enc.d)⟩
instance {α β : Type} [Enc α] [Enc β] : Enc (α × β) := ⟨fun p => .tuple [Enc.d p.1, Enc.d p.2]⟩
structure T3 (α β γ : Type) where
  a : α
  b : β
  c : γ
  deriving DecidableEq
structure T4 (α β γ δ : Type) where
  a : α
  b : β
  c : γ
  e : δ
  deriving DecidableEq
structure T5 (α β γ δ ε : Type) where
  a : α
  b : β
  c : γ
  e : δ
  f : ε
  deriving DecidableEq
structure VT (α : Type) where
  l : List α
  deriving DecidableEq
instance {α β γ : Type} [Enc α] [Enc β] [Enc γ] : Enc (T3 α β γ) := ⟨fun p => .tuple [Enc.d p.a, Enc.d p.b, Enc.d p.c]⟩
instance {α β γ δ : Type} [Enc α] [Enc β] [Enc γ] [Enc δ] : Enc (T4 α β γ δ) := ⟨fun p => .tuple [Enc.d p.a, Enc.d p.b, Enc.d p.c, Enc.d p.e]⟩
instance {α β γ δ ε : Type} [Enc α] [Enc β] [Enc γ] [Enc δ] [Enc ε] : Enc (T5 α β γ δ ε) := ⟨fun p => .tuple [Enc.d p.a, Enc.d p.b, Enc.d p.c, Enc.d p.e, Enc.d p.f]⟩
instance {α : Type} [Enc α] : Enc (VT α) := ⟨fun p => .tuple (p.l.map Enc.d)⟩

/-- a text that may be handled: no longer than the line, of signs -/
structure GS (x : Str) : Prop where
  len : x.length ≤ sizeLine
  ok : PyData.strOk x = true

mutual
inductive Rp (K : PySem.W.Frag) (F : Hp) : V → PyData → Prop
  | non : Rp K F .non .none
  | bl (b : Bool) : Rp K F (.bl b) (.bool b)
  | int (i : Int) : Rp K F (.int i) (.int i)
  | str (x : Str) : GS x → Rp K F (.str x) (.str x)
  | lst {a : Addr} {xs : List V} {ds : List PyData} : SqL K F a xs → xs.length ≤ sizeLine → RpA K F xs ds → Rp K F (.ref a) (.list ds)
  | tup {a : Addr} {xs : List V} {ds : List PyData} : SqT K F a xs → xs.length ≤ sizeLine → RpA K F xs ds → Rp K F (.ref a) (.tuple ds)
inductive RpA (K : PySem.W.Frag) (F : Hp) : List V → List PyData → Prop
  | nil : RpA K F [] []
  | cons {v : V} {vs : List V} {d : PyData} {ds : List PyData} : Rp K F v d → RpA K F vs ds → RpA K F (v :: vs) (d :: ds)
end
/-- v stands for x -/
abbrev R {α : Type} [Enc α] (K : PySem.W.Frag) (F : Hp) (v : V) (x : α) : Prop := Rp K F v (Enc.d x)
/-- the values vs stand for the things xs -/
abbrev RL {α : Type} [Enc α] (K : PySem.W.Frag) (F : Hp) (vs : List V) (xs : List α) : Prop := RpA K F vs (xs.map Enc.d)

section
variable {K : PySem.W.Frag} {F F' H H' : Hp} {v : V} {vs : List V} {d : PyData} {ds : List PyData} {a p : Addr} {xs : List V}
theorem SqT_mono (e : Same H H') (h : SqT K H a xs) : SqT K H' a xs := by
  rcases h with (h | ⟨o, h⟩) | h
  · exact .inl (.inl (e _ _ h))
  · exact .inl (.inr ⟨o, e _ _ h⟩)
  · exact .inr h
mutual
theorem Rp.mono (e : Same F F') : ∀ (d : PyData) (v : V), Rp K F v d → Rp K F' v d
  | .none, _, h => by cases h; exact .non
  | .bool b, _, h => by cases h; exact .bl b
  | .int i, _, h => by cases h; exact .int i
  | .str x, _, h => by cases h with | str _ g => exact .str x g
  | .list ds, _, h => by cases h with | lst hs hl ha => exact .lst (e.seq hs) hl (RpA.mono e ds _ ha)
  | .tuple ds, _, h => by cases h with | tup hs hl ha => exact .tup (SqT_mono e hs) hl (RpA.mono e ds _ ha)
  | .dict _, _, h => by cases h
theorem RpA.mono (e : Same F F') : ∀ (ds : List PyData) (vs : List V), RpA K F vs ds → RpA K F' vs ds
  | [], _, h => by cases h; exact .nil
  | d :: ds, _, h => by cases h with | cons h1 h2 => exact .cons (Rp.mono e d _ h1) (RpA.mono e ds _ h2)
end
theorem Rp.up (h : Rp K F v d) (e : Same F F') : Rp K F' v d := Rp.mono e d v h
theorem RpA.up (h : RpA K F vs ds) (e : Same F F') : RpA K F' vs ds := RpA.mono e ds vs h
mutual
theorem Rp.dp : ∀ (d : PyData) (v : V), Rp K F v d → Dp K F v d
  | .none, _, h => by cases h; exact .non
  | .bool b, _, h => by cases h; exact .bl b
  | .int i, _, h => by cases h; exact .int i
  | .str x, _, h => by cases h; exact .str x
  | .list ds, _, h => by cases h with | lst hs hl ha => exact .lst hs (RpA.dp ds _ ha)
  | .tuple ds, _, h => by cases h with | tup hs hl ha => exact .tup hs (RpA.dp ds _ ha)
  | .dict _, _, h => by cases h
theorem RpA.dp : ∀ (ds : List PyData) (vs : List V), RpA K F vs ds → DpAll K F vs ds
  | [], _, h => by cases h; exact .nil
  | d :: ds, _, h => by cases h with | cons h1 h2 => exact .cons (Rp.dp d _ h1) (RpA.dp ds _ h2)
end
mutual
theorem Rp.lay : ∀ (d : PyData) (v : V), Rp K F v d → d.canLay0 = true
  | .none, _, _ => rfl
  | .bool b, _, _ => rfl
  | .int i, _, _ => rfl
  | .str x, _, h => by cases h with | str _ g => exact g.ok
  | .list ds, _, h => by cases h with | lst hs hl ha => exact RpA.lay ds _ ha
  | .tuple ds, _, h => by cases h with | tup hs hl ha => exact RpA.lay ds _ ha
  | .dict _, _, h => by cases h
theorem RpA.lay : ∀ (ds : List PyData) (vs : List V), RpA K F vs ds → PyData.canLayAll0 ds = true
  | [], _, _ => rfl
  | d :: ds, _, h => by cases h with | cons h1 h2 => exact Bool.and_eq_true_iff.mpr ⟨Rp.lay d _ h1, RpA.lay ds _ h2⟩
end

/-! ### what stands at a value, by its type -/
theorem RpA.length : ∀ {ds : List PyData} {vs : List V}, RpA K F vs ds → vs.length = ds.length
  | [], _, h => by cases h; rfl
  | d :: ds, _, h => by cases h with | cons h1 h2 => exact congrArg Nat.succ h2.length
theorem RpA.get : ∀ {ds : List PyData} {vs : List V} {i : Nat} {v : V}, RpA K F vs ds → vs[i]? = some v → ∃ d, ds[i]? = some d ∧ Rp K F v d
  | [], _, _, _, h, e => by cases h; simp at e
  | d :: ds, _, 0, _, h, e => by cases h with | cons h1 h2 => exact ⟨d, rfl, by simpa using (Option.some.inj e) ▸ h1⟩
  | d :: ds, _, i + 1, v, h, e => by
    cases h with
    | cons h1 h2 =>
      obtain ⟨d', e1, e2⟩ := h2.get (i := i) (v := v) (by simpa using e)
      exact ⟨d', by simpa using e1, e2⟩
theorem RpA.back : ∀ {ds : List PyData} {vs : List V} {i : Nat} {d : PyData}, RpA K F vs ds → ds[i]? = some d → ∃ v, vs[i]? = some v ∧ Rp K F v d
  | [], _, _, _, h, e => by simp at e
  | d :: ds, _, 0, _, h, e => by
    cases h with
    | cons h1 h2 =>
      have e' := Option.some.inj e
      subst e'
      exact ⟨_, rfl, h1⟩
  | d :: ds, _, i + 1, d', h, e => by
    cases h with
    | cons h1 h2 =>
      obtain ⟨v, e1, e2⟩ := h2.back (i := i) (d := d') (by simpa using e)
      exact ⟨v, by simpa using e1, e2⟩
theorem RpA.append : ∀ {ds es : List PyData} {vs us : List V}, RpA K F vs ds → RpA K F us es → RpA K F (vs ++ us) (ds ++ es)
  | [], _, _, _, h, g => by cases h; exact g
  | d :: ds, _, _, _, h, g => by cases h with | cons h1 h2 => exact .cons h1 (h2.append g)
theorem RpA.take : ∀ {ds : List PyData} {vs : List V} (n : Nat), RpA K F vs ds → RpA K F (vs.take n) (ds.take n)
  | _, _, 0, _ => .nil
  | _, _, _ + 1, .nil => .nil
  | _, _, n + 1, .cons h t => .cons h (RpA.take n t)
theorem RpA.drop : ∀ {ds : List PyData} {vs : List V} (n : Nat), RpA K F vs ds → RpA K F (vs.drop n) (ds.drop n)
  | _, _, 0, h => h
  | _, _, _ + 1, .nil => .nil
  | _, _, n + 1, .cons _ t => RpA.drop n t
theorem RpA.set : ∀ {ds : List PyData} {vs : List V} (n : Nat), Rp K F v d → RpA K F vs ds → RpA K F (vs.set n v) (ds.set n d)
  | _, _, _, _, .nil => .nil
  | _, _, 0, r, .cons _ t => .cons r t
  | _, _, n + 1, r, .cons h t => .cons h (RpA.set n r t)
theorem RpA.dropLast {ds : List PyData} {vs : List V} (h : RpA K F vs ds) : RpA K F vs.dropLast ds.dropLast := by
  rw [List.dropLast_eq_take, List.dropLast_eq_take, h.length]
  exact h.take _
theorem RpA.reverse : ∀ {ds : List PyData} {vs : List V}, RpA K F vs ds → RpA K F vs.reverse ds.reverse
  | [], _, h => by cases h; exact .nil
  | d :: ds, _, h => by
    cases h with
    | cons h1 h2 =>
      rw [List.reverse_cons, List.reverse_cons]
      exact h2.reverse.append (.cons h1 .nil)

section
variable {α β γ δ ε : Type} [Enc α] [Enc β] [Enc γ] [Enc δ] [Enc ε]
theorem R.int_v {i : Int} (h : R K F v i) : v = .int i := by cases h; rfl
theorem R.bl_v {b : Bool} (h : R K F v b) : v = .bl b := by cases h; rfl
theorem R.str_v {x : Str} (h : R K F v x) : v = .str x ∧ GS x := by cases h with | str _ g => exact ⟨rfl, g⟩
theorem R.non_v (h : R K F v (none : Option α)) : v = .non := by
  have h' : Rp K F v .none := h
  cases h'
  rfl
theorem R.lst_v {xs : List α} (h : R K F v xs) : ∃ p ws, v = .ref p ∧ SqL K F p ws ∧ ws.length ≤ sizeLine ∧ RL K F ws xs := by
  have h' : Rp K F v (.list (xs.map Enc.d)) := h
  cases h' with | lst h1 h2 h3 => exact ⟨_, _, rfl, h1, h2, h3⟩
theorem R.vt_v {x : VT α} (h : R K F v x) : ∃ p ws, v = .ref p ∧ SqT K F p ws ∧ ws.length ≤ sizeLine ∧ RL K F ws x.l := by
  have h' : Rp K F v (.tuple (x.l.map Enc.d)) := h
  cases h' with | tup h1 h2 h3 => exact ⟨_, _, rfl, h1, h2, h3⟩
theorem RpA.one {d1 : PyData} (h : RpA K F vs [d1]) : ∃ v1, vs = [v1] ∧ Rp K F v1 d1 := by
  cases h with | cons h1 h2 => cases h2; exact ⟨_, rfl, h1⟩
theorem RpA.two {d1 d2 : PyData} (h : RpA K F vs [d1, d2]) : ∃ v1 v2, vs = [v1, v2] ∧ Rp K F v1 d1 ∧ Rp K F v2 d2 := by
  cases h with | cons h1 h2 => obtain ⟨v2, rfl, r⟩ := h2.one; exact ⟨_, _, rfl, h1, r⟩
theorem RpA.three {d1 d2 d3 : PyData} (h : RpA K F vs [d1, d2, d3]) : ∃ v1 v2 v3, vs = [v1, v2, v3] ∧ Rp K F v1 d1 ∧ Rp K F v2 d2 ∧ Rp K F v3 d3 := by
  cases h with | cons h1 h2 => obtain ⟨v2, v3, rfl, r⟩ := h2.two; exact ⟨_, _, _, rfl, h1, r⟩
theorem RpA.four {d1 d2 d3 d4 : PyData} (h : RpA K F vs [d1, d2, d3, d4]) : ∃ v1 v2 v3 v4, vs = [v1, v2, v3, v4] ∧ Rp K F v1 d1 ∧ Rp K F v2 d2 ∧ Rp K F v3 d3 ∧ Rp K F v4 d4 := by
  cases h with | cons h1 h2 => obtain ⟨v2, v3, v4, rfl, r⟩ := h2.three; exact ⟨_, _, _, _, rfl, h1, r⟩
theorem RpA.five {d1 d2 d3 d4 d5 : PyData} (h : RpA K F vs [d1, d2, d3, d4, d5]) : ∃ v1 v2 v3 v4 v5, vs = [v1, v2, v3, v4, v5] ∧ Rp K F v1 d1 ∧ Rp K F v2 d2 ∧ Rp K F v3 d3 ∧ Rp K F v4 d4 ∧ Rp K F v5 d5 := by
  cases h with | cons h1 h2 => obtain ⟨v2, v3, v4, v5, rfl, r⟩ := h2.four; exact ⟨_, _, _, _, _, rfl, h1, r⟩
theorem R.p2_v {x : α × β} (h : R K F v x) : ∃ p v1 v2, v = .ref p ∧ SqT K F p [v1, v2] ∧ R K F v1 x.1 ∧ R K F v2 x.2 := by
  have h' : Rp K F v (.tuple [Enc.d x.1, Enc.d x.2]) := h
  cases h' with | tup h1 h2 h3 => obtain ⟨v1, v2, rfl, r1, r2⟩ := h3.two; exact ⟨_, _, _, rfl, h1, r1, r2⟩
theorem R.p3_v {x : T3 α β γ} (h : R K F v x) : ∃ p v1 v2 v3, v = .ref p ∧ SqT K F p [v1, v2, v3] ∧ R K F v1 x.a ∧ R K F v2 x.b ∧ R K F v3 x.c := by
  have h' : Rp K F v (.tuple [Enc.d x.a, Enc.d x.b, Enc.d x.c]) := h
  cases h' with | tup h1 h2 h3 => obtain ⟨v1, v2, v3, rfl, r⟩ := h3.three; exact ⟨_, _, _, _, rfl, h1, r⟩
theorem R.p4_v {x : T4 α β γ δ} (h : R K F v x) : ∃ p v1 v2 v3 v4, v = .ref p ∧ SqT K F p [v1, v2, v3, v4] ∧ R K F v1 x.a ∧ R K F v2 x.b ∧ R K F v3 x.c ∧ R K F v4 x.e := by
  have h' : Rp K F v (.tuple [Enc.d x.a, Enc.d x.b, Enc.d x.c, Enc.d x.e]) := h
  cases h' with | tup h1 h2 h3 => obtain ⟨v1, v2, v3, v4, rfl, r⟩ := h3.four; exact ⟨_, _, _, _, _, rfl, h1, r⟩
theorem R.p5_v {x : T5 α β γ δ ε} (h : R K F v x) : ∃ p v1 v2 v3 v4 v5, v = .ref p ∧ SqT K F p [v1, v2, v3, v4, v5] ∧ R K F v1 x.a ∧ R K F v2 x.b ∧ R K F v3 x.c ∧ R K F v4 x.e ∧ R K F v5 x.f := by
  have h' : Rp K F v (.tuple [Enc.d x.a, Enc.d x.b, Enc.d x.c, Enc.d x.e, Enc.d x.f]) := h
  cases h' with | tup h1 h2 h3 => obtain ⟨v1, v2, v3, v4, v5, rfl, r⟩ := h3.five; exact ⟨_, _, _, _, _, _, rfl, h1, r⟩
/-- making them -/
theorem R.mkl {xs : List α} (h1 : SqL K F p vs) (h2 : vs.length ≤ sizeLine) (h3 : RL K F vs xs) : R K F (.ref p) xs := .lst h1 h2 h3
theorem R.mkvt {xs : List α} (h1 : SqT K F p vs) (h2 : vs.length ≤ sizeLine) (h3 : RL K F vs xs) : R K F (.ref p) (VT.mk xs) := .tup h1 h2 h3
theorem R.mk2 {v1 v2 : V} {x : α} {y : β} (h1 : SqT K F p [v1, v2]) (r1 : R K F v1 x) (r2 : R K F v2 y) : R K F (.ref p) (x, y) := .tup h1 (by show 2 ≤ sizeLine; decide) (.cons r1 (.cons r2 .nil))
theorem R.mk3 {v1 v2 v3 : V} {x : α} {y : β} {z : γ} (h1 : SqT K F p [v1, v2, v3]) (r1 : R K F v1 x) (r2 : R K F v2 y) (r3 : R K F v3 z) : R K F (.ref p) (T3.mk x y z) := .tup h1 (by show 3 ≤ sizeLine; decide) (.cons r1 (.cons r2 (.cons r3 .nil)))
theorem R.mk4 {v1 v2 v3 v4 : V} {x : α} {y : β} {z : γ} {u : δ} (h1 : SqT K F p [v1, v2, v3, v4]) (r1 : R K F v1 x) (r2 : R K F v2 y) (r3 : R K F v3 z) (r4 : R K F v4 u) : R K F (.ref p) (T4.mk x y z u) := .tup h1 (by show 4 ≤ sizeLine; decide) (.cons r1 (.cons r2 (.cons r3 (.cons r4 .nil))))
theorem R.mk5 {v1 v2 v3 v4 v5 : V} {x : α} {y : β} {z : γ} {u : δ} {t : ε} (h1 : SqT K F p [v1, v2, v3, v4, v5]) (r1 : R K F v1 x) (r2 : R K F v2 y) (r3 : R K F v3 z) (r4 : R K F v4 u) (r5 : R K F v5 t) : R K F (.ref p) (T5.mk x y z u t) := .tup h1 (by show 5 ≤ sizeLine; decide) (.cons r1 (.cons r2 (.cons r3 (.cons r4 (.cons r5 .nil)))))
theorem RL.nil : RL K F [] ([] : List α) := RpA.nil
theorem RL.cons {x : α} {xs : List α} (r : R K F v x) (rs : RL K F vs xs) : RL K F (v :: vs) (x :: xs) := RpA.cons r rs
theorem RL.snoc {x : α} {xs : List α} (rs : RL K F vs xs) (r : R K F v x) : RL K F (vs ++ [v]) (xs ++ [x]) := by
  show RpA K F _ _
  rw [List.map_append]
  exact RpA.append rs (.cons r .nil)
theorem RL.app {us : List V} {xs ys : List α} (rs : RL K F vs xs) (r : RL K F us ys) : RL K F (vs ++ us) (xs ++ ys) := by
  show RpA K F _ _
  rw [List.map_append]
  exact RpA.append rs r
theorem RL.len {xs : List α} (rs : RL K F vs xs) : vs.length = xs.length := by
  have h := RpA.length rs
  rwa [List.length_map] at h
theorem RL.get {xs : List α} {i : Nat} (rs : RL K F vs xs) (e : vs[i]? = some v) : ∃ x, xs[i]? = some x ∧ R K F v x := by
  obtain ⟨d, e1, r⟩ := RpA.get rs e
  rw [List.getElem?_map] at e1
  cases h : xs[i]? with
  | none => rw [h] at e1; cases e1
  | some x =>
    rw [h] at e1
    have e2 : Enc.d x = d := Option.some.inj e1
    subst e2
    exact ⟨x, rfl, r⟩
theorem RL.back {xs : List α} {i : Nat} {x : α} (rs : RL K F vs xs) (e : xs[i]? = some x) : ∃ v, vs[i]? = some v ∧ R K F v x :=
  RpA.back rs (by rw [List.getElem?_map, e]; rfl)
theorem RL.at {xs : List α} {i : Int} {x : α} (rs : RL K F vs xs) (e : atI xs i = some x) : ∃ v, atI vs i = some v ∧ R K F v x := by
  unfold atI at e ⊢
  rw [rs.len]
  cases h : ixN xs.length i with
  | none => rw [h] at e; cases e
  | some j =>
    rw [h] at e
    exact rs.back e
theorem RL.cut {xs : List α} (lo hi : Option Int) (rs : RL K F vs xs) : RL K F (cutV vs lo hi) ((xs.drop (HT.sIx xs.length 0 lo)).take (HT.sIx xs.length xs.length hi - HT.sIx xs.length 0 lo)) := by
  unfold cutV
  rw [rs.len]
  show RpA K F _ _
  rw [List.map_take, List.map_drop]
  exact RpA.take _ (RpA.drop _ rs)
theorem RL.set {xs : List α} {x : α} (i : Nat) (r : R K F v x) (rs : RL K F vs xs) : RL K F (vs.set i v) (xs.set i x) := by
  show RpA K F _ _
  rw [List.map_set]
  exact RpA.set i r rs
theorem RL.rev {xs : List α} (rs : RL K F vs xs) : RL K F vs.reverse xs.reverse := by
  show RpA K F _ _
  rw [List.map_reverse]
  exact RpA.reverse rs
theorem RL.init {xs : List α} (rs : RL K F vs xs) : RL K F vs.dropLast xs.dropLast := by
  show RpA K F _ _
  rw [List.map_dropLast]
  exact RpA.dropLast rs
theorem RL.ints {xs : List Int} (rs : RL K F vs xs) : vs = xs.map V.int := by
  induction xs generalizing vs with
  | nil => cases rs; rfl
  | cons x xs ih => cases rs with | cons r t => rw [R.int_v r, ih t]; rfl
theorem RL.ofInts (xs : List Int) : RL K F (xs.map V.int) xs := by
  induction xs with
  | nil => exact .nil
  | cons x xs ih => exact .cons (.int x) ih
theorem RL.bls {xs : List Bool} (rs : RL K F vs xs) : vs = xs.map V.bl := by
  induction xs generalizing vs with
  | nil => cases rs; rfl
  | cons x xs ih => cases rs with | cons r t => rw [R.bl_v r, ih t]; rfl
theorem RL.strs {xs : List Str} (rs : RL K F vs xs) : vs = xs.map V.str ∧ ∀ x ∈ xs, GS x := by
  induction xs generalizing vs with
  | nil => cases rs; exact ⟨rfl, fun _ h => nomatch h⟩
  | cons x xs ih =>
    cases rs with
    | cons r t =>
      obtain ⟨e, g⟩ := R.str_v r
      obtain ⟨e2, g2⟩ := ih t
      refine ⟨by rw [e, e2]; rfl, fun y hy => ?_⟩
      rcases List.mem_cons.mp hy with rfl | hy
      · exact g
      · exact g2 y hy
theorem RL.ofStrs (xs : List Str) (h : ∀ x ∈ xs, GS x) : RL K F (xs.map V.str) xs := by
  induction xs with
  | nil => exact .nil
  | cons x xs ih => exact .cons (.str x (h x (List.mem_cons_self ..))) (ih fun y hy => h y (List.mem_cons_of_mem _ hy))
end
end

/-! ### how deep a type's data go -/
class Dep (α : Type) [Enc α] where
  n : Nat
  le : ∀ x : α, (Enc.d x).depth ≤ n
instance : Dep Int := ⟨0, fun _ => Nat.le_refl _⟩
instance : Dep Bool := ⟨0, fun _ => Nat.le_refl _⟩
instance : Dep Str := ⟨0, fun _ => Nat.le_refl _⟩
instance {α : Type} [Enc α] [Dep α] : Dep (Option α) := ⟨Dep.n α, fun o => by
  cases o with
  | none => exact Nat.zero_le _
  | some x => exact Dep.le x⟩
theorem depthAll_le {α : Type} [Enc α] [Dep α] : ∀ xs : List α, PyData.depthAll (xs.map Enc.d) ≤ Dep.n α
  | [] => Nat.zero_le _
  | x :: xs => Nat.max_le.mpr ⟨Dep.le x, depthAll_le xs⟩
instance {α : Type} [Enc α] [Dep α] : Dep (List α) := ⟨Dep.n α + 1, fun xs => Nat.succ_le_succ (depthAll_le xs)⟩
instance {α : Type} [Enc α] [Dep α] : Dep (VT α) := ⟨Dep.n α + 1, fun xs => Nat.succ_le_succ (depthAll_le xs.l)⟩
instance {α β : Type} [Enc α] [Enc β] [Dep α] [Dep β] : Dep (α × β) := ⟨max (Dep.n α) (Dep.n β) + 1, fun p => by
  have h1 := Dep.le p.1
  have h2 := Dep.le p.2
  show PyData.depthAll [Enc.d p.1, Enc.d p.2] + 1 ≤ _
  simp only [PyData.depthAll]
  omega⟩
instance {α β γ : Type} [Enc α] [Enc β] [Enc γ] [Dep α] [Dep β] [Dep γ] : Dep (T3 α β γ) := ⟨max (Dep.n α) (max (Dep.n β) (Dep.n γ)) + 1, fun p => by
  have h1 := Dep.le p.a
  have h2 := Dep.le p.b
  have h3 := Dep.le p.c
  show PyData.depthAll [Enc.d p.a, Enc.d p.b, Enc.d p.c] + 1 ≤ _
  simp only [PyData.depthAll]
  omega⟩
instance {α β γ δ : Type} [Enc α] [Enc β] [Enc γ] [Enc δ] [Dep α] [Dep β] [Dep γ] [Dep δ] : Dep (T4 α β γ δ) := ⟨max (Dep.n α) (max (Dep.n β) (max (Dep.n γ) (Dep.n δ))) + 1, fun p => by
  have h1 := Dep.le p.a
  have h2 := Dep.le p.b
  have h3 := Dep.le p.c
  have h4 := Dep.le p.e
  show PyData.depthAll [Enc.d p.a, Enc.d p.b, Enc.d p.c, Enc.d p.e] + 1 ≤ _
  simp only [PyData.depthAll]
  omega⟩
instance {α β γ δ ε : Type} [Enc α] [Enc β] [Enc γ] [Enc δ] [Enc ε] [Dep α] [Dep β] [Dep γ] [Dep δ] [Dep ε] : Dep (T5 α β γ δ ε) := ⟨max (Dep.n α) (max (Dep.n β) (max (Dep.n γ) (max (Dep.n δ) (Dep.n ε)))) + 1, fun p => by
  have h1 := Dep.le p.a
  have h2 := Dep.le p.b
  have h3 := Dep.le p.c
  have h4 := Dep.le p.e
  have h5 := Dep.le p.f
  show PyData.depthAll [Enc.d p.a, Enc.d p.b, Enc.d p.c, Enc.d p.e, Enc.d p.f] + 1 ≤ _
  simp only [PyData.depthAll]
  omega⟩
theorem R.shaped {α : Type} [Enc α] [Dep α] {K : PySem.W.Frag} {F : Hp} {v : V} {x : α} (r : R K F v x) (h : Dep.n α ≤ 64 := by decide) : SeqAt.shaped (Enc.d x) = true :=
  Bool.and_eq_true_iff.mpr ⟨Rp.lay _ _ r, decide_eq_true (Nat.le_trans (Dep.le x) h)⟩
/-- equal, as Python compares -/
def eqD {α : Type} [Enc α] (x y : α) : Bool := PyData.eqv (Enc.d x) (Enc.d y)

/-! ### growth: F is what stays as it is, H all that stands; M may be changed -/
structure Gr (M : Addr → Prop) (F0 H0 F H : Hp) : Prop where
  fh : Same F H
  ff : Same F0 F
  keep : ∀ a o, ¬ M a → H0 a = some o → H a = some o
  there : ∀ a, H0 a ≠ none → H a ≠ none
  new : ∀ a, H0 a ≠ none → F0 a = none → F a = none
abbrev M0 : Addr → Prop := fun _ => False
section
variable {M : Addr → Prop} {F0 H0 F H F' H' : Hp} {p a : Addr} {o : HO} {K : PySem.W.Frag} {xs : List V}
theorem Gr.refl (h : Same F H) : Gr M F H F H := ⟨h, Same.refl _, fun _ _ _ e => e, fun _ e => e, fun _ _ e => e⟩
theorem Gr.trans (g : Gr M F0 H0 F H) (k : Gr M F H F' H') : Gr M F0 H0 F' H' :=
  ⟨k.fh, g.ff.trans k.ff, fun a o n e => k.keep a o n (g.keep a o n e), fun a e => k.there a (g.there a e), fun a e n => k.new a (g.there a e) (g.new a e n)⟩
theorem Gr.of0 (g : Gr M0 F H F' H') : Gr M F H F' H' := ⟨g.fh, g.ff, fun a o _ e => g.keep a o id e, g.there, g.new⟩
theorem Gr.none0 (g : Gr M F0 H0 F H) (h : H a = none) : H0 a = none := by
  cases e : H0 a with
  | none => rfl
  | some o => exact absurd h (g.there a (by rw [e]; simp))
theorem Gr.noneF (g : Gr M F0 H0 F H) (h : H a = none) : F a = none := by
  cases e : F a with
  | none => rfl
  | some o => rw [g.fh a o e] at h; cases h
theorem same_new (h : F p = none) : Same F (upd F p o) := fun b u e => by rw [upd_ne (ne_of_none e h)]; exact e
theorem same_upd2 (h : Same F H) (hp : F p = none) : Same (upd F p o) (upd H p o) := fun b u e => by
  by_cases hb : b = p
  · subst hb; rw [upd_same] at e ⊢; exact e
  · rw [upd_ne hb] at e ⊢; exact h b u e
theorem same_out (h : Same F H) (hp : F p = none) : Same F (upd H p o) := fun b u e => by
  rw [upd_ne (ne_of_none e hp)]
  exact h b u e
/-- a new thing that stays as it is -/
theorem Gr.frz (g : Gr M F0 H0 F H) (h : H p = none) : Gr M F0 H0 (upd F p o) (upd H p o) :=
  ⟨same_upd2 g.fh (g.noneF h), g.ff.trans (same_new (g.noneF h)), fun a u n e => by rw [upd_ne (ne_of_none (g.keep a u n e) h)]; exact g.keep a u n e,
    fun a e => by
      by_cases ha : a = p
      · subst ha; rw [upd_same]; simp
      · rw [upd_ne ha]; exact g.there a e,
    fun a e n => by
      have ha : a ≠ p := fun z => by subst z; exact e (g.none0 h)
      rw [upd_ne ha]; exact g.new a e n⟩
/-- a new thing that may be changed -/
theorem Gr.own (g : Gr M F0 H0 F H) (h : H p = none) : Gr M F0 H0 F (upd H p o) :=
  ⟨same_out g.fh (g.noneF h), g.ff, fun a u n e => by rw [upd_ne (ne_of_none (g.keep a u n e) h)]; exact g.keep a u n e,
    fun a e => by
      by_cases ha : a = p
      · subst ha; rw [upd_same]; simp
      · rw [upd_ne ha]; exact g.there a e, g.new⟩
/-- a thing of ours is changed -/
theorem Gr.mut (g : Gr M F0 H0 F H) (n : F p = none) (n0 : H0 p = none ∨ M p) : Gr M F0 H0 F (upd H p o) :=
  ⟨same_out g.fh n, g.ff, fun a u m e => by
      have ha : a ≠ p := fun z => by
        subst z
        rcases n0 with z | z
        · rw [z] at e; cases e
        · exact m z
      rw [upd_ne ha]; exact g.keep a u m e,
    fun a e => by
      by_cases ha : a = p
      · subst ha; rw [upd_same]; simp
      · rw [upd_ne ha]; exact g.there a e, g.new⟩
/-- a thing of ours stays as it is from now on -/
theorem Gr.freeze (g : Gr M F0 H0 F H) (h : H p = some o) (n0 : H0 p = none) : Gr M F0 H0 (upd F p o) H :=
  ⟨fun b u e => by
      by_cases hb : b = p
      · subst hb; rw [upd_same] at e; cases e; exact h
      · rw [upd_ne hb] at e; exact g.fh b u e,
    fun b u e => by
      by_cases hb : b = p
      · subst hb
        have := g.fh b u (g.ff b u e)
        rw [h] at this; cases this
        exact upd_same
      · rw [upd_ne hb]; exact g.ff b u e, g.keep, g.there,
    fun a e n => by
      have ha : a ≠ p := fun z => by subst z; exact e n0
      rw [upd_ne ha]; exact g.new a e n⟩
theorem Gr.seq (g : Gr M F0 H0 F H) (m : ¬ M a) (h : SqL K H0 a xs) : SqL K H a xs := by
  rcases h with (h | ⟨o, h⟩) | h
  · exact .inl (.inl (g.keep _ _ m h))
  · exact .inl (.inr ⟨o, g.keep _ _ m h⟩)
  · exact .inr h
theorem same_frz (h : H p = some o) (n : F p = none) : Same F (upd F p o) := same_new n
end

/-! ### the makings, step by step -/
def bind2 {α β γ : Type} (o : Option (α × β)) (f : α → β → Option γ) : Option γ := o.bind fun p => f p.1 p.2
def bind3 {α β γ δ : Type} (o : Option (α × β × γ)) (f : α → β → γ → Option δ) : Option δ := o.bind fun p => f p.1 p.2.1 p.2.2
def bind4 {α β γ δ ε : Type} (o : Option (α × β × γ × δ)) (f : α → β → γ → δ → Option ε) : Option ε := o.bind fun p => f p.1 p.2.1 p.2.2.1 p.2.2.2
def bind5 {α β γ δ ε ζ : Type} (o : Option (α × β × γ × δ × ε)) (f : α → β → γ → δ → ε → Option ζ) : Option ζ := o.bind fun p => f p.1 p.2.1 p.2.2.1 p.2.2.2.1 p.2.2.2.2
theorem bnd {α β : Type} {o : Option α} {f : α → Option β} {r : β} (h : Option.bind o f = some r) : ∃ x, o = some x ∧ f x = some r := Option.bind_eq_some_iff.mp h
theorem bnd2 {α β γ : Type} {o : Option (α × β)} {f : α → β → Option γ} {r : γ} (h : bind2 o f = some r) : ∃ x y, o = some (x, y) ∧ f x y = some r :=
  let ⟨p, e, k⟩ := Option.bind_eq_some_iff.mp h
  ⟨p.1, p.2, e, k⟩
theorem bnd3 {α β γ δ : Type} {o : Option (α × β × γ)} {f : α → β → γ → Option δ} {r : δ} (h : bind3 o f = some r) : ∃ x y z, o = some (x, y, z) ∧ f x y z = some r :=
  let ⟨p, e, k⟩ := Option.bind_eq_some_iff.mp h
  ⟨p.1, p.2.1, p.2.2, e, k⟩
theorem bnd4 {α β γ δ ε : Type} {o : Option (α × β × γ × δ)} {f : α → β → γ → δ → Option ε} {r : ε} (h : bind4 o f = some r) : ∃ x y z u, o = some (x, y, z, u) ∧ f x y z u = some r :=
  let ⟨p, e, k⟩ := Option.bind_eq_some_iff.mp h
  ⟨p.1, p.2.1, p.2.2.1, p.2.2.2, e, k⟩
theorem bnd5 {α β γ δ ε ζ : Type} {o : Option (α × β × γ × δ × ε)} {f : α → β → γ → δ → ε → Option ζ} {r : ζ} (h : bind5 o f = some r) : ∃ x y z u t, o = some (x, y, z, u, t) ∧ f x y z u t = some r :=
  let ⟨p, e, k⟩ := Option.bind_eq_some_iff.mp h
  ⟨p.1, p.2.1, p.2.2.1, p.2.2.2.1, p.2.2.2.2, e, k⟩
/-- a loop's end: gone on, or handed back -/
inductive Lp (S R : Type) where
  | go (s : S)
  | ret (r : R)
def bindL {S R T : Type} (o : Option (Lp S R)) (f : S → Option T) (g : R → Option T) : Option T := o.bind fun l => match l with
  | .go s => f s
  | .ret r => g r
theorem ifT {α : Type} {c : Bool} {a b : α} {r : α} (h : c = true) (e : (if c = true then a else b) = r) : a = r := by rw [if_pos h] at e; exact e
theorem ifF {α : Type} {c : Bool} {a b : α} {r : α} (h : c = false) (e : (if c = true then a else b) = r) : b = r := by rw [if_neg (by rw [h]; decide)] at e; exact e
theorem iteB {c : Bool} {A B : Prop} (h1 : c = true → A) (h2 : c = false → B) : if c = true then A else B := by
  cases c with
  | true => exact h1 rfl
  | false => exact h2 rfl
theorem drop_at {α : Type} {xs : List α} {i : Nat} {x : α} (h : xs[i]? = some x) : xs.drop i = x :: xs.drop (i + 1) := by
  obtain ⟨h1, h2⟩ := List.getElem?_eq_some_iff.mp h
  rw [List.drop_eq_getElem_cons h1, h2]
theorem drop_end {α : Type} {xs : List α} {n : Nat} (h : n = xs.length) : xs.drop n = [] := by subst h; exact List.drop_length
end G
/-! My base, part 2: operations of the makings, and their rules. -/
namespace G
open PySem PySem.Spec PyProof.Rows L2 TL

/-! ### ints, truths -/
def eqI (a b : Int) : Bool := decide (V.int a = V.int b)
def neI (a b : Int) : Bool := !decide (V.int a = V.int b)
def eqB (a b : Bool) : Bool := decide (V.bl a = V.bl b)
def neB (a b : Bool) : Bool := !decide (V.bl a = V.bl b)
def eqS (a b : Str) : Bool := decide (V.str a = V.str b)
def neS (a b : Str) : Bool := !decide (V.str a = V.str b)
theorem eqI_iff {a b : Int} : eqI a b = decide (a = b) := by unfold eqI; simp
theorem neI_iff {a b : Int} : neI a b = !decide (a = b) := by unfold neI; simp
theorem eqB_iff {a b : Bool} : eqB a b = decide (a = b) := by unfold eqB; simp
theorem neB_iff {a b : Bool} : neB a b = !decide (a = b) := by unfold neB; simp
theorem eqS_iff {a b : Str} : eqS a b = decide (a = b) := by unfold eqS; simp
theorem neS_iff {a b : Str} : neS a b = !decide (a = b) := by unfold neS; simp
def toI (b : Bool) : Int := if b then 1 else 0
def mulI (a b : Int) : Option Int := if a.natAbs.log2 + b.natAbs.log2 < 1000000 then some (a * b) else none
def divI (a b : Int) : Option Int := if 0 < b ∧ b.natAbs.log2 < 9000 then some (a / b) else none
def modI (a b : Int) : Option Int := if 0 < b then some (a % b) else none
def shlI (a b : Int) : Option Int := if 0 ≤ b ∧ b ≤ 1000000 ∧ a.natAbs < 2 ^ 64 then some (a * 2 ^ b.toNat) else none
def shrI (a b : Int) : Option Int := if 0 ≤ b then some (a / 2 ^ b.toNat) else none
theorem mulI_ok {a b r : Int} (h : mulI a b = some r) : CMulW a b ∧ a * b = r := by
  unfold mulI at h
  split at h
  · exact ⟨by assumption, Option.some.inj h⟩
  · cases h
theorem divI_ok {a b r : Int} (h : divI a b = some r) : CDivW a b ∧ a / b = r := by
  unfold divI at h
  split at h
  · exact ⟨by assumption, Option.some.inj h⟩
  · cases h
theorem modI_ok {a b r : Int} (h : modI a b = some r) : 0 < b ∧ a % b = r := by
  unfold modI at h
  split at h
  · exact ⟨by assumption, Option.some.inj h⟩
  · cases h
theorem shlI_ok {a b r : Int} (h : shlI a b = some r) : CPow a b ∧ a * 2 ^ b.toNat = r := by
  unfold shlI at h
  split at h
  · exact ⟨by assumption, Option.some.inj h⟩
  · cases h
theorem shrI_ok {a b r : Int} (h : shrI a b = some r) : 0 ≤ b ∧ a / 2 ^ b.toNat = r := by
  unfold shrI at h
  split at h
  · exact ⟨by assumption, Option.some.inj h⟩
  · cases h
theorem maxI_eq {i j : Int} : (if j > i then j else i) = max i j := by omega
theorem minI_eq {i j : Int} : (if j < i then j else i) = min i j := by omega

/-! ### texts -/
def sgn (c : Nat) : Str := ⟨#[c]⟩
theorem GS.of {x : Str} (h1 : (tl x).length ≤ sizeLine) (h2 : ∀ c ∈ tl x, c < 0x110000) : GS x := by
  refine ⟨by rw [len_tl]; exact h1, ?_⟩
  show x.cps.all (fun c => decide (c < 0x110000)) = true
  rw [Array.all_eq_true']
  intro c hc
  exact decide_eq_true (h2 c (by simpa [tl] using hc))
theorem GS.mem {x : Str} (g : GS x) : ∀ c ∈ tl x, c < 0x110000 := by
  intro c hc
  have h : x.cps.all (fun c => decide (c < 0x110000)) = true := g.ok
  rw [Array.all_eq_true'] at h
  exact of_decide_eq_true (h c (by simpa [tl] using hc))
theorem GS.tll {x : Str} (g : GS x) : (tl x).length ≤ sizeLine := by rw [← len_tl]; exact g.len
theorem GS.sg {x : Str} {c : Nat} (g : GS x) (h : c ∈ tl x) : GS (sgn c) := GS.of (by show 1 ≤ sizeLine; decide) (fun d hd => by
  have e : d = c := by simpa [tl, sgn] using hd
  rw [e]
  exact g.mem c h)
theorem GS.cut {x : Str} (g : GS x) (lo hi : Option Int) : GS (cutS x lo hi) := GS.of (by
    rw [← len_tl]
    exact Nat.le_trans (cutS_length x lo hi) g.len)
  fun c hc => g.mem c (List.mem_of_mem_drop (List.mem_of_mem_take (show c ∈ ((tl x).drop _).take _ from hc)))
def catS (a b : Str) : Option Str := if a.length + b.length ≤ sizeLine then some (a ++ b) else none
theorem catS_ok {a b r : Str} (h : catS a b = some r) : a.length + b.length ≤ sizeLine ∧ a ++ b = r := by
  unfold catS at h
  split at h
  · exact ⟨by assumption, Option.some.inj h⟩
  · cases h
theorem GS.cat {a b r : Str} (ga : GS a) (gb : GS b) (h : catS a b = some r) : GS r := by
  obtain ⟨h1, rfl⟩ := catS_ok h
  refine GS.of ?_ fun c hc => ?_
  · rw [tl_append, List.length_append, ← len_tl, ← len_tl]
    exact h1
  · rw [tl_append] at hc
    rcases List.mem_append.mp hc with k | k
    · exact ga.mem c k
    · exact gb.mem c k
/-- the sign at a place -/
def codeAt (x : Str) (i : Int) : Option Nat := atI (tl x) i
theorem codeAt_mem {x : Str} {i : Int} {c : Nat} (h : codeAt x i = some c) : c ∈ tl x := by
  unfold codeAt atI at h
  cases e : ixN (tl x).length i with
  | none => rw [e] at h; cases h
  | some j => rw [e] at h; exact List.mem_of_getElem? h
def mulS (x : Str) (n : Int) : Option Str := if -(2 ^ 63 : Int) ≤ n ∧ n ≤ 16777216 ∧ x.length * n.toNat ≤ 16777216 then some (Txt.mul x n) else none
theorem mulS_ok {x r : Str} {n : Int} (h : mulS x n = some r) : MulOk x n ∧ Txt.mul x n = r := by
  unfold mulS at h
  split at h
  · rename_i q
    exact ⟨mulOk_of x.length n.toNat (Nat.le_refl _) (by omega) q.1 (by omega) q.2.2, Option.some.inj h⟩
  · cases h
theorem foldl_app (cs : Array Nat) : ∀ (k : Nat) (acc : Array Nat), ((List.replicate k cs).foldl (· ++ ·) acc).toList = acc.toList ++ (List.replicate k cs.toList).flatten
  | 0, acc => by simp
  | k + 1, acc => by
    rw [List.replicate_succ, List.foldl_cons, foldl_app cs k, List.replicate_succ, List.flatten_cons, Array.toList_append, List.append_assoc]
theorem tl_mul (x : Str) (n : Int) : tl (Txt.mul x n) = (List.replicate n.toNat (tl x)).flatten := by
  unfold Txt.mul
  split
  · have e : n.toNat = 0 := by omega
    rw [e]
    rfl
  · split
    · rename_i h1 h2
      rcases Bool.or_eq_true_iff.mp h2 with h | h
      · have e : n = 1 := eq_of_beq h
        subst e
        show tl x = [tl x].flatten
        simp
      · have e : x.length = 0 := eq_of_beq h
        have e2 : tl x = [] := List.eq_nil_of_length_eq_zero (by rw [← len_tl]; exact e)
        rw [e2]
        simp
    · show ((List.replicate n.toNat x.cps).foldl (· ++ ·) #[]).toList = _
      rw [foldl_app]
      rfl
theorem GS.mul {x r : Str} {n : Int} (g : GS x) (h : mulS x n = some r) : GS r := by
  have h0 := h
  unfold mulS at h0
  split at h0
  · rename_i q
    obtain ⟨_, rfl⟩ := mulS_ok h
    refine GS.of ?_ fun c hc => ?_
    · rw [tl_mul, List.length_flatten, List.map_replicate, List.sum_replicate_nat, ← len_tl, sizeLine_eq, Nat.mul_comm]
      exact q.2.2
    · rw [tl_mul] at hc
      obtain ⟨l, hl, hc⟩ := List.mem_flatten.mp hc
      rw [(List.mem_replicate.mp hl).2] at hc
      exact g.mem c hc
  · cases h0
def joinS (sep : Str) (ys : List Str) : Option Str := if (ys.map (·.length)).sum + ys.length * sep.length ≤ 16777216 then some (Txt.join sep ys) else none
theorem joinS_ok {sep r : Str} {ys : List Str} (h : joinS sep ys = some r) : (ys.map (·.length)).sum + ys.length * sep.length ≤ 16777216 ∧ Txt.join sep ys = r := by
  unfold joinS at h
  split at h
  · exact ⟨by assumption, Option.some.inj h⟩
  · cases h
theorem tl_joinS (sep : Str) (ys : List Str) : tl (Txt.join sep ys) = joinL (tl sep) (ys.map tl) := by
  have e : Txt.join sep ys = Str.join sep ys := by
    unfold Txt.join; exact StrLaws.glued_eq_join sep ys
  rw [e, tl_join]
end G
/-! My base, part 3: rules. -/
namespace G
open PySem PySem.Spec PyProof.Rows L2 TL

section
variable {X : Cx}
theorem CallR.imp {f : Value} {r r' : List V → Hp → VK → Prop} (h : CallR X f r) (k : ∀ xs H Q, r' xs H Q → r xs H Q) : CallR X f r' :=
  fun pins s σ H xs us Q I rx q => h pins s σ H xs us Q I rx (k _ _ _ q)
theorem OpR.imp {f : Value → Value → Sem Value} {r r' : R2} (h : OpR X f r) (k : ∀ x y H Q, r' x y H Q → r x y H Q) : OpR X f r' :=
  fun pins s σ H x y v u Q I rx ry q => h pins s σ H x y v u Q I rx ry (k _ _ _ _ q)
/-- int(a truth) -/
theorem call_toI : CallR X (.type "int") (fun xs H Q => ∃ k, xs = [.bl k] ∧ Q (.int (toI k)) H) := CallR.imp call_int1 fun xs H Q ⟨k, e, q⟩ => .inr ⟨k, e, q⟩
/-- len(a list or tuple), told -/
theorem call_lenL : CallR X (.builtin "len") (fun xs H Q => ∃ p ys n, xs = [.ref p] ∧ (SqL X.K H p ys ∨ SqT X.K H p ys) ∧ ys.length = n ∧ Q (.int (n : Nat)) H) :=
  CallR.imp call_len_seq fun xs H Q ⟨p, ys, n, e, h, e2, q⟩ => ⟨p, ys, e, h, by rw [e2]; exact q⟩
/-- is None, told -/
theorem op_isO : OpR X (compareOp .Is) (fun x y H Q => ∃ b, y = .non ∧ decide (x = .non) = b ∧ Q (.bl b) H) := OpR.imp op_isN fun x y H Q ⟨b, e, e2, q⟩ => ⟨e, by rw [e2]; exact q⟩
theorem op_notO : OpR X (compareOp .IsNot) (fun x y H Q => ∃ b, y = .non ∧ decide (x = .non) = b ∧ Q (.bl (!b)) H) := OpR.imp op_notN fun x y H Q ⟨b, e, e2, q⟩ => ⟨e, by rw [e2]; exact q⟩
theorem op_mulS : OpR X (binaryOp .Mult) (fun x y H Q => ∃ z n, x = .str z ∧ y = .int n ∧ MulOk z n ∧ Q (.str (Txt.mul z n)) H) := by
  intro pins s σ H x y v u Q I rx ry h
  obtain ⟨z, n, rfl, rfl, ok, q⟩ := h
  obtain ⟨t, rfl⟩ := rx
  obtain ⟨t', rfl⟩ := ry
  exact SB.mul ok fun t' k => ⟨.str _, H, I.tok k, ⟨t', rfl⟩, q⟩
/-- xs + ys, lists that are read -/
def rCatL (K : PySem.W.Frag) : R2 := fun x y H Q => ∃ l b xs zs, x = .ref l ∧ y = .ref b ∧ SqL K H l xs ∧ SqL K H b zs ∧ xs.length + zs.length ≤ sizeLine ∧ ∀ p, H p = none → Q (.ref p) (upd H p (.lst (xs ++ zs)))
theorem op_catL : OpR X (binaryOp .Add) (rCatL X.K) := by
  intro pins s σ H x y v u Q I rx ry h
  obtain ⟨l, b, xs, zs, rfl, rfl, hH, hB, hz, q⟩ := h
  cases rx
  cases ry
  obtain ⟨its, r, p1, hl⟩ := I.list hH
  obtain ⟨its2, r2, p2, hl2⟩ := I.list hB
  obtain ⟨⟨cls, dd, data, sl⟩, ho, hc, n, hd⟩ := p1.isList
  obtain ⟨⟨cls2, dd2, data2, sl2⟩, ho2, hc2, n2, hd2⟩ := p2.isList
  simp only at hc hd hc2 hd2
  subst hc hd hc2 hd2
  have ea : its.toArray ++ its2.toArray = (its ++ its2).toArray := by simp
  have e1 := r.length
  have e2 := r2.length
  refine concat_meets ⟨_, ho, rfl⟩ ⟨_, ho2, rfl⟩ noFill_list_add seq_list_add PySem.F.slot_list_add PySem.F.entry_list_add (PySem.F.args_list_add_2 _ _) (PyProof.Rows.list_addW l b its.toArray its2.toArray n n2 dd dd2 sl sl2 (by simp; omega)) ⟨ho, ho2, ?_⟩
  rw [ea]
  exact ⟨.ref _, _, I.lnew (t' := s.toks) (r.append r2) (by rw [List.length_append]; omega), rfl, q _ I.fresh⟩
end

/-! ### parts of an expression, closed: what they come to, whatever follows -/
section
variable {M : Addr → Prop} {F H : Hp} {σ : L2.St} {ta tb tc : TE} {Q : VK} {a c k : Bool}
/-- t comes to the truth c -/
def EvB (M : Addr → Prop) (F H : Hp) (t : VK → Prop) (c : Bool) : Prop := ∀ Q : VK, (∀ F' H', Gr M F H F' H' → Q (.bl c) H') → t Q
def EvT (M : Addr → Prop) (F H : Hp) (t : (Bool → Hp → Prop) → Prop) (c : Bool) : Prop := ∀ Q : Bool → Hp → Prop, (∀ F' H', Gr M F H F' H' → Q c H') → t Q
theorem andV_g (h1 : EvB M F H (fun Q => ta σ H Q) a) (h2 : a = true → ∀ F1 H1, Gr M F H F1 H1 → EvB M F1 H1 (fun Q => tb σ H1 Q) c) (h3 : a = false → c = false)
    (q : ∀ F' H', Gr M F H F' H' → Q (.bl c) H') : tAndV ta tb σ H Q := h1 _ fun F1 H1 g1 => ⟨a, rfl, by
  cases e : a with
  | true => exact iteT (h2 e F1 H1 g1 _ fun F2 H2 g2 => q F2 H2 (g1.trans g2))
  | false =>
    have ec := h3 e
    subst ec
    exact iteF (q F1 H1 g1)⟩
theorem orV_g (h1 : EvB M F H (fun Q => ta σ H Q) a) (h2 : a = false → ∀ F1 H1, Gr M F H F1 H1 → EvB M F1 H1 (fun Q => tb σ H1 Q) c) (h3 : a = true → c = true)
    (q : ∀ F' H', Gr M F H F' H' → Q (.bl c) H') : tOrV ta tb σ H Q := h1 _ fun F1 H1 g1 => ⟨a, rfl, by
  cases e : a with
  | false => exact iteF (h2 e F1 H1 g1 _ fun F2 H2 g2 => q F2 H2 (g1.trans g2))
  | true =>
    have ec := h3 e
    subst ec
    exact iteT (q F1 H1 g1)⟩
theorem andT_g {ta tb : TT} {Q : Bool → Hp → Prop} (h1 : EvT M F H (fun Q => ta σ H Q) a) (h2 : a = true → ∀ F1 H1, Gr M F H F1 H1 → EvT M F1 H1 (fun Q => tb σ H1 Q) c) (h3 : a = false → c = false)
    (q : ∀ F' H', Gr M F H F' H' → Q c H') : tAnd ta tb σ H Q := h1 _ fun F1 H1 g1 => by
  cases e : a with
  | true => exact iteT (h2 e F1 H1 g1 _ fun F2 H2 g2 => q F2 H2 (g1.trans g2))
  | false =>
    have ec := h3 e
    subst ec
    exact iteF (q F1 H1 g1)
theorem orT_g {ta tb : TT} {Q : Bool → Hp → Prop} (h1 : EvT M F H (fun Q => ta σ H Q) a) (h2 : a = false → ∀ F1 H1, Gr M F H F1 H1 → EvT M F1 H1 (fun Q => tb σ H1 Q) c) (h3 : a = true → c = true)
    (q : ∀ F' H', Gr M F H F' H' → Q c H') : tOr ta tb σ H Q := h1 _ fun F1 H1 g1 => by
  cases e : a with
  | false => exact iteF (h2 e F1 H1 g1 _ fun F2 H2 g2 => q F2 H2 (g1.trans g2))
  | true =>
    have ec := h3 e
    subst ec
    exact iteT (q F1 H1 g1)
/-- a < b < c -/
theorem chainV_g {r r' : R2} (h1 : EvB M F H (fun Q => ta σ H fun x H1 => tb σ H1 fun y H2 => r x y H2 Q) a) (h : tChain r r' ta tb tc σ H Q) : tChain r r' ta tb tc σ H Q := h
/-- e if t else e': it comes to what P says -/
theorem ifE_g {tt : TT} {P : V → Hp → Hp → Prop} (h1 : EvT M F H (fun Q => tt σ H Q) a)
    (h2 : a = true → ∀ F1 H1, Gr M F H F1 H1 → ∀ Q : VK, (∀ v F' H', Gr M F1 H1 F' H' → P v F' H' → Q v H') → ta σ H1 Q)
    (h3 : a = false → ∀ F1 H1, Gr M F H F1 H1 → ∀ Q : VK, (∀ v F' H', Gr M F1 H1 F' H' → P v F' H' → Q v H') → tb σ H1 Q)
    (q : ∀ v F' H', Gr M F H F' H' → P v F' H' → Q v H') : tIf tt ta tb σ H Q := h1 _ fun F1 H1 g1 => by
  cases e : a with
  | true => exact iteT (h2 e F1 H1 g1 _ fun v F2 H2 g2 => q v F2 H2 (g1.trans g2))
  | false => exact iteF (h3 e F1 H1 g1 _ fun v F2 H2 g2 => q v F2 H2 (g1.trans g2))
end

/-! ### peeling a statement -/
section
variable {D : Ends} {σ : L2.St} {H : Hp} {t u : TS} {te : TE} {g : TG} {c : TT}
theorem p_seq (h : t { D with nx := u D } σ H) : tSeq t u D σ H := h
theorem p_asg (h : te σ H (fun x H1 => g x σ H1 D.nx)) : tAsg te g D σ H := h
theorem p_ret (h : te σ H D.rt) : tRet te D σ H := h
theorem p_if (h : c σ H (fun b H1 => if b = true then t D σ H1 else u D σ H1)) : tIfS c t u D σ H := h
theorem p_drop (h : te σ H (fun _ H1 => D.nx σ H1)) : tDrop te D σ H := h
/-- a statement, then the rest, with a word between them -/
def tCut (t u : TS) : TS := fun D σ H => ∃ Mid : L2.St → Hp → Prop, t { D with nx := Mid } σ H ∧ ∀ σ' H', Mid σ' H' → u D σ' H'
theorem pss_cut {X : Cx} {st : Stmt} {rest : List Stmt} (h1 : PS X st t) (h2 : PSs X rest u) : PSs X (st :: rest) (tCut t u) := by
  refine ⟨fun pins s σ H D I h => ?_⟩
  obtain ⟨Mid, hm, hu⟩ := h
  refine wpAny_execs_cons (thn (h1.run pins s σ H { D with nx := Mid } I hm) fun f s1 q => ?_)
  cases f with
  | next =>
    obtain ⟨σ', H', I', q⟩ := q
    exact h2.run pins s1 σ' H' D I' (hu σ' H' q)
  | ret v => exact q
  | brk => exact q
  | cont => exact q
end

/-! ### a call by names alone -/
section
variable {X : Cx} {CX : CXT} {k : Nat} {f : Addr} {fd : FuncData} {ps ks : List Str} {sp : Sp} {E : XK} {x : Str} {p pos : Pos} {kws : List Keyword} {tk : TA} {g : List Value → List Value → List Value} {gV : List V → List V → List V}
theorem pe_callK0 (F : FnOk X.prog X.w X.K X.mg X.base CX k f fd ps sp) (hr : Room k X.A) (hg : Gl X x) (hm : X.mg x = some (.ref f)) (hk : PySem.W.keepIn X.K (.ref f) = true) (hb : KBinds X.K fd ps ks g gV) (hx : Passes CX X E)
    (hkw : PK X kws tk) (hall : (backToKw pos (keywordEach kws X.env)).all (·.1.isSome) = true := by rfl) (hks : (backToKw pos (keywordEach kws X.env)).filterMap (·.1) = ks := by rfl)
    (hdb : (x == ("__debug__" : Str)) = false := by decide)
    (hpl : ((backTo pos (starEach [] X.env)).any (·.1) || (backToKw pos (keywordEach kws X.env)).any (·.1.isNone)) = false := by rfl) :
    PE X (.Call (.Name x p) [] kws pos) (tCallK sp gV E tNil tk) := by
  refine ⟨fun pins s σ H Q I h => ?_⟩
  refine wpAny_Call_Name_kw (ld_glob I hg hm ?_ hdb)
  refine PySem.W.callWith_KW0 (h₀ := X.base) I.ok.mod.kin hk hall ?_ hpl
  refine thn (hkw.run pos pins s σ H _ I h) fun ws s2 ⟨zs, H2, I2, rz, q2⟩ => ⟨I2.kIn, ?_⟩
  rw [hks]
  exact run_fnk F hr hb hx I2 .nil rz q2
end

/-! ### texts kept in a written table -/
def dgetS (kvs : List (Str × Str)) (k d : Str) : Str := ((kvs.find? fun kv => decide (kv.1 = k)).map (·.2)).getD d
def kvS (kvs : List (Str × Str)) : List (Key × V) := kvs.map fun kv => (Sum.inr kv.1, V.str kv.2)
theorem valS (k : Str) : ∀ kvs : List (Str × Str), valV (kvS kvs) (Sum.inr k) = ((kvs.find? fun kv => decide (kv.1 = k)).map (·.2)).map V.str
  | [] => rfl
  | kv :: r => by
    unfold valV kvS
    rw [List.map_cons, List.find?_cons, List.find?_cons]
    by_cases h : kv.1 = k
    · have h' : (Sum.inr kv.1 : Key) = Sum.inr k := by rw [h]
      simp only [decide_eq_true h, decide_eq_true h', Option.map_some]
    · have h' : ¬ (Sum.inr kv.1 : Key) = Sum.inr k := fun e => h (Sum.inr.inj e)
      simp only [decide_eq_false h, decide_eq_false h']
      exact valS k r
theorem rd_dgets {ty tx : TE} {σ : L2.St} {H : Hp} {Q : VK} {k d : Str} (trs : List (TE × TE)) (kvs : List (Str × Str)) (he : trs = kvs.map fun kv => (tC (.str kv.1), tC (.str kv.2))) (h15 : kvs.length ≤ 15) (hm : mergeK [] (kvS kvs) = kvS kvs)
    (hy : ∀ H1 Q', Q' (.str k) H1 → ty σ H1 Q') (hx : ∀ H1 Q', Q' (.str d) H1 → tx σ H1 Q') (q : ∀ p, H p = none → Q (.str (dgetS kvs k d)) (upd H p (.dK (kvS kvs)))) : tDGet2 (tDisp trs) ty tx σ H Q := by
  intro p hp
  have walk : ∀ (l : List (Str × Str)) (R : List (V × V) → Hp → Prop) (H1 : Hp), R (l.map fun kv => (V.str kv.1, V.str kv.2)) H1 → tPairs (l.map fun kv => (tC (.str kv.1), tC (.str kv.2))) σ H1 R := by
    intro l
    induction l with
    | nil => intro R H1 h; exact h
    | cons kv l ih => intro R H1 h; exact ih (fun ps H3 => R ((V.str kv.1, V.str kv.2) :: ps) H3) H1 h
  rw [he]
  refine walk kvs _ _ ⟨upd_same, kvS kvs, ?_, ?_, ?_⟩
  · unfold kvS
    rw [List.map_map]
    rfl
  · unfold kvS
    rw [List.length_map]
    exact h15
  · rw [hm, upd_upd]
    refine ⟨p, rfl, .inl ⟨_, .inl upd_same⟩, hy _ _ (hx _ _ ⟨_, DGet.k (k := Sum.inr k) upd_same, ?_⟩)⟩
    rw [valS]
    have e : (((kvs.find? fun kv => decide (kv.1 = k)).map (·.2)).map V.str).getD (.str d) = .str (dgetS kvs k d) := by
      unfold dgetS
      cases (kvs.find? fun kv => decide (kv.1 = k)) <;> rfl
    rw [e]
    exact q p hp
theorem GS.dg {kvs : List (Str × Str)} {k d : Str} (h : ∀ kv ∈ kvs, GS kv.2) (hd : GS d) : GS (dgetS kvs k d) := by
  unfold dgetS
  cases e : (kvs.find? fun kv => decide (kv.1 = k)) with
  | none => exact hd
  | some kv => exact h kv (List.mem_of_find?_eq_some e)
end G
/-! My base, part 4: lists of one's own, the bag. -/
namespace G
open PySem PySem.Spec PyProof.Rows L2 TL

/-- a list of one's own at p: made behind the entry (H0), not among what stays (F) -/
structure Ow (H0 F H : Hp) (p : Addr) (ws : List V) : Prop where
  h : H p = some (.lst ws)
  nF : F p = none
  n0 : H0 p = none
section
variable {M : Addr → Prop} {F0 H0 F H F' H' : Hp} {p q : Addr} {o : HO} {K : PySem.W.Frag} {xs ws us : List V}
theorem Ow.new (g : Gr M F0 H0 F H) (hp : H p = none) : Ow H0 F (upd H p (.lst ws)) p ws := ⟨upd_same, g.noneF hp, g.none0 hp⟩
theorem Ow.frz (w : Ow H0 F H p ws) (hq : H q = none) : Ow H0 (upd F q o) (upd H q o) p ws :=
  have ne := ne_of_none w.h hq
  ⟨(upd_ne ne).trans w.h, (upd_ne ne).trans w.nF, w.n0⟩
theorem Ow.own (w : Ow H0 F H p ws) (hq : H q = none) : Ow H0 F (upd H q o) p ws :=
  have ne := ne_of_none w.h hq
  ⟨(upd_ne ne).trans w.h, w.nF, w.n0⟩
theorem Ow.put (w : Ow H0 F H p ws) : Ow H0 F (upd H p (.lst us)) p us := ⟨upd_same, w.nF, w.n0⟩
theorem Ow.other (w : Ow H0 F H p ws) (ne : p ≠ q) : Ow H0 F (upd H q o) p ws := ⟨(upd_ne ne).trans w.h, w.nF, w.n0⟩
theorem Ow.ne (w : Ow H0 F H p ws) (hq : H q = none) : p ≠ q := ne_of_none w.h hq
theorem Ow.gr (w : Ow H0 F H p ws) (g : Gr M F H F' H') (m : ¬ M p) : Ow H0 F' H' p ws :=
  ⟨g.keep _ _ m w.h, g.new p (by rw [w.h]; simp) w.nF, w.n0⟩
theorem Ow.gr0 (w : Ow H0 F H p ws) (g : Gr M0 F H F' H') : Ow H0 F' H' p ws := w.gr g id
theorem Ow.fz (w : Ow H0 F H p ws) (ne : p ≠ q) : Ow H0 (upd F q o) H p ws := ⟨w.h, (upd_ne ne).trans w.nF, w.n0⟩
theorem Gr.put (g : Gr M F0 H0 F H) (w : Ow H0 F H p ws) : Gr M F0 H0 F (upd H p o) := g.mut w.nF (.inl w.n0)
theorem Gr.fz (g : Gr M F0 H0 F H) (w : Ow H0 F H p ws) : Gr M F0 H0 (upd F p (.lst ws)) H := g.freeze w.h w.n0
theorem Ow.sq (w : Ow H0 F H p ws) : SqL K H p ws := .inl (.inl w.h)
theorem Ow.sf (w : Ow H0 F H p ws) : Same F (upd F p (.lst ws)) := same_new w.nF
theorem fzS : SqL K (upd F p (.lst ws)) p ws := .inl (.inl upd_same)
theorem fzT : SqT K (upd F p (.tup ws)) p ws := .inl (.inl upd_same)
end

/-- the bag of a law: its cells, which is next, the seed, how many were stirred -/
structure Bag where
  cells : List Int
  at_ : Nat
  seed : Int
  cnt : Int
structure BagOk (b : Bag) : Prop where
  lo : 0 ≤ b.seed
  hi : b.seed < 2 ^ 31
abbrev Bc (B C : Addr) : Addr → Prop := fun a => a = B ∨ a = C
structure BagAt (F H : Hp) (B C : Addr) (b : Bag) : Prop where
  hB : H B = some (.lst [.ref C, .int (b.at_ : Nat), .int b.seed, .int b.cnt])
  hC : H C = some (.lst (b.cells.map V.int))
  ne : B ≠ C
  fB : F B = none
  fC : F C = none
section
variable {M : Addr → Prop} {F0 H0 F H F' H' : Hp} {p q B C : Addr} {o : HO} {b b' : Bag} {ws : List V}
theorem BagAt.frz (a : BagAt F H B C b) (hq : H q = none) : BagAt (upd F q o) (upd H q o) B C b :=
  have n1 := ne_of_none a.hB hq
  have n2 := ne_of_none a.hC hq
  ⟨(upd_ne n1).trans a.hB, (upd_ne n2).trans a.hC, a.ne, (upd_ne n1).trans a.fB, (upd_ne n2).trans a.fC⟩
theorem BagAt.own (a : BagAt F H B C b) (hq : H q = none) : BagAt F (upd H q o) B C b :=
  have n1 := ne_of_none a.hB hq
  have n2 := ne_of_none a.hC hq
  ⟨(upd_ne n1).trans a.hB, (upd_ne n2).trans a.hC, a.ne, a.fB, a.fC⟩
theorem BagAt.nb (a : BagAt F H B C b) (hq : H q = none) : ¬ Bc B C q := fun z => by
  rcases z with z | z
  · exact ne_of_none a.hB hq z.symm
  · exact ne_of_none a.hC hq z.symm
theorem BagAt.other (a : BagAt F H B C b) (m : ¬ Bc B C q) : BagAt F (upd H q o) B C b :=
  have n1 : B ≠ q := fun z => m (.inl z.symm)
  have n2 : C ≠ q := fun z => m (.inr z.symm)
  ⟨(upd_ne n1).trans a.hB, (upd_ne n2).trans a.hC, a.ne, a.fB, a.fC⟩
theorem BagAt.fz (a : BagAt F H B C b) (m : ¬ Bc B C q) : BagAt (upd F q o) H B C b :=
  have n1 : B ≠ q := fun z => m (.inl z.symm)
  have n2 : C ≠ q := fun z => m (.inr z.symm)
  ⟨a.hB, a.hC, a.ne, (upd_ne n1).trans a.fB, (upd_ne n2).trans a.fC⟩
theorem BagAt.gr0 (a : BagAt F H B C b) (g : Gr M0 F H F' H') : BagAt F' H' B C b :=
  ⟨g.keep _ _ id a.hB, g.keep _ _ id a.hC, a.ne, g.new _ (by rw [a.hB]; simp) a.fB, g.new _ (by rw [a.hC]; simp) a.fC⟩
/-- a promise over the whole heap as what stays: the caller's own part stays apart -/
theorem Gr.apart (g : Gr M F0 H0 F H) (k : Gr M0 H H F' H') : Gr M F0 H0 F H' :=
  ⟨g.fh.trans fun a o e => k.keep a o id e, g.ff, fun a o m e => k.keep a o id (g.keep a o m e), fun a e => k.there a (g.there a e), g.new⟩
theorem Ow.apart (w : Ow H0 F H p ws) (k : Gr M0 H H F' H') : Ow H0 F H' p ws := ⟨k.keep _ _ id w.h, w.nF, w.n0⟩
theorem BagAt.apart (a : BagAt F H B C b) (k : Gr M0 H H F' H') : BagAt F H' B C b := ⟨k.keep _ _ id a.hB, k.keep _ _ id a.hC, a.ne, a.fB, a.fC⟩
end
end G
namespace G
open PySem PySem.Spec PyProof.Rows L2 TL
/-! ### loops' ends in the makings -/
def lpK {S R T : Type} (l : Lp S R) (f : S → Option T) (g : R → Option T) : Option T := match l with
  | .go s => f s
  | .ret r => g r
def bindL0 {R T : Type} (o : Option (Lp Unit R)) (f : Option T) (g : R → Option T) : Option T := o.bind fun l => lpK l (fun _ => f) g
def bindL1 {α R T : Type} (o : Option (Lp α R)) (f : α → Option T) (g : R → Option T) : Option T := o.bind fun l => lpK l f g
def bindL2 {α β R T : Type} (o : Option (Lp (α × β) R)) (f : α → β → Option T) (g : R → Option T) : Option T := o.bind fun l => lpK l (fun s => f s.1 s.2) g
def bindL3 {α β γ R T : Type} (o : Option (Lp (α × β × γ) R)) (f : α → β → γ → Option T) (g : R → Option T) : Option T := o.bind fun l => lpK l (fun s => f s.1 s.2.1 s.2.2) g
def bindL4 {α β γ δ R T : Type} (o : Option (Lp (α × β × γ × δ) R)) (f : α → β → γ → δ → Option T) (g : R → Option T) : Option T := o.bind fun l => lpK l (fun s => f s.1 s.2.1 s.2.2.1 s.2.2.2) g
section
variable {α β γ δ R T : Type} {g : R → Option T} {r : R} {t : T}
theorem bndL0 {o : Option (Lp Unit R)} {f : Option T} (h : bindL0 o f g = some t) : ∃ l, o = some l ∧ lpK l (fun _ => f) g = some t := Option.bind_eq_some_iff.mp h
theorem bndL1 {o : Option (Lp α R)} {f : α → Option T} (h : bindL1 o f g = some t) : ∃ l, o = some l ∧ lpK l f g = some t := Option.bind_eq_some_iff.mp h
theorem bndL2 {o : Option (Lp (α × β) R)} {f : α → β → Option T} (h : bindL2 o f g = some t) : ∃ l, o = some l ∧ lpK l (fun s => f s.1 s.2) g = some t := Option.bind_eq_some_iff.mp h
theorem bndL3 {o : Option (Lp (α × β × γ) R)} {f : α → β → γ → Option T} (h : bindL3 o f g = some t) : ∃ l, o = some l ∧ lpK l (fun s => f s.1 s.2.1 s.2.2) g = some t := Option.bind_eq_some_iff.mp h
theorem bndL4 {o : Option (Lp (α × β × γ × δ) R)} {f : α → β → γ → δ → Option T} (h : bindL4 o f g = some t) : ∃ l, o = some l ∧ lpK l (fun s => f s.1 s.2.1 s.2.2.1 s.2.2.2) g = some t := Option.bind_eq_some_iff.mp h
theorem bgo0 {f : Option T} (h : lpK (.go ()) (fun _ => f) g = some t) : f = some t := h
theorem bgo1 {f : α → Option T} {a : α} (h : lpK (.go a) f g = some t) : f a = some t := h
theorem bgo2 {f : α → β → Option T} {a : α} {b : β} (h : lpK (.go (a, b)) (fun s => f s.1 s.2) g = some t) : f a b = some t := h
theorem bgo3 {f : α → β → γ → Option T} {a : α} {b : β} {c : γ} (h : lpK (.go (a, b, c)) (fun s => f s.1 s.2.1 s.2.2) g = some t) : f a b c = some t := h
theorem bgo4 {f : α → β → γ → δ → Option T} {a : α} {b : β} {c : γ} {d : δ} (h : lpK (.go (a, b, c, d)) (fun s => f s.1 s.2.1 s.2.2.1 s.2.2.2) g = some t) : f a b c d = some t := h
theorem bret {S : Type} {f : S → Option T} (h : lpK (.ret r) f g = some t) : g r = some t := h
end
/-- ranges -/
def rangeL (lo : Int) (n : Nat) : List Int := (List.range n).map fun k => lo + (k : Nat)
theorem rangeL_at {lo : Int} {n i : Nat} (h : i < n) : (rangeL lo n)[i]? = some (lo + (i : Nat)) := by
  unfold rangeL
  rw [List.getElem?_map, List.getElem?_range h]
  rfl
theorem rangeL_len (lo : Int) (n : Nat) : (rangeL lo n).length = n := by unfold rangeL; simp
def rangeO (lo hi : Int) : Option (List Int) := if (-(2 ^ 62) ≤ lo ∧ lo < 2 ^ 62 ∧ -(2 ^ 62) ≤ hi ∧ hi < 2 ^ 62) ∧ (hi - lo).toNat ≤ sizeLine then some (rangeL lo (hi - lo).toNat) else none
theorem rangeO_ok {lo hi : Int} {l : List Int} (h : rangeO lo hi = some l) : ((-(2 ^ 62) ≤ lo ∧ lo < 2 ^ 62 ∧ -(2 ^ 62) ≤ hi ∧ hi < 2 ^ 62) ∧ (hi - lo).toNat ≤ sizeLine) ∧ rangeL lo (hi - lo).toNat = l := by
  unfold rangeO at h
  split at h
  · exact ⟨by assumption, Option.some.inj h⟩
  · cases h
def appL {α : Type} (xs : List α) (x : α) : Option (List α) := if xs.length < sizeLine then some (xs ++ [x]) else none
theorem appL_ok {α : Type} {xs r : List α} {x : α} (h : appL xs x = some r) : xs.length < sizeLine ∧ xs ++ [x] = r := by
  unfold appL at h
  split at h
  · exact ⟨by assumption, Option.some.inj h⟩
  · cases h
def conL {α : Type} (xs ys : List α) : Option (List α) := if xs.length + ys.length ≤ sizeLine then some (xs ++ ys) else none
theorem conL_ok {α : Type} {xs ys r : List α} (h : conL xs ys = some r) : xs.length + ys.length ≤ sizeLine ∧ xs ++ ys = r := by
  unfold conL at h
  split at h
  · exact ⟨by assumption, Option.some.inj h⟩
  · cases h
def cutL {α : Type} (xs : List α) (lo hi : Option Int) : List α := (xs.drop (HT.sIx xs.length 0 lo)).take (HT.sIx xs.length xs.length hi - HT.sIx xs.length 0 lo)
theorem str_at {x : Str} {i c : Nat} (h : x.cps[i]? = some c) : (tl x)[i]? = some c := by simpa [tl] using h
theorem str_size {x : Str} : x.cps.size = (tl x).length := by simp [tl]
theorem lt_line {a i n : Nat} (h : a ≤ i) (h2 : i < n) (h3 : n ≤ sizeLine) : a < sizeLine := by omega
theorem snoc_rest {α : Type} {ds rest res : List α} {x : α} (h : ds ++ (x :: rest) = res) : (ds ++ [x]) ++ rest = res := by rw [← h, List.append_assoc]; rfl
theorem sjoin {α : Type} {a b : α} (h : some a = some b) : a = b := Option.some.inj h
end G
/-! My base, part 5: more peeling, walks over texts, lists' operations. -/
namespace G
open PySem PySem.Spec PyProof.Rows L2 TL

section
variable {D : Ends} {σ : L2.St} {H : Hp} {t u : TS} {te : TE} {g : TG} {c : TT} {wi : TI} {i : Nat} {v : V} {k : L2.St → Hp → Prop}
theorem p_next (h : D.nx σ H) : tNext D σ H := h
theorem p_cont (h : D.ct σ H) : tCont D σ H := h
theorem p_brk (h : D.bk σ H) : tBreak D σ H := h
theorem p_name (h : k (σ.set i (some v)) H) : gName i v σ H k := h
theorem p_nm {v' : V} (e : v = v') (h : k (σ.set i (some v')) H) : gName i v σ H k := by subst e; exact h
theorem p_nx {f : L2.St → Hp → Prop} {r : VK} {bk ct : L2.St → Hp → Prop} (h : f σ H) : (Ends.mk f r bk ct).nx σ H := h
theorem p_yes {A B : Hp → Prop} (h : A H) : tYes σ H (fun b H3 => if b = true then A H3 else B H3) := h
theorem p_for (h : tFor wi g t D σ H) : tFor wi g t D σ H := h
theorem p_id (h : t D σ H) : t D σ H := h
end
theorem pjoin {α β : Type} {a c : α} {b d : β} (h : some (a, b) = some (c, d)) : a = c ∧ b = d := by
  injection h with h
  injection h with h1 h2
  exact ⟨h1, h2⟩
theorem pjoin3 {α β γ : Type} {a a' : α} {b b' : β} {c c' : γ} (h : some (a, b, c) = some (a', b', c')) : a = a' ∧ b = b' ∧ c = c' := by
  injection h with h
  injection h with h1 h2
  injection h2 with h2 h3
  exact ⟨h1, h2, h3⟩
theorem pjoin4 {α β γ δ : Type} {a a' : α} {b b' : β} {c c' : γ} {d d' : δ} (h : some (a, b, c, d) = some (a', b', c', d')) : a = a' ∧ b = b' ∧ c = c' ∧ d = d' := by
  injection h with h
  injection h with h1 h2
  injection h2 with h2 h3
  injection h3 with h3 h4
  exact ⟨h1, h2, h3, h4⟩
theorem pjoin5 {α β γ δ ε : Type} {a a' : α} {b b' : β} {c c' : γ} {d d' : δ} {e e' : ε} (h : some (a, b, c, d, e) = some (a', b', c', d', e')) : a = a' ∧ b = b' ∧ c = c' ∧ d = d' ∧ e = e' := by
  injection h with h
  injection h with h1 h2
  injection h2 with h2 h3
  injection h3 with h3 h4
  injection h4 with h4 h5
  exact ⟨h1, h2, h3, h4, h5⟩

/-! ### parts whose value is told -/
def tVal (t : TE) : TE := fun σ H Q => ∃ v, (∀ Q' : VK, Q' v H → t σ H Q') ∧ Q v H
def tValT (t : TT) : TT := fun σ H Q => ∃ b, (∀ Q' : Bool → Hp → Prop, Q' b H → t σ H Q') ∧ Q b H
section
variable {X : Cx}
theorem pe_val {e : Expr} {t : TE} (h : PE X e t) : PE X e (tVal t) := ⟨fun pins s σ H Q I q => by
  obtain ⟨v, k, q⟩ := q
  exact h.run pins s σ H Q I (k Q q)⟩
theorem pt_valT {e : Expr} {t : TT} (h : PT X e t) : PT X e (tValT t) := ⟨fun pins s σ H Q I q => by
  obtain ⟨v, k, q⟩ := q
  exact h.run pins s σ H Q I (k Q q)⟩
end
section
variable {a b : Bool} {H : Hp}
theorem qTv {Q : VK} (h : a = true) (q : Q (.bl (a && b)) H) : Q (.bl b) H := by subst h; exact q
theorem qFv {Q : VK} (h : a = false) (q : Q (.bl (a && b)) H) : Q (.bl false) H := by subst h; exact q
theorem qTb {Q : Bool → Hp → Prop} (h : a = true) (q : Q (a && b) H) : Q b H := by subst h; exact q
theorem qFb {Q : Bool → Hp → Prop} (h : a = false) (q : Q (a && b) H) : Q false H := by subst h; exact q
end
section
variable {F H : Hp} {σ : L2.St} {ta tb : TE} {Q : VK} {a b : Bool}
theorem andV_t (h1 : EvB M0 F H (fun Q => ta σ H Q) a) (h2 : a = true → ∀ F1 H1, Gr M0 F H F1 H1 → EvB M0 F1 H1 (fun Q => tb σ H1 Q) b)
    (q : ∀ F' H', Gr M0 F H F' H' → Q (.bl (a && b)) H') : tAndV ta tb σ H Q :=
  andV_g (c := a && b) h1 (fun e F1 H1 g => by rw [e]; exact h2 e F1 H1 g) (fun e => by rw [e]; rfl) q
theorem orV_t (h1 : EvB M0 F H (fun Q => ta σ H Q) a) (h2 : a = false → ∀ F1 H1, Gr M0 F H F1 H1 → EvB M0 F1 H1 (fun Q => tb σ H1 Q) b)
    (q : ∀ F' H', Gr M0 F H F' H' → Q (.bl (a || b)) H') : tOrV ta tb σ H Q :=
  orV_g (c := a || b) h1 (fun e F1 H1 g => by rw [e]; exact h2 e F1 H1 g) (fun e => by rw [e]; rfl) q
theorem andT_t {ta tb : TT} {Q : Bool → Hp → Prop} (h1 : EvT M0 F H (fun Q => ta σ H Q) a) (h2 : a = true → ∀ F1 H1, Gr M0 F H F1 H1 → EvT M0 F1 H1 (fun Q => tb σ H1 Q) b)
    (q : ∀ F' H', Gr M0 F H F' H' → Q (a && b) H') : tAnd ta tb σ H Q :=
  andT_g (c := a && b) h1 (fun e F1 H1 g => by rw [e]; exact h2 e F1 H1 g) (fun e => by rw [e]; rfl) q
theorem orT_t {ta tb : TT} {Q : Bool → Hp → Prop} (h1 : EvT M0 F H (fun Q => ta σ H Q) a) (h2 : a = false → ∀ F1 H1, Gr M0 F H F1 H1 → EvT M0 F1 H1 (fun Q => tb σ H1 Q) b)
    (q : ∀ F' H', Gr M0 F H F' H' → Q (a || b) H') : tOr ta tb σ H Q :=
  orT_g (c := a || b) h1 (fun e F1 H1 g => by rw [e]; exact h2 e F1 H1 g) (fun e => by rw [e]; rfl) q
end

/-! ### e if c else e', behind its test -/
section
variable {M : Addr → Prop} {F H : Hp} {σ : L2.St} {ta tb : TE} {Q : VK} {c : Bool}
theorem ifJ {P : V → Hp → Hp → Prop} (h2 : c = true → ∀ Q : VK, (∀ v F' H', Gr M F H F' H' → P v F' H' → Q v H') → ta σ H Q)
    (h3 : c = false → ∀ Q : VK, (∀ v F' H', Gr M F H F' H' → P v F' H' → Q v H') → tb σ H Q)
    (q : ∀ v F' H', Gr M F H F' H' → P v F' H' → Q v H') : if c = true then ta σ H Q else tb σ H Q := by
  cases e : c with
  | true => exact iteT (h2 e Q q)
  | false => exact iteF (h3 e Q q)
end

section
variable {M : Addr → Prop} {F H : Hp} {σ : L2.St} {tb : TE} {ub : TT} {Q : VK} {U : Bool → Hp → Prop} {a c : Bool} {P : Hp → Hp → Prop}
theorem andJV (h2 : a = true → ∀ Q : VK, (∀ F' H', Gr M F H F' H' → P F' H' → Q (.bl c) H') → tb σ H Q) (h3 : a = false → c = false ∧ P F H) (fh : Same F H)
    (q : ∀ F' H', Gr M F H F' H' → P F' H' → Q (.bl c) H') : if a = true then tb σ H Q else Q (.bl false) H := by
  cases e : a with
  | true => exact iteT (h2 e Q q)
  | false =>
    obtain ⟨ec, p⟩ := h3 e
    subst ec
    exact iteF (q _ _ (Gr.refl fh) p)
theorem orJV (h2 : a = false → ∀ Q : VK, (∀ F' H', Gr M F H F' H' → P F' H' → Q (.bl c) H') → tb σ H Q) (h3 : a = true → c = true ∧ P F H) (fh : Same F H)
    (q : ∀ F' H', Gr M F H F' H' → P F' H' → Q (.bl c) H') : if a = true then Q (.bl true) H else tb σ H Q := by
  cases e : a with
  | false => exact iteF (h2 e Q q)
  | true =>
    obtain ⟨ec, p⟩ := h3 e
    subst ec
    exact iteT (q _ _ (Gr.refl fh) p)
theorem andJT (h2 : a = true → ∀ U : Bool → Hp → Prop, (∀ F' H', Gr M F H F' H' → P F' H' → U c H') → ub σ H U) (h3 : a = false → c = false ∧ P F H) (fh : Same F H)
    (q : ∀ F' H', Gr M F H F' H' → P F' H' → U c H') : if a = true then ub σ H U else U false H := by
  cases e : a with
  | true => exact iteT (h2 e U q)
  | false =>
    obtain ⟨ec, p⟩ := h3 e
    subst ec
    exact iteF (q _ _ (Gr.refl fh) p)
theorem orJT (h2 : a = false → ∀ U : Bool → Hp → Prop, (∀ F' H', Gr M F H F' H' → P F' H' → U c H') → ub σ H U) (h3 : a = true → c = true ∧ P F H) (fh : Same F H)
    (q : ∀ F' H', Gr M F H F' H' → P F' H' → U c H') : if a = true then U true H else ub σ H U := by
  cases e : a with
  | false => exact iteF (h2 e U q)
  | true =>
    obtain ⟨ec, p⟩ := h3 e
    subst ec
    exact iteT (q _ _ (Gr.refl fh) p)
end
theorem qOv {a b : Bool} {H : Hp} {Q : VK} (h : a = false) (q : Q (.bl (a || b)) H) : Q (.bl b) H := by subst h; exact q
theorem qOb {a b : Bool} {H : Hp} {Q : Bool → Hp → Prop} (h : a = false) (q : Q (a || b) H) : Q b H := by subst h; exact q
theorem anF {a b : Bool} (h : a = false) : (a && b) = false := by rw [h]; rfl
theorem orTt {a b : Bool} (h : a = true) : (a || b) = true := by rw [h]; rfl
theorem ifTr {c : Bool} {A B : Prop} (h : c = true) (q : A) : if c = true then A else B := by rw [if_pos h]; exact q
theorem ifFr {c : Bool} {A B : Prop} (h : c = false) (q : B) : if c = true then A else B := by rw [if_neg (by rw [h]; decide)]; exact q

/-! ### None -/
class NN (α : Type) [Enc α] : Prop where
  ne : ∀ x : α, Enc.d x ≠ .none
instance : NN Int := ⟨fun _ => nofun⟩
instance : NN Bool := ⟨fun _ => nofun⟩
instance : NN Str := ⟨fun _ => nofun⟩
instance {α : Type} [Enc α] : NN (List α) := ⟨fun _ => nofun⟩
instance {α : Type} [Enc α] : NN (VT α) := ⟨fun _ => nofun⟩
instance {α β : Type} [Enc α] [Enc β] : NN (α × β) := ⟨fun _ => nofun⟩
instance {α β γ : Type} [Enc α] [Enc β] [Enc γ] : NN (T3 α β γ) := ⟨fun _ => nofun⟩
instance {α β γ δ : Type} [Enc α] [Enc β] [Enc γ] [Enc δ] : NN (T4 α β γ δ) := ⟨fun _ => nofun⟩
instance {α β γ δ ε : Type} [Enc α] [Enc β] [Enc γ] [Enc δ] [Enc ε] : NN (T5 α β γ δ ε) := ⟨fun _ => nofun⟩
theorem isN_eq {α : Type} [Enc α] [NN α] {K : PySem.W.Frag} {F : Hp} {v : V} {o : Option α} (r : R K F v o) : decide (v = .non) = o.isNone := by
  cases o with
  | none =>
    have e := R.non_v r
    subst e
    rfl
  | some x =>
    have r' : Rp K F v (Enc.d x) := r
    have h : v ≠ .non := fun e => by
      subst e
      have n := NN.ne x
      revert r' n
      generalize Enc.d x = d
      intro r' n
      cases r'
      exact n rfl
    exact decide_eq_false h

/-! ### walks over texts -/
theorem str_lt {x : Str} {i c : Nat} (h : x.cps[i]? = some c) : i < x.cps.size := (Array.getElem?_eq_some_iff.mp h).1
theorem for_str {z : Str} {g : TG} {tb : TS} {D : Ends} {σ : L2.St} {H : Hp} (Pv : Nat → L2.St → Hp → Prop) (h0 : Pv 0 σ H)
    (hs : ∀ i c σ H, z.cps[i]? = some c → Pv i σ H → g (.str (sgn c)) σ H fun σ2 H2 => tb { D with nx := Pv (i + 1), ct := Pv (i + 1), bk := D.nx } σ2 H2) (hd : ∀ σ H, Pv z.cps.size σ H → D.nx σ H) :
    ∃ W : Nat → Nat → L2.St → Hp → Prop, (∃ m, W 0 m σ H) ∧ ∀ i m σ H, W i m σ H →
      ((Its z).stop i H ∧ D.nx σ H) ∨ ((Its z).go i H ∧ ∃ N : L2.St → Hp → Prop, (∀ σ' H', N σ' H' → ∃ m', m' < m ∧ W (i + 1) m' σ' H') ∧ ∀ x H', (Its z).yld i H x H' → g x σ H' fun σ2 H2 => tb { D with nx := N, ct := N, bk := D.nx } σ2 H2) :=
  for_it walk_str Pv h0 (fun _ _ _ _ _ => trivial) (fun i x σ H H' _ p y => by
    obtain ⟨rfl, c, hc, rfl⟩ := y
    exact hs i c σ _ hc p) hd
theorem lc_str {z : Str} {g : TG} {tt : TT} {te : TE} {vs : List Nat} {σ : L2.St} {H1 : Hp} {D : Addr} {Qd : Hp → Prop} (Pv : Nat → Hp → Prop) (h0 : Pv 0 (upd H1 D (.lst [])))
    (hs : ∀ i c H, z.cps[i]? = some c → Pv i H → g (.str (sgn c)) (wipe σ vs) H fun σ2 H2 => wipe σ2 vs = wipe σ vs ∧ tt σ2 H2 fun b H3 =>
      if b = true then te σ2 H3 fun y H4 => ∃ acc, H4 D = some (.lst acc) ∧ acc.length < sizeLine ∧ Pv (i + 1) (upd H4 D (.lst (acc ++ [y]))) else Pv (i + 1) H3) (hd : ∀ H, Pv z.cps.size H → Qd H) :
    ∃ W : Nat → Nat → Hp → Prop, (∃ m, W 0 m (upd H1 D (.lst []))) ∧ ∀ i m H, W i m H →
      ((Its z).stop i H ∧ Qd H) ∨ ((Its z).go i H ∧ ∃ Nx : Hp → Prop, (∀ H', Nx H' → ∃ m', m' < m ∧ W (i + 1) m' H') ∧ ∀ x H', (Its z).yld i H x H' → g x (wipe σ vs) H' fun σ2 H2 => wipe σ2 vs = wipe σ vs ∧ tt σ2 H2 fun b H3 =>
        if b = true then te σ2 H3 fun y H4 => ∃ acc, H4 D = some (.lst acc) ∧ acc.length < sizeLine ∧ Nx (upd H4 D (.lst (acc ++ [y]))) else Nx H3) :=
  lc_it walk_str Pv h0 (fun _ _ _ _ => trivial) (fun i x H H' _ p y => by
    obtain ⟨rfl, c, hc, rfl⟩ := y
    exact hs i c _ hc p) hd

/-! ### ranges from nought, lists -/
def rangeO1 (hi : Int) : Option (List Int) := if (-(2 ^ 62) ≤ hi ∧ hi < 2 ^ 62) ∧ hi.toNat ≤ sizeLine then some (rangeL 0 hi.toNat) else none
theorem rangeO1_ok {hi : Int} {l : List Int} (h : rangeO1 hi = some l) : ((-(2 ^ 62) ≤ hi ∧ hi < 2 ^ 62) ∧ hi.toNat ≤ sizeLine) ∧ rangeL 0 hi.toNat = l := by
  unfold rangeO1 at h
  split at h
  · exact ⟨by assumption, Option.some.inj h⟩
  · cases h
def setL {α : Type} (xs : List α) (i : Int) (x : α) : Option (List α) := (ixN xs.length i).map fun j => xs.set j x
theorem setL_ok {α : Type} {xs r : List α} {i : Int} {x : α} (h : setL xs i x = some r) : ∃ j, ixN xs.length i = some j ∧ xs.set j x = r := by
  unfold setL at h
  cases e : ixN xs.length i with
  | none => rw [e] at h; cases h
  | some j =>
    rw [e] at h
    exact ⟨j, rfl, Option.some.inj h⟩
/-- sorted whole numbers -/
def sortI (xs : List Int) : List Int := xs.mergeSort fun a b => decide (a ≤ b)
theorem sortI_perm (xs : List Int) : (sortI xs).Perm xs := List.mergeSort_perm _ _
theorem sortI_sorted (xs : List Int) : (sortI xs).Pairwise (· ≤ ·) := by
  have h := List.pairwise_mergeSort (le := fun a b : Int => decide (a ≤ b)) (fun a b c h1 h2 => decide_eq_true (Int.le_trans (of_decide_eq_true h1) (of_decide_eq_true h2)))
    (fun a b => by
      rcases Int.le_total a b with h | h
      · rw [decide_eq_true h]; rfl
      · rw [decide_eq_true h, Bool.or_true]) xs
  exact h.imp fun h => of_decide_eq_true h
theorem sortI_len (xs : List Int) : (sortI xs).length = xs.length := (sortI_perm xs).length_eq
theorem sorted_uniq : ∀ {xs ys : List Int}, xs.Perm ys → xs.Pairwise (· ≤ ·) → ys.Pairwise (· ≤ ·) → xs = ys
  | xs, ys, h, h1, h2 => h.eq_of_pairwise (le := (· ≤ ·)) (fun a b _ _ h3 h4 => Int.le_antisymm h3 h4) h1 h2
theorem sortI_uniq {ns ys : List Int} (h : ys.Perm ns) (h2 : ys.Pairwise (· ≤ ·)) : sortI ns = ys :=
  sorted_uniq ((sortI_perm ns).trans h.symm) (sortI_sorted ns) h2

/-! ### texts: what is stripped, joined -/
theorem GS.sub {x y : Str} (g : GS x) (h : ∀ c ∈ tl y, c ∈ tl x) (hl : (tl y).length ≤ (tl x).length) : GS y := GS.of (Nat.le_trans hl g.tll) fun c hc => g.mem c (h c hc)
theorem GS.join {sep r : Str} {ys : List Str} (gs : GS sep) (gy : ∀ y ∈ ys, GS y) (h : joinS sep ys = some r) : GS r := by
  obtain ⟨h1, rfl⟩ := joinS_ok h
  refine GS.of ?_ fun c hc => ?_
  · rw [← len_tl]
    have e : Txt.join sep ys = Str.join sep ys := by unfold Txt.join; exact StrLaws.glued_eq_join sep ys
    rw [e]
    refine Nat.le_trans (StrLaws.join_length_le sep ys) ?_
    rw [sizeLine_eq]
    exact h1
  · rw [tl_joinS] at hc
    have mem : ∀ (l : List (List Nat)), c ∈ joinL (tl sep) l → c ∈ tl sep ∨ ∃ p ∈ l, c ∈ p := by
      intro l
      induction l with
      | nil => intro h; cases h
      | cons p r ih =>
        cases r with
        | nil => intro h; exact .inr ⟨p, List.mem_singleton.mpr rfl, h⟩
        | cons q r =>
          intro h
          rcases List.mem_append.mp (show c ∈ p ++ (tl sep ++ joinL (tl sep) (q :: r)) from h) with h | h
          · exact .inr ⟨p, List.mem_cons_self .., h⟩
          · rcases List.mem_append.mp h with h | h
            · exact .inl h
            · rcases ih h with h | ⟨p', hp, h⟩
              · exact .inl h
              · exact .inr ⟨p', List.mem_cons_of_mem _ hp, h⟩
    rcases mem _ hc with h | ⟨p, hp, h⟩
    · exact gs.mem c h
    · obtain ⟨y, hy, rfl⟩ := List.mem_map.mp hp
      exact (gy y hy).mem c h
theorem GS.strip {x : Str} (g : GS x) (y : Str) : GS (Txt.stripChars x y) := by
  unfold Txt.stripChars Txt.stripBy
  split
  · exact g
  · have e : ∀ i j, tl (Builtin.Str.strSub x i j) = ((tl x).take j).drop i := fun i j => by
      show (x.cps.extract i j).toList = _
      rw [List.drop_take]
      simp [tl]
    refine g.sub (fun c hc => ?_) ?_
    · unfold stripped at hc
      rw [e] at hc
      exact List.mem_of_mem_take (List.mem_of_mem_drop hc)
    · unfold stripped
      rw [e, List.length_drop, List.length_take]
      omega
end G
/-! My base, part 6: defs by data. -/
namespace G
open PySem PySem.Spec PyProof.Rows L2 TL
abbrev FnP (K : PySem.W.Frag) (x : Str) (st : Stmt) (f : Addr) (fd : FuncData) : Prop := FunD K x x (defArgs st) (defBody st) (defScope st) [] [] f fd
section
variable {P : Program} {w : World} {K : PySem.W.Frag} {mg : Str → Option Value} {base : Heap} {x qual : Str} {params : Arguments} {body : List Stmt} {scope : Scope} {f : Addr} {fd : FuncData}
theorem fd_ok {N ps : List Str} {k : Nat} {sp : Sp} (F : FunD K x qual params body scope [] [] f fd) (S : FnScope N ps scope) (len : ∀ vs H Q E, sp vs H Q E → vs.length = ps.length)
    (hbody : ∀ (cdv : Value) (A : Around) (outer : List Env) (s : Shared) (H : Hp) (vs : List V) (Q : VK) (E : XK), Room k (A.deeper (envOfC qual scope s.heap.objs.size f cdv)) → sp vs H Q E →
      ∃ t, PSs (cxOf CX0 P w K mg base N qual scope f cdv A outer s H E).nox body t ∧ t { nx := fun _ H' => Q .non H', rt := Q } (start N vs) H) : FnOk P w K mg base CX0 (k + 1) f fd ps sp :=
  FunD.ok F S len fun cdv A outer s H vs Q E hr hsp =>
    let ⟨t, h, q⟩ := hbody cdv A outer s H vs Q E hr hsp
    ⟨t, h.nox, q⟩
theorem fd_plain (F : FunD K x qual params body scope [] [] f fd) : ∃ kV doc pm an cdv ct, fd = PySem.W.fnOf x qual params body scope .none kV doc pm an cdv ct := by
  obtain ⟨oc, od, dV, kV, doc, pm, an, cdv, ct, osl, rfl, lk, hcd, hD, hK⟩ := F.ex
  rcases hD with ⟨_, rfl⟩ | ⟨e, _⟩
  · exact ⟨kV, doc, pm, an, cdv, ct, rfl⟩
  · exact absurd rfl e
end
end G
/-! My base, part 7: a text turned round. -/
namespace G
open PySem PySem.Spec PyProof.Rows L2 TL
def revS (x : Str) : Str := ⟨(tl x).reverse.toArray⟩
theorem tl_revS (x : Str) : tl (revS x) = (tl x).reverse := by unfold revS tl; simp
theorem revS_len (x : Str) : (revS x).length = x.length := by rw [len_tl, tl_revS, List.length_reverse, ← len_tl]
theorem GS.rev {x : Str} (g : GS x) : GS (revS x) := g.sub (fun c hc => by rw [tl_revS] at hc; exact List.mem_reverse.mp hc) (by rw [tl_revS, List.length_reverse]; exact Nat.le_refl _)
theorem rev_pick (z : Str) : (⟨((Builtin.Str.strSliceIndices none none (-1) z.length).filterMap (z.cps[·]?)).toArray⟩ : Str) = revS z := by
  have h := step_rev_list z default
  unfold Txt.sliceBy slicePicked at h
  rw [if_neg (by intro h; exact absurd (Bool.and_eq_true_iff.mp h).1 (by decide))] at h
  unfold revS
  have e2 : (tl z).reverse = (List.range z.length).map fun k => z.cps.getD (z.length - 1 - k) 0 := by
    refine List.ext_getElem (by rw [List.length_reverse, List.length_map, List.length_range, ← len_tl]) fun i h1 h2 => ?_
    rw [List.getElem_reverse, List.getElem_map, List.getElem_range]
    have hi : i < z.length := by rw [List.length_reverse, ← len_tl] at h1; exact h1
    have hz : z.cps.size = z.length := rfl
    simp only [tl, Array.getElem_toList, Array.length_toList]
    rw [Array.getD, dif_pos (show z.length - 1 - i < z.cps.size by omega)]
    rfl
  rw [e2, ← h]
  rfl
def tRevS (te : TE) : TE := fun σ H Q => te σ H fun x H1 => ∃ z, x = .str z ∧ z.length ≤ sizeLine ∧ Q (.str (revS z)) H1
theorem pe_revS {X : Cx} {e : Expr} {te : TE} {k : Nat} {p1 p2 p3 pos : Pos} (he : PE X e te) : PE X (.Subscript e (.Slice none none (some (.UnaryOp .USub (.Constant (.int 1) k p1) p2)) p3) pos) (tRevS te) := by
  refine ⟨fun pins s σ H Q I h => ?_⟩
  refine Subscript_ (thn (he.run pins s σ H _ I h) fun v s1 ⟨x, H1, I1, r1, q1⟩ => ?_)
  obtain ⟨z, ex, hz, q⟩ := q1
  subst ex
  obtain ⟨t, rfl⟩ := r1
  have hst : PO X (some (.UnaryOp .USub (.Constant (.int 1) k p1) p2)) (tPart (tUn (rU fun i => .int (-i)) (tC (.int 1)))) := po_some (pe_un un_neg pe_int)
  refine wpAny_Slice (thn (po_none.run pins s1 σ H1 (fun o H2 => o = none ∧ H2 = H1) I1 ⟨rfl, rfl⟩) fun vl s2 ⟨l, H2, I2, pl, el, e2⟩ => ?_)
  subst el e2
  refine thn (po_none.run pins s2 σ H2 (fun o H3 => o = none ∧ H3 = H2) I2 ⟨rfl, rfl⟩) fun vu s3 ⟨u, H3, I3, pu, eu, e3⟩ => ?_
  subst eu e3
  refine thn (hst.run pins s3 σ H3 (fun o H4 => o = some (-1) ∧ H4 = H3) I3 ⟨1, rfl, -1, rfl, rfl, rfl⟩) fun vs s4 ⟨o, H4, I4, ps, eo, e4⟩ => ?_
  subst eo e4
  have I5 : Inv X pins σ H4 { s4 with heap := s4.heap.push { cls := .type "slice", data := .fields #[vl, vu, vs] } } := I4.kept (t' := s4.toks) fun b ob q => Heap.get?_push_of_some _ q
  cases pl
  cases pu
  cases ps with | int _ t2 => ?_
  show wpAny (model X.prog X.w) X.A (subscriptTail e (.Slice none none (some (.UnaryOp .USub (.Constant (.int 1) k p1) p2)) p3) (.str z t) (.ref s4.heap.objs.size)) (EP X pins σ Q) X.xe { s4 with heap := s4.heap.push { cls := .type "slice", data := .fields #[.none, .none, .int (-1) t2] } }
  refine tail_any (ops := [.str z t, .ref s4.heap.objs.size]) (typeIs_str _ _ _) F.slot_str_getitem.lookup ?_ (by with_unfolding_all rfl)
  obtain ⟨os, hos, hcs, hds⟩ := Heap.IsSliceOf.new s4.heap Value.none Value.none (Value.int (-1) t2)
  refine wpAny_getItem_str_slice (l := none) (u := none) (st := some (-1, t2)) ⟨os, hos, hcs, hds⟩ rfl ?_
  have e1 : sliceMade z t none none (some (-1, t2)) = .str (revS z) := by
    unfold sliceMade
    rw [if_neg (by intro h; exact absurd (show ((-1 : Int) == 1) = true from (Bool.and_eq_true_iff.mp h).1) (by decide))]
    exact congrArg Made.str (rev_pick z)
  rw [e1]
  have hl : (revS z).length ≤ sizeLine := by rw [revS_len]; exact hz
  exact ⟨hl, .str _, _, I5.tok _, ⟨_, rfl⟩, q⟩
end G
/-! My base, part 8: which type a thing is of; alike. -/
namespace G
open PySem PySem.Spec PyProof.Rows L2 TL
def tyD : PyData → String
  | .none => "NoneType"
  | .bool _ => "bool"
  | .int _ => "int"
  | .str _ => "str"
  | .list _ => "list"
  | .tuple _ => "tuple"
  | .dict _ => "dict"
def isSq (d : PyData) : Bool := tyD d == "list" || tyD d == "tuple"
section
variable {K : PySem.W.Frag} {F H : Hp} {v : V} {d : PyData} {a : Addr} {xs : List V}
theorem SqL.ty (h : SqL K H a xs) : TyX K H (.ref a) (.type "list") := by
  rcases h with (h | ⟨o, h⟩) | ⟨o, its, n, e, c, _⟩
  · exact .base (.lst h)
  · exact .base (.frz h)
  · exact .kList e c
theorem SqT.ty (h : SqT K H a xs) : TyX K H (.ref a) (.type "tuple") := by
  rcases h with (h | ⟨o, h⟩) | ⟨o, its, n, e, c, _⟩
  · exact .base (.tup h)
  · exact .fTuple h
  · exact .kTuple e c
theorem Rp.ty (h : Rp K H v d) : TyX K H v (.type (tyD d)) := by
  cases h with
  | non => exact .base .non
  | bl b => exact .base (.bl b)
  | int i => exact .base (.int i)
  | str x _ => exact .base (.str x)
  | lst hs _ _ => exact SqL.ty hs
  | tup hs _ _ => exact SqT.ty hs
/-- the six kinds -/
def Knd (s : String) : Prop := s = "NoneType" ∨ s = "bool" ∨ s = "int" ∨ s = "str" ∨ s = "list" ∨ s = "tuple"
theorem Rp.knd (h : Rp K H v d) : Knd (tyD d) := by
  cases h with
  | non => exact .inl rfl
  | bl _ => exact .inr (.inl rfl)
  | int _ => exact .inr (.inr (.inl rfl))
  | str _ _ => exact .inr (.inr (.inr (.inl rfl)))
  | lst _ _ _ => exact .inr (.inr (.inr (.inr (.inl rfl))))
  | tup _ _ _ => exact .inr (.inr (.inr (.inr (.inr rfl))))
theorem kit_two (s : String) (b c : Bool) (h1 : kitB s "list" = some b) (h2 : kitB s "tuple" = some c) : PySem.W.kitAny K (.type s) [.type "list", .type "tuple"] = some (b || c) := by
  refine kitAny_cons (b := b) (kit_ty h1) (fun hb => ?_) (fun hb => by rw [hb]; rfl)
  refine kitAny_cons (b := c) (kit_ty h2) (fun hc => ?_) (fun hc => by rw [hc, Bool.or_true])
  rw [hb, hc]
  exact kitAny_nil
theorem kit_lt {s : String} (h : Knd s) : PySem.W.kitAny K (.type s) [.type "list", .type "tuple"] = some (s == "list" || s == "tuple") := by
  rcases h with rfl | rfl | rfl | rfl | rfl | rfl <;> exact kit_two _ _ _ (by decide +kernel) (by decide +kernel)
theorem kit_one {s : String} (h : Knd s) (t : String) (ht : t = "list" ∨ t = "bool" ∨ t = "str") : PySem.W.kitOne K (.type s) (.type t) = some (s == t) := by
  rcases ht with rfl | rfl | rfl <;> rcases h with rfl | rfl | rfl | rfl | rfl | rfl <;> exact kit_ty (by decide +kernel)
theorem kit_int {s : String} (h : Knd s) : PySem.W.kitOne K (.type s) (.type "int") = some (s == "int" || s == "bool") := by
  rcases h with rfl | rfl | rfl | rfl | rfl | rfl <;> exact kit_ty (by decide +kernel)
end
/-- no value of the data is deeper than n -/
theorem depth_list {n : Nat} {ds : List PyData} (h : PyData.depthAll ds + 1 ≤ n + 1) {d : PyData} (hd : d ∈ ds) : d.depth ≤ n := by
  have : ∀ (l : List PyData), d ∈ l → d.depth ≤ PyData.depthAll l := by
    intro l
    induction l with
    | nil => intro h; cases h
    | cons x l ih =>
      intro h
      simp only [PyData.depthAll]
      rcases List.mem_cons.mp h with rfl | h
      · omega
      · have := ih h
        omega
  have := this ds hd
  omega
def sp_alike (n : Nat) (K : PySem.W.Frag) : Sp := fun vs H Q _ => ∃ (v1 v2 : V) (d : PyData), vs = [v1, v2] ∧ Rp K H v1 d ∧ Rp K H v2 d ∧ d.depth ≤ n ∧ (∀ F' H', Gr M0 H H F' H' → Q (.bl true) H')
theorem al_sc {K : PySem.W.Frag} {H : Hp} {v1 v2 : V} {d : PyData} (r1 : Rp K H v1 d) (r2 : Rp K H v2 d) (hc : (tyD d == "list" || tyD d == "tuple") = false) : v1 = v2 ∧ scal v1 v2 = true := by
  cases r1 with
  | non => cases r2; exact ⟨rfl, rfl⟩
  | bl b => cases r2; exact ⟨rfl, rfl⟩
  | int i => cases r2; exact ⟨rfl, rfl⟩
  | str x _ => cases r2; exact ⟨rfl, rfl⟩
  | lst h1 h2 h3 => exact absurd hc (by simp [tyD])
  | tup h1 h2 h3 => exact absurd hc (by simp [tyD])
theorem ix_go {K : PySem.W.Frag} {H : Hp} {p : Addr} {xs : List V} {i : Nat} {v : V} {Q : VK} (h : SqL K H p xs ∨ SqT K H p xs) (e : xs[i]? = some v) (q : Q v H) : rIx K (.ref p) (.int (0 + (i : Nat))) H Q := by
  have ha : atI xs (0 + (i : Nat)) = some v := by rw [Int.zero_add]; exact atI_nat e
  rcases h with h | h
  · exact .inl ⟨p, xs, _, v, rfl, rfl, h, ha, q⟩
  · exact .inr (.inl ⟨p, xs, _, v, rfl, rfl, h, ha, q⟩)
theorem sq_up {K : PySem.W.Frag} {H H' : Hp} {p : Addr} {xs : List V} (h : SqL K H p xs ∨ SqT K H p xs) (e : Same H H') : SqL K H' p xs ∨ SqT K H' p xs := by
  rcases h with h | h
  · exact .inl (e.seq h)
  · exact .inr (SqT_mono e h)
def spA : Nat → PySem.W.Frag → Sp
  | 0, _ => fun _ _ _ _ => False
  | n + 1, K => sp_alike n K
theorem al_sq {K : PySem.W.Frag} {H : Hp} {v1 v2 : V} {d : PyData} {n : Nat} (r1 : Rp K H v1 d) (r2 : Rp K H v2 d) (hc : (tyD d == "list" || tyD d == "tuple") = true) (hd : d.depth ≤ n) :
    ∃ a1 ws1 a2 ws2 ds m, v1 = .ref a1 ∧ v2 = .ref a2 ∧ (SqL K H a1 ws1 ∨ SqT K H a1 ws1) ∧ (SqL K H a2 ws2 ∨ SqT K H a2 ws2) ∧ ws1.length ≤ sizeLine ∧ ws2.length ≤ sizeLine ∧ RpA K H ws1 ds ∧ RpA K H ws2 ds ∧ n = m + 1 ∧ ∀ d ∈ ds, d.depth ≤ m := by
  cases r1 with
  | non => exact absurd hc (by decide)
  | bl b => exact absurd hc (by simp [tyD])
  | int i => exact absurd hc (by simp [tyD])
  | str x _ => exact absurd hc (by simp [tyD])
  | lst h1 h2 h3 =>
    cases r2 with
    | lst k1 k2 k3 =>
      cases n with
      | zero => exact absurd hd (Nat.not_succ_le_zero _)
      | succ m => exact ⟨_, _, _, _, _, m, rfl, rfl, .inl h1, .inl k1, h2, k2, h3, k3, rfl, fun d hd2 => depth_list hd hd2⟩
  | tup h1 h2 h3 =>
    cases r2 with
    | tup k1 k2 k3 =>
      cases n with
      | zero => exact absurd hd (Nat.not_succ_le_zero _)
      | succ m => exact ⟨_, _, _, _, _, m, rfl, rfl, .inr h1, .inr k1, h2, k2, h3, k3, rfl, fun d hd2 => depth_list hd hd2⟩
theorem R.of_eq {α : Type} [Enc α] {K : PySem.W.Frag} {F : Hp} {v : V} {x y : α} (h : x = y) (r : R K F v y) : R K F v x := by rw [h]; exact r
theorem retQ {e : Bool} {Q : VK} {H : Hp} (h : e = true) (q : Q (.bl true) H) : Q (.bl e) H := by rw [h]; exact q
def m_l_alike {α : Type} [DecidableEq α] (x y : α) : Option Bool := if x = y then some true else none
theorem alike_ok {α : Type} [DecidableEq α] {x y : α} {r : Bool} (h : m_l_alike x y = some r) : x = y ∧ true = r := by
  unfold m_l_alike at h
  split at h
  · exact ⟨by assumption, Option.some.inj h⟩
  · cases h
theorem op_powW {X : Cx} : OpR X (binaryOp .Pow) (rI (fun i j => 0 ≤ j ∧ (Builtin.Int.intBits i : Int) * j ≤ 2 ^ 27) fun i j => .int (i ^ j.toNat)) := opI fun _ _ _ _ _ _ _ hc q => pow_int hc.1 hc.2 q
end G
/-! My base, part 9: parts of a text. -/
namespace G
open PySem PySem.Spec PyProof.Rows L2 TL
theorem GS.sub_ {x : Str} (g : GS x) (i j : Nat) : GS (Builtin.Str.strSub x i j) := by
  have e : tl (Builtin.Str.strSub x i j) = ((tl x).take j).drop i := by
    show (x.cps.extract i j).toList = _
    rw [List.drop_take]
    simp [tl]
  refine g.sub (fun c hc => ?_) ?_
  · rw [e] at hc
    exact List.mem_of_mem_take (List.mem_of_mem_drop hc)
  · rw [e, List.length_drop, List.length_take]
    omega
theorem GS.empty : GS Str.empty := ⟨Nat.zero_le _, by decide +kernel⟩
theorem GS.part {x y : Str} (gx : GS x) (gy : GS y) : GS (Txt.partition x y).1 ∧ GS (Txt.partition x y).2.1 ∧ GS (Txt.partition x y).2.2 := by
  unfold Txt.partition
  split
  · exact ⟨gx.sub_ _ _, gy, gx.sub_ _ _⟩
  · exact ⟨gx, .empty, .empty⟩
def partS (x y : Str) : T3 Str Str Str := ⟨(Txt.partition x y).1, (Txt.partition x y).2.1, (Txt.partition x y).2.2⟩
theorem lpgo {S R T : Type} {s : S} {f : S → Option T} {g : R → Option T} {t : T} (h : lpK (.go s) f g = some t) : f s = some t := h
end G
/-! My base, part 10: sorted(set(a list of whole numbers)). -/
namespace G
open PySem PySem.Spec PyProof.Rows L2 TL
section
variable {P : Program} {w : World} {A : Around} {E : Value → Shared → Prop} {s : Shared}
/-- the empty set, as it is laid -/
abbrev newS (w : World) : Obj := { cls := .type "set", dict := none, data := .set #[] 0 (.fresh 0 0 (!w.params.followText "set-order")) }
theorem set_of_list {l : Addr} {xs : Array Value} (ks : List Int) {Q : Value → Shared → Prop} (hh : A.handled = none) (hl : s.heap.IsList l xs) (hk : IntsAre xs.toList ks) (hb : ks.length + 1 < scanBound)
    (hq : ∀ (h' : Heap) (tk c : Nat), SetR w h' s.heap.objs.size (fun j => decide (j ∈ ks)) c → c ≤ ks.length → (∀ b o, s.heap.get? b = some o → h'.get? b = some o) → Q (.ref s.heap.objs.size) { s with heap := h', toks := tk }) :
    wpAny (model P w) A (call (.type "set") [.ref l]) Q E s := by
  have hsz : xs.size = ks.length := (Array.length_toList (xs := xs)).symm.trans (IntsAre.length hk)
  obtain ⟨c0, tl0, hmro⟩ := F.called_set.mro
  have hmade := F.called_set.made; have hsub := F.called_set.sub
  refine wpAny_call (codeAny_of_tree ?_); show wpAny _ _ (callAny (.type "set") _) _ _ _
  refine wpAny_pure ⟨Code.quiet_builtin _ (by decide +kernel), codeAny_builtin F.entry_type_call ?_⟩; rw [Around.under_plain (weight_type_call_type "set" [.ref l] []) rfl]
  have n1 := F.called_set.notType; have n2 := F.called_set.canCreate; have n3 := F.typeCall_set_1 (.ref l)
  repeat (any_goals (first | assumption | wp_step))
  refine codeAny_mono (code_set_led1 (A := A.in1) (.ref l) (E := E) (Q₁ := fun ob s₁ => ob = .ref s.heap.objs.size ∧ s₁ = { s with heap := s.heap.push (newS w) }) ⟨rfl, rfl⟩) fun r s₁ hr => ?_
  cases r with
  | error e => exact hr
  | ok fl =>
    cases fl with
    | next => exact hr.elim
    | brk => exact hr.elim
    | cont => exact hr.elim
    | ret ob =>
      obtain ⟨rfl, rfl⟩ := hr
      have hS : (s.heap.push (newS w)).get? s.heap.objs.size = some (newS w) := Heap.get?_push_size _ rfl
      have hT : Shared.TypeIs { s with heap := s.heap.push (newS w) } (.ref s.heap.objs.size) "set" := ⟨_, hS, rfl⟩
      have hli := F.called_set.init.lookup; have hbi := F.called_set.init.bind (.ref s.heap.objs.size)
      repeat (any_goals (first | assumption | wp_step))
      refine codeAny_mono (codeAny_call_builtin (R := wants (fun rr s₂ => rr = .none ∧ ∃ h' tk c, s₂ = { s with heap := h', toks := tk } ∧ SetR w h' s.heap.objs.size (fun j => decide (j ∈ ks)) c ∧ c ≤ ks.length ∧ (∀ b o, s.heap.get? b = some o → h'.get? b = some o)) E)
        F.called_set.init.plain F.entry_set_init (check_set_init_1 hT ?_)) fun r2 s2 hr2 => ?_
      · obtain ⟨⟨lc, ld, lt, ls⟩, hol, hcl, nl, hdl⟩ := hl
        simp only at hcl hdl; subst hcl; subst hdl
        have hol' : (s.heap.push (newS w)).get? l = some { cls := .type "list", dict := ld, data := .seq xs nl, slots := ls } := Heap.get?_push_of_some _ hol
        have b1 := F.sub_list_set; have b2 := F.sub_list_frozenset
        have b3 : (Value.type "list" == Value.type "dict") = false := by decide
        have hl1 : (s.heap.push (newS w)).IsList l xs := ⟨_, hol', rfl, nl, rfl⟩
        unfold Builtin.«set.__init__» noKeywords Builtin.Frozenset.updateFrom; generalize hPI : pyIter = PI
        wp_walk
        subst hPI; refine wpAny_pyIter_list hl1 ?_
        refine wpAny_bind (wpAny_runValue ?_); have lS : l < s.heap.objs.size := Heap.lt_size hol
        have hh3 : A.in1.in1.in1.handled = none := by simp [hh]
        have lI : l ≠ (s.heap.push (newS w)).objs.size := by rw [Heap.size_push]; exact Nat.ne_of_lt (Nat.lt_succ_of_lt lS)
        have sI : s.heap.objs.size ∉ [(s.heap.push (newS w)).objs.size, l] := by
          rw [Heap.size_push]
          intro z
          rcases List.mem_cons.mp z with z | z
          · exact absurd z (Nat.ne_of_lt (Nat.lt_succ_self _))
          · exact absurd (List.mem_singleton.mp z) (Nat.ne_of_gt lS)
        have each : ∀ (i : Nat) (v : Value), xs[i]? = some v → ∃ k t, ks[i]? = some k ∧ v = .int k t := fun i v hv => by
          have hi : i < ks.length := by rw [← hsz]; exact (Array.getElem?_eq_some_iff.mp hv).1
          obtain ⟨t, e⟩ := PyProof.Rows.IntsAre.int_at hk i v (by rw [Array.getElem?_toList]; exact hv)
          exact ⟨ks[i], t, List.getElem?_eq_getElem hi, by rw [e, List.getD_eq_getElem?_getD, List.getElem?_eq_getElem hi]; rfl⟩
        refine set_update_ints ((Walks.list hh3 _ l lI xs).toS) s.heap.objs.size sI ks hsz hb each (xs.size - 0) 0 _ (by omega) (Nat.zero_le _) ⟨⟨_, Heap.get?_push_size _ rfl, rfl, rfl⟩, (hl1.push _)⟩ ⟨0, Nat.le_refl 0, setR_new_at (Heap.get?_push_of_some _ hS)⟩ (fun s' c' hm hc' hS' => ?_)
        obtain ⟨h', g2, d', tk', os'⟩ := s'
        have eg : g2 = s.gens := hm.gens; have ed : d' = s.drawn := hm.drawn
        have eo : os' = s.os := hm.os; subst eg; subst ed; subst eo
        show wpAny _ _ _ _ _ _; refine wpAny_pure ?_
        show wpAny _ _ (ret Value.none) _ _ _; rw [hsz] at hc'
        refine wpAny_pure ⟨rfl, h', tk', c', rfl, hS', hc', fun b o e => ?_⟩
        have m0 : b < s.heap.objs.size := Heap.lt_size e
        refine hm.heap b o (fun z => ?_) (Heap.get?_push_of_some _ (Heap.get?_push_of_some _ e))
        rcases List.mem_cons.mp z with z | z
        · exact absurd z (Nat.ne_of_lt m0)
        · have z := List.mem_singleton.mp z
          rw [Heap.size_push] at z
          exact absurd z (Nat.ne_of_lt (Nat.lt_succ_of_lt m0))
      · cases r2 with
        | error e => exact hr2
        | ok fl2 =>
          cases fl2 with
          | next => exact hr2.elim
          | brk => exact hr2.elim
          | cont => exact hr2.elim
          | ret rr =>
            obtain ⟨rfl, h', tk, c, rfl, hS', hc', hk'⟩ := hr2
            repeat (any_goals (first | assumption | wp_step))
            exact hq _ _ _ hS' hc' hk'
end
end G
/-! My base, part 11: the set sorted. -/
namespace G
open PySem PySem.Spec PyProof.Rows L2 TL
section
variable {P : Program} {w : World} {A : Around} {E : Value → Shared → Prop} {s : Shared} {a : Addr}
theorem set_sorted {S : Int → Bool} {n : Nat} {Q : Value → Shared → Prop} (R : SetR w s.heap a S n) (hh : A.handled = none)
    (hq : ∀ s' p (out : List Value) (c : Nat) (ns : List Int), (∀ b o, s.heap.get? b = some o → s'.heap.get? b = some o) → s'.gens = s.gens → s'.os = s.os → s.heap.objs.size ≤ p →
      s'.heap.get? p = some (seqObj "list" out.toArray c) → IntsAre out ns → ns.Pairwise (· < ·) → (∀ k, k ∈ ns ↔ S k = true) → ns.length ≤ n → Q (.ref p) s') :
    wpAny (model P w) A (call (.builtin "sorted") [.ref a]) Q E s := by
  obtain ⟨o, es, ep, t, ho, hex, hd, good, nd, hm, hb, hf, hn, hr, hl⟩ := R
  refine Calls.call_function_entry kind_sorted plain_sorted entry_sorted (args_sorted1 _) ?_; unfold Builtin.«sorted»
  refine wpAny_bind (m := checkCount "sorted" 1 1 _) (wpAny_pure ?_)
  refine wpAny_bind (collect_set (A := A.in1) hh ⟨o, ho, hex.1, hd⟩ hf hb hr hl fun s1 vs k1 hz g1 o1 pm => ?_)
  have hvl : vs.length = n := by rw [pm.length_eq, List.length_map, Array.length_toList]; exact hn
  have hI : IntsAre vs (vs.map Builtin.Re.reRawOf) := ints_of vs fun v hv => by
    obtain ⟨e, he, q⟩ := List.mem_map.mp (pm.mem_iff.mp hv)
    obtain ⟨k, tk, h1, _⟩ := good e he
    exact ⟨k, tk, q ▸ h1⟩
  have pk : (vs.map Builtin.Re.reRawOf).Perm (es.toList.map keyOf) := by
    have q := pm.map Builtin.Re.reRawOf
    rwa [List.map_map] at q
  have hsl : vs.length ≤ sizeLine := by
    rw [hvl, ← hn, sizeLine_eq]
    have := hb
    unfold scanBound at this
    omega
  refine wpAny_bind (wpAny_newList ?_ hsl)
  have hoL : (s1.heap.push (seqObj "list" vs.toArray 0)).get? s1.heap.objs.size = some (seqObj "list" vs.toArray 0) := Heap.get?_push_size _ rfl
  refine wpAny_bind (wpAny_holding (wpAny_call_entry slot_list_sort ⟨_, hoL, rfl⟩ entry_list_sort (SrtO.list_sort_ord SrtO.swo_int hoL hsl (fun h2 => SrtO.ints_sortable hI h2) fun out h1 h2 => ⟨_, rfl, ?_⟩) (args_list_sort _)))
  obtain ⟨z1, z2, z3⟩ := SrtO.ints_out hI h1 h2
  obtain ⟨c, hc⟩ := sortedHeap_at (vs := vs) (out := out.toArray) hoL
  have pn := z2.trans pk
  refine wpAny_pure ⟨_, rfl, hq _ s1.heap.objs.size out c _ (fun b u e => ?_) g1 o1 hz hc z1 (lt_of_le_nodup _ z3 (pn.nodup_iff.mpr nd)) (fun k => by rw [pn.mem_iff, ← hm k]) (by rw [pn.length_eq, List.length_map, Array.length_toList, hn]; exact Nat.le_refl _)⟩
  have q := k1 b u e
  have hlt := Heap.lt_size q
  show (sortedHeap (s1.heap.push (seqObj "list" vs.toArray 0)) s1.heap.objs.size vs out.toArray).get? b = some u
  rw [sortedHeap_old (Nat.ne_of_lt hlt) (by rw [Heap.size_push]; exact Nat.lt_succ_of_lt hlt)]
  exact Heap.get?_push_of_some _ q
end
end G
/-! My base, part 12: the rule. -/
namespace G
open PySem PySem.Spec PyProof.Rows L2 TL
section
variable {X : Cx}
/-- sorted(set(a list of whole numbers)) -/
def tSSet (K : PySem.W.Frag) (ta : TE) : TE := fun σ H Q => ta σ H fun x H1 => ∃ (l : Addr) (ks : List Int), x = V.ref l ∧ SqL K H1 l (ks.map V.int) ∧ ks.length < 4000 ∧
  ∀ (ns : List Int) (p : Addr), ns.Pairwise (· < ·) → (∀ k, k ∈ ns ↔ k ∈ ks) → ns.length ≤ ks.length → H1 p = none → Q (.ref p) (upd H1 p (.lst (ns.map V.int)))
theorem pe_sset {a : Expr} {ta : TE} {p p2 q pos : Pos} (hc : X.calm = true) (hg : Gl X "sorted") (hm : X.mg "sorted" = none) (hg2 : Gl X "set") (hm2 : X.mg "set" = none) (ha : PE X a ta)
    (na : starEach [a] X.env = (false, eval a X.env) :: starEach [] X.env := by rfl) : PE X (.Call (.Name "sorted" p) [.Call (.Name "set" p2) [a] [] q] [] pos) (tSSet X.K ta) := by
  refine ⟨fun pins s σ H Q I h => ?_⟩
  refine Call_ (ld_blt I hg hm (u := .builtin "sorted") (by decide +kernel) ?_)
  refine PyProof.Rows.callWith_builtin1 (PyProof.Rows.args_cons ?_ rfl) rfl rfl
  refine Call_ (ld_blt I hg2 hm2 PyProof.Rows.boot_set ?_)
  refine PyProof.Rows.callWith_type1 (PyProof.Rows.args_cons (thn (ha.run pins s σ H _ I h) fun v s1 ⟨x, H1, I1, r1, q1⟩ => PyProof.Rows.args_nil ?_) na) na rfl
  obtain ⟨l, ks, rfl, hq, h4, q1⟩ := q1
  cases r1
  obtain ⟨its, r, pl, hz⟩ := I1.list hq
  refine set_of_list ks (I1.ok.hd hc) pl.isList (by simpa using r.ints) (by unfold scanBound; omega) fun h' tk c hS hck hk => ?_
  refine PyProof.Rows.args_nil ?_
  have I2 : Inv X pins σ H1 { s1 with heap := h', toks := tk } := I1.kept fun b o e => hk b o e
  refine set_sorted hS (I2.ok.hd hc) fun s' p out c2 ns k g o hp hgt hi hs hmem hlen => ?_
  have hlen2 : ns.length ≤ ks.length := Nat.le_trans hlen hck
  have hlz : (ns.map V.int).length ≤ sizeLine := by rw [List.length_map, sizeLine_eq]; omega
  have hn : H1 p = none := I2.hok.fresh hp
  have J : Inv X pins σ (upd H1 p (.lst (ns.map V.int))) s' := Inv.call' (ch := []) I2 o (Un.laid k hp hn) (I2.hok.laid k hp ⟨hlz, out, c2, vals_of_ints hi, hgt⟩) (by rw [g]; exact I2.bare) (fun _ z => nomatch z)
  exact ⟨.ref p, _, J, rfl, q1 ns p hs (fun k => by rw [hmem k, decide_eq_true_iff]) hlen2 hn⟩
end
end G
/-! My base, part 13: what sorted(set(..)) comes to. -/
namespace G
open PySem PySem.Spec PyProof.Rows L2 TL
/-- x put into a rising list, once -/
def ins (x : Int) : List Int → List Int
  | [] => [x]
  | y :: ys => if x < y then x :: y :: ys else if x = y then y :: ys else y :: ins x ys
def ssort (xs : List Int) : List Int := xs.foldr ins []
theorem ins_mem {x k : Int} : ∀ {l : List Int}, k ∈ ins x l ↔ k = x ∨ k ∈ l
  | [] => by simp [ins]
  | y :: ys => by
    unfold ins
    split
    · simp
    · split
      · rename_i h
        subst h
        simp
      · rw [List.mem_cons, ins_mem, List.mem_cons]
        constructor
        · rintro (h | h | h)
          · exact .inr (.inl h)
          · exact .inl h
          · exact .inr (.inr h)
        · rintro (h | h | h)
          · exact .inr (.inl h)
          · exact .inl h
          · exact .inr (.inr h)
theorem ins_sorted {x : Int} : ∀ {l : List Int}, l.Pairwise (· < ·) → (ins x l).Pairwise (· < ·)
  | [], _ => List.pairwise_singleton _ _
  | y :: ys, h => by
    obtain ⟨h1, h2⟩ := List.pairwise_cons.mp h
    unfold ins
    split
    · rename_i hx
      exact List.pairwise_cons.mpr ⟨fun z hz => by
        rcases List.mem_cons.mp hz with rfl | hz
        · exact hx
        · exact Int.lt_trans hx (h1 z hz), h⟩
    · split
      · exact h
      · refine List.pairwise_cons.mpr ⟨fun z hz => ?_, ins_sorted h2⟩
        rcases ins_mem.mp hz with rfl | hz
        · omega
        · exact h1 z hz
theorem ssort_mem {k : Int} : ∀ {l : List Int}, k ∈ ssort l ↔ k ∈ l
  | [] => Iff.rfl
  | x :: l => by
    show k ∈ ins x (ssort l) ↔ _
    rw [ins_mem, ssort_mem, List.mem_cons]
theorem ssort_sorted : ∀ l : List Int, (ssort l).Pairwise (· < ·)
  | [] => List.Pairwise.nil
  | x :: l => ins_sorted (ssort_sorted l)
theorem rise_uniq : ∀ {a b : List Int}, a.Pairwise (· < ·) → b.Pairwise (· < ·) → (∀ k, k ∈ a ↔ k ∈ b) → a = b
  | [], [], _, _, _ => rfl
  | [], y :: _, _, _, h => absurd ((h y).mpr (List.mem_cons_self ..)) (fun z => nomatch z)
  | x :: _, [], _, _, h => absurd ((h x).mp (List.mem_cons_self ..)) (fun z => nomatch z)
  | x :: a, y :: b, ha, hb, h => by
    obtain ⟨a1, a2⟩ := List.pairwise_cons.mp ha
    obtain ⟨b1, b2⟩ := List.pairwise_cons.mp hb
    have e : x = y := by
      rcases List.mem_cons.mp ((h x).mp (List.mem_cons_self ..)) with z | z
      · exact z
      · rcases List.mem_cons.mp ((h y).mpr (List.mem_cons_self ..)) with z2 | z2
        · exact z2.symm
        · have := b1 x z
          have := a1 y z2
          omega
    subst e
    rw [rise_uniq a2 b2 fun k => ?_]
    constructor
    · intro hk
      rcases List.mem_cons.mp ((h k).mp (List.mem_cons_of_mem _ hk)) with z | z
      · have := a1 k hk; omega
      · exact z
    · intro hk
      rcases List.mem_cons.mp ((h k).mpr (List.mem_cons_of_mem _ hk)) with z | z
      · have := b1 k hk; omega
      · exact z
theorem ssort_uniq {xs ns : List Int} (h1 : ns.Pairwise (· < ·)) (h2 : ∀ k, k ∈ ns ↔ k ∈ xs) : ssort xs = ns :=
  rise_uniq (ssort_sorted xs) h1 fun k => by rw [ssort_mem, h2]
def ssetO (xs : List Int) : Option (List Int) := if xs.length < 4000 then some (ssort xs) else none
theorem ssetO_ok {xs r : List Int} (h : ssetO xs = some r) : xs.length < 4000 ∧ ssort xs = r := by
  unfold ssetO at h
  split at h
  · exact ⟨by assumption, Option.some.inj h⟩
  · cases h
end G
/-! My base, part 14: list(zip(two lists)). -/
namespace G
open PySem PySem.Spec PyProof.Rows L2 TL
theorem zip_nolen : typeLookup (.type "zip") "__len__" = pure none := by rw [typeLookup_type, builtinLookup_eq_fast]; kernel_rfl
theorem zip_nohint : typeLookup (.type "zip") "__length_hint__" = pure none := by rw [typeLookup_type, builtinLookup_eq_fast]; kernel_rfl
/-- where the gathering of a zip stands: Ts are the pairs handed out, all of them still there -/
structure ZSt (z TI TO i1 i2 l1 l2 : Addr) (lo : Nat) (xs ys : Array Value) (h : Heap) (Ts : List Addr) : Prop where
  ti : IsPair h TI (.ref i1) (.ref i2)
  z : (Ts = [] ∧ IsZip h z TI TO .none ∧ ∃ a b, IsPair h TO a b) ∨ ∃ T f, T ∈ Ts ∧ IsZipHeld h z TI TO T f
  a1 : h.IsListIter i1 l1 Ts.length
  a2 : h.IsListIter i2 l2 Ts.length
  b1 : h.IsList l1 xs
  b2 : h.IsList l2 ys
  prs : ∀ (j : Nat) (T : Addr), Ts[j]? = some T → ∃ x y, xs[j]? = some x ∧ ys[j]? = some y ∧ IsPair h T x y
  fr : ∀ T ∈ Ts, lo ≤ T
  nd : Ts.Nodup
theorem ne_lo {a b lo : Nat} (h : a < lo) (h2 : lo ≤ b) : b ≠ a := fun e => absurd (e ▸ h2) (Nat.not_le_of_lt h)
section
variable {P : Program} {w : World} {A : Around} {E : Value → Shared → Prop} {s : Shared} {z TI TO i1 i2 l1 l2 S : Addr} {lo : Nat} {xs ys : Array Value} {h h' : Heap} {Ts : List Addr}
theorem ZSt.at_T (Z : ZSt z TI TO i1 i2 l1 l2 lo xs ys h Ts) {T : Addr} (hT : T ∈ Ts) : ∃ o, h.get? T = some o := by
  obtain ⟨j, hj⟩ := List.getElem?_of_mem hT
  obtain ⟨x, y, _, _, p⟩ := Z.prs j T hj
  exact ⟨_, p⟩
/-- what is kept of it by a write elsewhere -/
theorem ZSt.keep (Z : ZSt z TI TO i1 i2 l1 l2 lo xs ys h Ts) (hS : S < lo) (S1 : S ≠ z) (S2 : S ≠ TI) (S3 : S ≠ TO) (S4 : S ≠ i1) (S5 : S ≠ i2) (S6 : S ≠ l1) (S7 : S ≠ l2) (k : ∀ b o, b ≠ S → h.get? b = some o → h'.get? b = some o) : ZSt z TI TO i1 i2 l1 l2 lo xs ys h' Ts := by
  refine ⟨k _ _ S2.symm Z.ti, ?_, Z.a1.at fun o e => k _ o S4.symm e, Z.a2.at fun o e => k _ o S5.symm e, Z.b1.at fun o e => k _ o S6.symm e, Z.b2.at fun o e => k _ o S7.symm e, fun j T hj => ?_, Z.fr, Z.nd⟩
  · rcases Z.z with ⟨e, q, a, b, r⟩ | ⟨T, f, hT, q⟩
    · exact .inl ⟨e, k _ _ S1.symm q, a, b, k _ _ S3.symm r⟩
    · exact .inr ⟨T, f, hT, k _ _ S1.symm q⟩
  · obtain ⟨x, y, e1, e2, p⟩ := Z.prs j T hj
    have hT := Z.fr T (List.mem_of_getElem? hj)
    exact ⟨x, y, e1, e2, k _ _ (ne_lo hS hT) p⟩
/-- one pair more -/
theorem ZSt.more (Z : ZSt z TI TO i1 i2 l1 l2 lo xs ys h Ts) (D : ZipApart z TI TO i1 i2 l1 l2) (hlo : lo ≤ h.objs.size) (hl : z < lo ∧ TO < lo ∧ i1 < lo ∧ i2 < lo) {f : Bool} {x y : Value} (c1 : IsZipHeld h' z TI TO h.objs.size f ∨ ∃ T, T ∈ Ts ∧ IsZipHeld h' z TI TO T f)
    (c2 : h'.IsListIter i1 l1 (Ts.length + 1)) (c3 : h'.IsListIter i2 l2 (Ts.length + 1)) (c4 : IsPair h' h.objs.size x y) (e1 : xs[Ts.length]? = some x) (e2 : ys[Ts.length]? = some y)
    (k : ∀ c o, c ≠ z → c ≠ TO → c ≠ i1 → c ≠ i2 → h.get? c = some o → h'.get? c = some o) : ZSt z TI TO i1 i2 l1 l2 lo xs ys h' (Ts ++ [h.objs.size]) := by
  have hn : h.objs.size ∉ Ts := fun m => by
    obtain ⟨o, e⟩ := Z.at_T m
    exact absurd (Heap.lt_size e) (Nat.lt_irrefl _)
  refine ⟨k _ _ D.TIz D.TITO D.TIi1 D.TIi2 Z.ti, .inr ?_, ?_, ?_, Z.b1.at fun o e => k _ o D.l1z D.l1TO D.l1i1 D.l1i2 e, Z.b2.at fun o e => k _ o D.l2z D.l2TO D.l2i1 D.l2i2 e, fun j T hj => ?_, fun T hT => ?_, ?_⟩
  · rcases c1 with c1 | ⟨T, hT, c1⟩
    · exact ⟨_, f, List.mem_append.mpr (.inr (List.mem_singleton.mpr rfl)), c1⟩
    · exact ⟨T, f, List.mem_append.mpr (.inl hT), c1⟩
  · rw [List.length_append]; exact c2
  · rw [List.length_append]; exact c3
  · by_cases hjl : j < Ts.length
    · rw [List.getElem?_append_left hjl] at hj
      obtain ⟨x', y', f1, f2, p⟩ := Z.prs j T hj
      have hT := Z.fr T (List.mem_of_getElem? hj)
      exact ⟨x', y', f1, f2, k _ _ (ne_lo hl.1 hT) (ne_lo hl.2.1 hT) (ne_lo hl.2.2.1 hT) (ne_lo hl.2.2.2 hT) p⟩
    · rw [List.getElem?_append_right (by omega)] at hj
      have hj0 : j - Ts.length = 0 := by
        cases q : j - Ts.length with
        | zero => rfl
        | succ m => rw [q] at hj; simp at hj
      rw [hj0] at hj
      have eT : h.objs.size = T := Option.some.inj hj
      have ej : j = Ts.length := by omega
      subst ej
      subst eT
      exact ⟨x, y, e1, e2, c4⟩
  · rcases List.mem_append.mp hT with m | m
    · exact Z.fr T m
    · rw [List.mem_singleton.mp m]; exact hlo
  · exact List.nodup_append.mpr ⟨Z.nd, by simp, fun a ha b hb => by
      rw [List.mem_singleton.mp hb]
      intro e
      rw [e] at ha
      exact hn ha⟩
theorem zip_gather {R : Result → Shared → Prop} (hh : A.in1.handled = none) (D : ZipApart z TI TO i1 i2 l1 l2) (hl : z < lo ∧ TO < lo ∧ i1 < lo ∧ i2 < lo) (hS : S < lo) (S1 : S ≠ z) (S2 : S ≠ TI) (S3 : S ≠ TO) (S4 : S ≠ i1) (S5 : S ≠ i2) (S6 : S ≠ l1) (S7 : S ≠ l2) (hn : min xs.size ys.size ≤ sizeLine) (res : Value) :
    ∀ (k : Nat) (s : Shared) (Ts : List Addr) (c : Nat), min xs.size ys.size - Ts.length = k → Ts.length ≤ min xs.size ys.size → lo ≤ s.heap.objs.size → ZSt z TI TO i1 i2 l1 l2 lo xs ys s.heap Ts →
    s.heap.get? S = some { cls := .type "list", dict := none, data := .seq (Ts.map Value.ref).toArray c, slots := #[] } →
    (∀ (s' : Shared) (Ts' : List Addr) (c' : Nat), s'.gens = s.gens → s'.os = s.os → (∀ (j : Nat) (T : Addr), Ts'[j]? = some T → ∃ x y, xs[j]? = some x ∧ ys[j]? = some y ∧ IsPair s'.heap T x y) → (∀ T ∈ Ts', lo ≤ T) → Ts'.Nodup → Ts'.length = min xs.size ys.size → s'.heap.get? S = some { cls := .type "list", dict := none, data := .seq (Ts'.map Value.ref).toArray c', slots := #[] } →
      (∀ b o, b ≠ S → b ≠ z → b ≠ TO → b ≠ i1 → b ≠ i2 → s.heap.get? b = some o → s'.heap.get? b = some o) → R (.ok (.ret res)) s') →
    codeAny (model P w) A (.builtin "list.extend.loop" ⟨[.ref S, .ref z, res], []⟩) R s := by
  intro k
  induction k with
  | zero =>
    intro s Ts c hk hle hlo Z hSo hR
    have hlen : Ts.length = min xs.size ys.size := by omega
    refine codeAny_builtin F.entry_extend_loop ?_; rw [Around.under_plainId F.plain_extend_loop _]
    show wpAny _ A.in1 (pyNext (.ref z) >>= _) _ _ s
    have hend : xs[Ts.length]? = none ∨ ys[Ts.length]? = none := by
      rcases Nat.le_total xs.size ys.size with q | q
      · exact .inl (Array.getElem?_eq_none (by omega))
      · exact .inr (Array.getElem?_eq_none (by omega))
    have fin : ∀ h' : Heap, (∀ c o, c ≠ z → c ≠ TO → c ≠ i1 → c ≠ i2 → s.heap.get? c = some o → h'.get? c = some o) → R (.ok (.ret res)) { s with heap := h' } := fun h' kk => by
      refine hR { s with heap := h' } Ts c rfl rfl (fun j T hj => ?_) Z.fr Z.nd hlen (kk _ _ S1 S3 S4 S5 hSo) (fun b o _ b2 b3 b4 b5 e => kk b o b2 b3 b4 b5 e)
      obtain ⟨x, y, e1, e2, p⟩ := Z.prs j T hj
      have hT := Z.fr T (List.mem_of_getElem? hj)
      exact ⟨x, y, e1, e2, kk _ _ (ne_lo hl.1 hT) (ne_lo hl.2.1 hT) (ne_lo hl.2.2.1 hT) (ne_lo hl.2.2.2 hT) p⟩
    rcases Z.z with ⟨e, q, a, b, r⟩ | ⟨T, f, hT, q⟩
    · refine wpAny_bind (wpAny_pyNext_zip_end hh D q Z.ti r Z.a1 Z.a2 Z.b1 Z.b2 hend fun h' kk => ?_)
      exact wpAny_pure (fin h' kk)
    · obtain ⟨oT, eT⟩ := Z.at_T hT
      refine wpAny_bind (wpAny_pyNext_zip_end_held hh D q eT Z.ti Z.a1 Z.a2 Z.b1 Z.b2 hend fun h' kk => ?_)
      exact wpAny_pure (fin h' fun c o c1 _ c3 c4 e => kk c o c1 c3 c4 e)
  | succ k ih =>
    intro s Ts c hk hle hlo Z hSo hR
    have hlt : Ts.length < min xs.size ys.size := by omega
    have hx : Ts.length < xs.size := by omega
    have hy : Ts.length < ys.size := by omega
    have e1 : xs[Ts.length]? = some xs[Ts.length] := Array.getElem?_eq_getElem hx
    have e2 : ys[Ts.length]? = some ys[Ts.length] := Array.getElem?_eq_getElem hy
    refine codeAny_builtin F.entry_extend_loop ?_; rw [Around.under_plainId F.plain_extend_loop _]
    show wpAny _ A.in1 (pyNext (.ref z) >>= _) _ _ s
    have go : ∀ h' : Heap, h'.objs.size = s.heap.objs.size + 1 → ZSt z TI TO i1 i2 l1 l2 lo xs ys h' (Ts ++ [s.heap.objs.size]) → (∀ c o, c ≠ z → c ≠ TO → c ≠ i1 → c ≠ i2 → s.heap.get? c = some o → h'.get? c = some o) →
        wpAny (model P w) A.in1 (updateSeq S (·.push (Value.ref s.heap.objs.size)) >>= fun _ => again (.builtin "list.extend.loop" ⟨[.ref S, .ref z, res], []⟩)) (fun fin s' => match fin with | .done f => R (.ok f) s' | .again c' => c'.quiet = true ∧ codeAny (model P w) A c' R s') (fun e s' => R (.error e) s') { s with heap := h' } := fun h' hsz Z' kk => by
      have hS' : h'.get? S = some { cls := .type "list", dict := none, data := .seq (Ts.map Value.ref).toArray c, slots := #[] } := kk _ _ S1 S3 S4 S5 hSo
      have hlen1 : ((Ts.map Value.ref).toArray).size = Ts.length := by simp
      refine wpAny_bind ?_
      refine wpAny_updateSeq (s := { s with heap := h' }) hS' rfl (wpAny_pure ⟨plainId_quiet F.plain_extend_loop _, ?_⟩) (by rw [hlen1]; omega) (by show ((Ts.map Value.ref).toArray.push _).size ≤ sizeLine + 1; rw [Array.size_push, hlen1]; omega)
      have hS2 := Heap.get?_update_self (Obj.mapSeq (·.push (Value.ref s.heap.objs.size))) hS' rfl
      have kS : ∀ b o, b ≠ S → h'.get? b = some o → (h'.update S (Obj.mapSeq (·.push (Value.ref s.heap.objs.size)))).get? b = some o := fun b o hb e => (Heap.get?_update_other _ _ (Ne.symm hb)).trans e
      have eA : (Ts.map Value.ref).toArray.push (Value.ref s.heap.objs.size) = ((Ts ++ [s.heap.objs.size]).map Value.ref).toArray := by simp
      refine ih _ (Ts ++ [s.heap.objs.size]) _ (by rw [List.length_append]; show _ - (Ts.length + 1) = k; omega) (by rw [List.length_append]; show Ts.length + 1 ≤ _; omega) ?_ (Z'.keep hS S1 S2 S3 S4 S5 S6 S7 kS) (by rw [← eA]; exact hS2) (fun s' Ts' c' g1 g2 g3 g4 g5 g6 g7 g8 => ?_)
      · show lo ≤ (h'.update S _).objs.size
        rw [(Heap.SameBut.update h' S _).1, hsz]
        omega
      · exact hR s' Ts' c' g1 g2 g3 g4 g5 g6 g7 fun b o b1 b2 b3 b4 b5 e => g8 b o b1 b2 b3 b4 b5 (kS b o b1 (kk b o b2 b3 b4 b5 e))
    rcases Z.z with ⟨e, q, a, b, r⟩ | ⟨T, f, hT, q⟩
    · refine wpAny_bind (wpAny_pyNext_zip_item D q Z.ti r Z.a1 Z.a2 Z.b1 Z.b2 e1 e2 fun h' d1 d2 d3 d4 d5 d6 kk => ?_)
      exact go h' d6 (Z.more D hlo hl (f := false) (.inl d1) d3 d4 d5 e1 e2 kk) kk
    · obtain ⟨oT, eT⟩ := Z.at_T hT
      refine wpAny_bind (wpAny_pyNext_zip_item_held D q eT Z.ti Z.a1 Z.a2 Z.b1 Z.b2 e1 e2 fun h' d1 d3 d4 d5 d6 kk => ?_)
      exact go h' d6 (Z.more D hlo hl (f := true) (.inr ⟨T, hT, d1⟩) d3 d4 d5 e1 e2 fun c o c1 _ c3 c4 e => kk c o c1 c3 c4 e) fun c o c1 _ c3 c4 e => kk c o c1 c3 c4 e
end
end G
/-! My base, part 15: list(zip(..)), the call. -/
namespace G
open PySem PySem.Spec PyProof.Rows L2 TL
section
variable {P : Program} {w : World} {A : Around} {E : Value → Shared → Prop} {s : Shared} {z TI TO i1 i2 l1 l2 S : Addr} {lo : Nat} {xs ys : Array Value}
theorem zip_extend {R : Result → Shared → Prop} (hh : A.handled = none) (D : ZipApart z TI TO i1 i2 l1 l2) (hl : z < lo ∧ TO < lo ∧ i1 < lo ∧ i2 < lo) (hS : S < lo) (S1 : S ≠ z) (S2 : S ≠ TI) (S3 : S ≠ TO) (S4 : S ≠ i1) (S5 : S ≠ i2) (S6 : S ≠ l1) (S7 : S ≠ l2) (hn : min xs.size ys.size ≤ sizeLine) (res : Value)
    (c0 : Nat) (hlo : lo ≤ s.heap.objs.size) (Z : ZSt z TI TO i1 i2 l1 l2 lo xs ys s.heap []) (hSo : s.heap.get? S = some { cls := .type "list", dict := none, data := .seq #[] c0, slots := #[] })
    (hR : ∀ (s' : Shared) (Ts' : List Addr) (c' : Nat), s'.gens = s.gens → s'.os = s.os → (∀ (j : Nat) (T : Addr), Ts'[j]? = some T → ∃ x y, xs[j]? = some x ∧ ys[j]? = some y ∧ IsPair s'.heap T x y) → (∀ T ∈ Ts', lo ≤ T) → Ts'.Nodup → Ts'.length = min xs.size ys.size → s'.heap.get? S = some { cls := .type "list", dict := none, data := .seq (Ts'.map Value.ref).toArray c', slots := #[] } →
      (∀ b o, b ≠ S → b ≠ z → b ≠ TO → b ≠ i1 → b ≠ i2 → s.heap.get? b = some o → s'.heap.get? b = some o) → R (.ok (.ret res)) s') :
    wpAny (model P w) A.in1 (Builtin.List.listExtendWith (.ref S) (.ref z) res) (fun fin s' => match fin with | .done f => R (.ok f) s' | .again c' => c'.quiet = true ∧ codeAny (model P w) A c' R s') (fun e s' => R (.error e) s') s := by
  have hh1 : A.in1.handled = none := by simp [hh]
  obtain ⟨q0, q, ta, tb, tr⟩ : ([] : List Addr) = [] ∧ IsZip s.heap z TI TO .none ∧ ∃ a b, IsPair s.heap TO a b := by
    rcases Z.z with h | ⟨T, f, hT, _⟩
    · exact h
    · exact nomatch hT
  have hT : s.TypeIs (.ref z) "zip" := ⟨_, q, rfl⟩
  unfold Builtin.List.listExtendWith; refine wpAny_bind (wpAny_typeOf hT ?_)
  have m1 : Builtin.List.listSameRef (.ref S) (.ref z) = false := by simp [Builtin.List.listSameRef, S1]
  have m2 : (Value.type "zip" == Value.type "list") = false := by decide
  have m3 : (Value.type "zip" == Value.type "tuple") = false := by decide
  simp only [m1, m2, m3, Bool.or_false, Bool.false_eq_true, if_false]
  refine wpAny_bind (wpAny_pyIter_zip q ?_)
  refine wpAny_bind (wpAny_holding ?_); unfold Builtin.List.listLengthHint
  refine wpAny_bind (wpAny_specialOf hT zip_nolen ?_)
  show wpAny _ A.in1 (specialOf (Value.ref z) (Str.ofString "__length_hint__") >>= _) _ _ _
  refine wpAny_bind (wpAny_specialOf hT zip_nohint ?_); refine wpAny_pure ?_
  show wpAny _ A.in1 (rule "list.extend.makes-room" >>= fun _ => Builtin.List.listTouch (.ref S) >>= fun _ => again (.builtin "list.extend.loop" ⟨[.ref S, .ref z, res], []⟩)) _ _ _
  refine wpAny_bind (wpAny_rule ?_); refine wpAny_bind ?_
  show wpAny _ A.in1 (updateSeq S (·.push .none) >>= fun _ => updateSeq S (·.pop)) _ _ _
  refine wpAny_bind (wpAny_updateSeq hSo rfl ?_)
  have hS2 := Heap.get?_update_self (Obj.mapSeq (·.push Value.none)) hSo rfl
  refine wpAny_updateSeq (hz := by seq_fits) hS2 rfl ?_
  have hS3 := Heap.get?_update_self (Obj.mapSeq (·.pop)) hS2 rfl
  have oth : ∀ b o, b ≠ S → s.heap.get? b = some o → ((s.heap.update S (Obj.mapSeq (·.push Value.none))).update S (Obj.mapSeq (·.pop))).get? b = some o := fun b o hb e => (Heap.get?_update_other _ _ (Ne.symm hb)).trans ((Heap.get?_update_other _ _ (Ne.symm hb)).trans e)
  refine wpAny_pure ⟨plainId_quiet F.plain_extend_loop _, zip_gather hh1 D hl hS S1 S2 S3 S4 S5 S6 S7 hn res (min xs.size ys.size) _ [] _ rfl (Nat.zero_le _) ?_ (Z.keep hS S1 S2 S3 S4 S5 S6 S7 oth) hS3 fun s' Ts' c' g1 g2 g3 g4 g5 g6 g7 g8 => ?_⟩
  · show lo ≤ ((s.heap.update S _).update S _).objs.size
    rw [(Heap.SameBut.update _ S _).1, (Heap.SameBut.update _ S _).1]
    exact hlo
  · exact hR s' Ts' c' g1 g2 g3 g4 g5 g6 g7 fun b o b1 b2 b3 b4 b5 e => g8 b o b1 b2 b3 b4 b5 (oth b o b1 e)
theorem list_zip {Q : Value → Shared → Prop} (hh : A.handled = none) (D : ZipApart z TI TO i1 i2 l1 l2) (hl : z < s.heap.objs.size ∧ TO < s.heap.objs.size ∧ i1 < s.heap.objs.size ∧ i2 < s.heap.objs.size ∧ TI < s.heap.objs.size ∧ l1 < s.heap.objs.size ∧ l2 < s.heap.objs.size) (hn : min xs.size ys.size ≤ sizeLine)
    (hz : IsZip s.heap z TI TO .none) (hTI : IsPair s.heap TI (.ref i1) (.ref i2)) {a b : Value} (hTO : IsPair s.heap TO a b) (a1 : s.heap.IsListIter i1 l1 0) (a2 : s.heap.IsListIter i2 l2 0) (b1 : s.heap.IsList l1 xs) (b2 : s.heap.IsList l2 ys)
    (hq : ∀ (s' : Shared) (Ts' : List Addr) (c' : Nat), s'.gens = s.gens → s'.os = s.os → (∀ (j : Nat) (T : Addr), Ts'[j]? = some T → ∃ x y, xs[j]? = some x ∧ ys[j]? = some y ∧ IsPair s'.heap T x y) → (∀ T ∈ Ts', s.heap.objs.size + 1 ≤ T) → Ts'.Nodup → Ts'.length = min xs.size ys.size → s'.heap.get? s.heap.objs.size = some { cls := .type "list", dict := none, data := .seq (Ts'.map Value.ref).toArray c', slots := #[] } →
      (∀ b o, b ≠ z → b ≠ TO → b ≠ i1 → b ≠ i2 → s.heap.get? b = some o → s'.heap.get? b = some o) → Q (.ref s.heap.objs.size) s') :
    wpAny (model P w) A (call (.type "list") [.ref z]) Q E s := by
  obtain ⟨z1, z2, z3, z4, z5, z6, z7⟩ := hl
  refine callType_codes (Q₁ := fun ob s₁ => ob = .ref s.heap.objs.size ∧ s₁ = { s with heap := s.heap.push { cls := .type "list", data := .seq #[] } }) F.called_list (F.typeCall_list_1 _) F.entry_list_init (code_list_new _ ⟨rfl, rfl⟩) fun ob s₁ h₁ => ?_
  obtain ⟨rfl, rfl⟩ := h₁
  have hSo : (s.heap.push { cls := .type "list", data := .seq #[] }).get? s.heap.objs.size = some { cls := .type "list", data := .seq #[] } := Heap.get?_push_size _ rfl
  have hsz : (s.heap.push { cls := .type "list", data := .seq #[] }).objs.size = s.heap.objs.size + 1 := Heap.size_push ..
  have up : ∀ b o, s.heap.get? b = some o → (s.heap.push { cls := .type "list", data := .seq #[] }).get? b = some o := fun b o e => Heap.get?_push_of_some _ e
  refine ⟨⟨_, hSo, rfl⟩, F.args_list_init_2 _ _, ?_⟩
  show wpAny _ _ (do let old ← Builtin.List.listItems (.ref s.heap.objs.size); Builtin.List.listUpdate (.ref s.heap.objs.size) (fun _ => #[]); letGo old.toList.reverse; Builtin.List.listExtendWith (.ref s.heap.objs.size) (.ref z) .none) _ _ _
  refine wpAny_bind ?_; unfold Builtin.List.listItems
  refine wpAny_bind (wpAny_seqItems hSo rfl (wpAny_pure ?_))
  show wpAny _ _ (updateSeq s.heap.objs.size (fun _ => #[]) >>= fun _ => letGo (#[] : Array Value).toList.reverse >>= fun _ => Builtin.List.listExtendWith (.ref s.heap.objs.size) (.ref z) .none) _ _ _
  refine wpAny_bind (wpAny_updateSeq hSo rfl ?_)
  have hS2 := Heap.get?_update_self (Obj.mapSeq (fun _ => (#[] : Array Value))) hSo rfl
  have oth : ∀ b o, b ≠ s.heap.objs.size → s.heap.get? b = some o → ((s.heap.push { cls := .type "list", data := .seq #[] }).update s.heap.objs.size (Obj.mapSeq (fun _ => (#[] : Array Value)))).get? b = some o := fun b o hb e => (Heap.get?_update_other _ _ (Ne.symm hb)).trans (up b o e)
  refine wpAny_bind (wpAny_letGo ?_)
  have ne : ∀ {b : Addr}, b < s.heap.objs.size → b ≠ s.heap.objs.size := fun hb => Nat.ne_of_lt hb
  refine zip_extend (lo := s.heap.objs.size + 1) (by simp [hh]) D ⟨Nat.lt_succ_of_lt z1, Nat.lt_succ_of_lt z2, Nat.lt_succ_of_lt z3, Nat.lt_succ_of_lt z4⟩ (Nat.lt_succ_self _) (ne z1).symm (ne z5).symm (ne z2).symm (ne z3).symm (ne z4).symm (ne z6).symm (ne z7).symm hn .none _ ?_
    ⟨oth _ _ (ne z5) hTI, .inl ⟨rfl, oth _ _ (ne z1) hz, a, b, oth _ _ (ne z2) hTO⟩, a1.at fun o e => oth _ o (ne z3) e, a2.at fun o e => oth _ o (ne z4) e, b1.at fun o e => oth _ o (ne z6) e, b2.at fun o e => oth _ o (ne z7) e, (fun j T hj => by simp at hj), (fun T hT => nomatch hT), List.nodup_nil⟩ hS2 (fun s' Ts' c' g1 g2 g3 g4 g5 g6 g7 g8 => ?_)
  · show _ ≤ ((s.heap.push _).update _ _).objs.size
    rw [(Heap.SameBut.update _ _ _).1, hsz]
    exact Nat.le_refl _
  · exact ⟨rfl, hq s' Ts' c' g1 g2 g3 g4 g5 g6 g7 fun b o b2 b3 b4 b5 e => g8 b o (Nat.ne_of_lt (Heap.lt_size e)) b2 b3 b4 b5 (oth b o (Nat.ne_of_lt (Heap.lt_size e)) e)⟩
end
end G
/-! My base, part 16: list(zip(..)), the rule; many new pairs. -/
namespace G
open PySem PySem.Spec PyProof.Rows L2 TL
/-- pairs that are laid, one behind another -/
def tupsU (H : Hp) : List (Addr × V × V) → Hp
  | [] => H
  | q :: l => tupsU (upd H q.1 (.tup [q.2.1, q.2.2])) l
structure NewP (H : Hp) (l : List (Addr × V × V)) : Prop where
  none : ∀ q ∈ l, H q.1 = none
  nd : (l.map (·.1)).Nodup
theorem NewP.tail {H : Hp} {q : Addr × V × V} {l : List (Addr × V × V)} (n : NewP H (q :: l)) {o : HO} : NewP (upd H q.1 o) l := by
  have hd := List.nodup_cons.mp (show (q.1 :: l.map (·.1)).Nodup from n.nd)
  refine ⟨fun r hr => ?_, hd.2⟩
  rw [upd_ne (fun e => hd.1 (by rw [← e]; exact List.mem_map.mpr ⟨r, hr, rfl⟩))]
  exact n.none r (List.mem_cons_of_mem _ hr)
theorem tupsU_at : ∀ {l : List (Addr × V × V)} {H : Hp} {a : Addr}, (∀ q ∈ l, q.1 ≠ a) → tupsU H l a = H a
  | [], _, _, _ => rfl
  | q :: l, H, a, h => by
    show tupsU _ l a = _
    rw [tupsU_at fun r hr => h r (List.mem_cons_of_mem _ hr), upd_ne (h q (List.mem_cons_self ..)).symm]
theorem tupsU_in : ∀ {l : List (Addr × V × V)} {H : Hp} {q : Addr × V × V}, (l.map (·.1)).Nodup → q ∈ l → tupsU H l q.1 = some (.tup [q.2.1, q.2.2])
  | r :: l, H, q, hn, hq => by
    have hd := List.nodup_cons.mp (show (r.1 :: l.map (·.1)).Nodup from hn)
    show tupsU _ l q.1 = _
    rcases List.mem_cons.mp hq with rfl | hq
    · rw [tupsU_at fun z hz e => hd.1 (by rw [← e]; exact List.mem_map.mpr ⟨z, hz, rfl⟩), upd_same]
    · exact tupsU_in hd.2 hq
theorem tupsU_gr {M : Addr → Prop} : ∀ {l : List (Addr × V × V)} {F0 H0 F H : Hp}, Gr M F0 H0 F H → NewP H l → Gr M F0 H0 (tupsU F l) (tupsU H l)
  | [], _, _, _, _, g, _ => g
  | q :: l, F0, H0, F, H, g, n => by
    show Gr M F0 H0 (tupsU (upd F q.1 (.tup [q.2.1, q.2.2])) l) (tupsU (upd H q.1 (.tup [q.2.1, q.2.2])) l)
    exact tupsU_gr (g.frz (n.none q (List.mem_cons_self ..))) n.tail
theorem tupsU_RL {α β : Type} [Enc α] [Enc β] {K : PySem.W.Frag} {F : Hp} : ∀ {l : List (Addr × V × V)} {xs : List α} {ys : List β}, (l.map (·.1)).Nodup → (∀ q ∈ l, F q.1 = some (.tup [q.2.1, q.2.2])) → RL K F (l.map (·.2.1)) xs → RL K F (l.map (·.2.2)) ys →
    RL K F (l.map fun q => V.ref q.1) (xs.zip ys)
  | [], _, _, _, _, h1, h2 => by
    have e1 := RL.len h1
    have e3 : ∀ {γ : Type} (z : List γ), ([] : List V).length = z.length → z = [] := fun z h => List.eq_nil_of_length_eq_zero h.symm
    rw [e3 _ e1]
    exact RpA.nil
  | q :: l, [], _, _, _, h1, _ => by cases h1
  | q :: l, _ :: _, [], _, _, _, h2 => by cases h2
  | q :: l, x :: xs, y :: ys, hn, hF, h1, h2 => by
    cases h1 with
    | cons r1 h1 =>
      cases h2 with
      | cons r2 h2 =>
        have hd := List.nodup_cons.mp (show (q.1 :: l.map (·.1)).Nodup from hn)
        exact RL.cons (R.mk2 (.inl (.inl (hF q (List.mem_cons_self ..)))) r1 r2) (tupsU_RL hd.2 (fun z hz => hF z (List.mem_cons_of_mem _ hz)) h1 h2)
theorem HOk.track {P : Program} {w : World} {H : Hp} {h : Heap} {a : Addr} {o : HO} (x : HOk P w H h) (hn : H a = none) (new : ObjOk P w (upd H a o) h a o) : HOk P w (upd H a o) h := fun b u e => by
  by_cases hb : b = a
  · subst hb; rw [upd_same] at e; cases e; exact new
  · rw [upd_ne hb] at e
    exact (x b u e).stay (fun c v _ q => q) (fun c q => by rw [upd_ne (ne_of_none q hn)]; exact q) fun c zs q => by rw [upd_ne (ne_of_none q hn)]; exact q
theorem HOk.tracks {P : Program} {w : World} {h : Heap} : ∀ {l : List (Addr × V × V)} {H : Hp}, HOk P w H h → NewP H l → (∀ q ∈ l, ∃ x y, IsPair h q.1 x y ∧ RelV q.2.1 x ∧ RelV q.2.2 y) → HOk P w (tupsU H l) h
  | [], _, x, _, _ => x
  | q :: l, H, x, n, hp => by
    obtain ⟨a, b, p, r1, r2⟩ := hp q (List.mem_cons_self ..)
    refine HOk.tracks (l := l) (H := upd H q.1 (.tup [q.2.1, q.2.2])) (HOk.track x (n.none q (List.mem_cons_self ..)) ⟨by show 2 ≤ sizeLine; decide, [a, b], .cons r1 (.cons r2 .nil), ⟨_, p, rfl, _, rfl⟩⟩) n.tail fun z hz => hp z (List.mem_cons_of_mem _ hz)
theorem vals_refs : ∀ Ts : List Addr, Vals (Ts.map V.ref) (Ts.map Value.ref)
  | [] => .nil
  | _ :: Ts => .cons rfl (vals_refs Ts)
section
variable {X : Cx}
/-- list(zip(xs, ys)) of two lists -/
def tLZip (K : PySem.W.Frag) (ta : TA) : TE := fun σ H Q => ta σ H fun vs H1 => ∃ (a b : Addr) (xs ys : List V), vs = [.ref a, .ref b] ∧ SqL K H1 a xs ∧ SqL K H1 b ys ∧
  ∀ (l : List (Addr × V × V)) (p : Addr), NewP H1 l → l.map (·.2.1) = xs.take (min xs.length ys.length) → l.map (·.2.2) = ys.take (min xs.length ys.length) → tupsU H1 l p = none → Q (.ref p) (upd (tupsU H1 l) p (.lst (l.map fun q => V.ref q.1)))
theorem pe_lzip {e e2 : Expr} {ta : TA} {p p2 q pos : Pos} (hc : X.calm = true) (hg : Gl X "list") (hm : X.mg "list" = none) (hg2 : Gl X "zip") (hm2 : X.mg "zip" = none) (ha : PA X [e, e2] ta)
    (hs : starEach [e, e2] X.env = (false, eval e X.env) :: starEach [e2] X.env := by rfl) (hpl : (backTo q (starEach [e2] X.env)).any (·.1) = false := by rfl) :
    PE X (.Call (.Name "list" p) [.Call (.Name "zip" p2) [e, e2] [] q] [] pos) (tLZip X.K ta) := by
  refine ⟨fun pins s σ H Q I h => ?_⟩
  refine Call_ (ld_blt I hg hm (u := .type "list") (by decide +kernel) ?_)
  refine PyProof.Rows.callWith_type1 (PyProof.Rows.args_cons ?_ rfl) rfl rfl
  refine Call_ (ld_blt I hg2 hm2 PyProof.Rows.boot_zip (PyProof.Rows.callWith_type1 (thn (ha.run q pins s σ H _ I h) fun us s1 ⟨vs, H1, I1, r1, q1⟩ => ?_) hs hpl))
  obtain ⟨a, b, xs, ys, ex, hqx, hqy, q1⟩ := q1
  subst ex
  obtain ⟨u1, u2, rfl, ra, rb⟩ := vals2 r1
  cases (show u1 = Value.ref a from ra)
  cases (show u2 = Value.ref b from rb)
  obtain ⟨its, rv, p1, hz1⟩ := I1.list hqx
  obtain ⟨its2, rv2, pq2, hz2⟩ := I1.list hqy
  have la : a < s1.heap.objs.size := p1.lt
  have lb : b < s1.heap.objs.size := pq2.lt
  refine call_zip_2 p1.isList pq2.isList fun h' hz hTI hTO h1 h2 hsz hk => ?_
  refine PyProof.Rows.args_nil ?_
  have hmin : min its.toArray.size its2.toArray.size = min xs.length ys.length := by simp [← rv.length, ← rv2.length]
  refine list_zip (s := { s1 with heap := h' }) (I1.ok.hd hc) (PySem.W.ktu_apart s1.heap.objs.size a b la lb) ?_ (by rw [hmin]; exact Nat.le_trans (Nat.min_le_left _ _) hz1) hz hTI hTO h1 h2 (p1.isList.at fun o e => hk a o e) (pq2.isList.at fun o e => hk b o e) fun s' Ts c g1 g2 g3 g4 g5 g6 g7 g8 => ?_
  · show _ < h'.objs.size ∧ _ < h'.objs.size ∧ _ < h'.objs.size ∧ _ < h'.objs.size ∧ _ < h'.objs.size ∧ a < h'.objs.size ∧ b < h'.objs.size
    rw [hsz]
    have la' : (a : Nat) < s1.heap.objs.size := la
    have lb' : (b : Nat) < s1.heap.objs.size := lb
    refine ⟨?_, ?_, ?_, ?_, ?_, ?_, ?_⟩ <;> (first | exact Nat.lt_succ_self _ | exact Nat.add_lt_add_left (by decide) _ | exact Nat.lt_of_lt_of_le la (Nat.le_add_right _ _) | exact Nat.lt_of_lt_of_le lb (Nat.le_add_right _ _) | exact Nat.lt_add_of_pos_right (by decide))
  · have hsz' : h'.objs.size = s1.heap.objs.size + 5 := hsz
    have kept : ∀ b o, s1.heap.get? b = some o → s'.heap.get? b = some o := fun b o e => by
      have hb := Heap.lt_size e
      exact g8 b o (Nat.ne_of_lt (Nat.lt_of_lt_of_le hb (Nat.le_add_right _ _))) (Nat.ne_of_lt (Nat.lt_of_lt_of_le hb (Nat.le_add_right _ _))) (Nat.ne_of_lt hb) (Nat.ne_of_lt (Nat.lt_of_lt_of_le hb (Nat.le_add_right _ _))) (hk b o e)
    generalize hn : min xs.length ys.length = n at hmin
    have hl1 : (xs.take n).length = n := by rw [List.length_take]; omega
    have hl2 : (ys.take n).length = n := by rw [List.length_take]; omega
    have hT : Ts.length = n := g6.trans hmin
    have hz2' : ((xs.take n).zip (ys.take n)).length = n := by rw [List.length_zip, hl1, hl2, Nat.min_self]
    obtain ⟨l, hl⟩ : ∃ l, l = Ts.zip ((xs.take n).zip (ys.take n)) := ⟨_, rfl⟩
    have m1 : l.map (·.1) = Ts := by rw [hl]; exact List.map_fst_zip (by rw [hT, hz2']; exact Nat.le_refl _)
    have m2 : l.map (·.2) = (xs.take n).zip (ys.take n) := by rw [hl]; exact List.map_snd_zip (by rw [hT, hz2']; exact Nat.le_refl _)
    have m3 : l.map (·.2.1) = xs.take n := by
      have : (l.map (·.2)).map (·.1) = xs.take n := by rw [m2]; exact List.map_fst_zip (by rw [hl1, hl2]; exact Nat.le_refl _)
      rwa [List.map_map] at this
    have m4 : l.map (·.2.2) = ys.take n := by
      have : (l.map (·.2)).map (·.2) = ys.take n := by rw [m2]; exact List.map_snd_zip (by rw [hl1, hl2]; exact Nat.le_refl _)
      rwa [List.map_map] at this
    have m5 : (l.map fun q => V.ref q.1) = Ts.map V.ref := by rw [← m1, List.map_map]; rfl
    have hTlo : ∀ T ∈ Ts, s1.heap.objs.size + 6 ≤ T := fun T hm => by
      have := g4 T hm
      have e : h'.objs.size + 1 = s1.heap.objs.size + 6 := by rw [hsz']
      rw [← e]
      exact this
    have newp : NewP H1 l := ⟨fun q hq => I1.hok.fresh (Nat.le_trans (Nat.le_add_right _ 6) (hTlo q.1 (by rw [← m1]; exact List.mem_map.mpr ⟨q, hq, rfl⟩))), by rw [m1]; exact g5⟩
    have hp0 : ∀ q ∈ l, q.1 ≠ h'.objs.size := fun q hq e => by
      have := g4 q.1 (by rw [← m1]; exact List.mem_map.mpr ⟨q, hq, rfl⟩)
      rw [e] at this
      exact absurd this (Nat.not_succ_le_self _)
    have hpn : tupsU H1 l h'.objs.size = none := by
      rw [tupsU_at hp0]
      exact I1.hok.fresh (by rw [hsz']; exact Nat.le_add_right _ _)
    have prs : ∀ q ∈ l, ∃ x y, IsPair s'.heap q.1 x y ∧ RelV q.2.1 x ∧ RelV q.2.2 y := fun q hq => by
      obtain ⟨j, hj⟩ := List.getElem?_of_mem hq
      have j1 : Ts[j]? = some q.1 := by rw [← m1, List.getElem?_map, hj]; rfl
      have j2 : (xs.take n)[j]? = some q.2.1 := by rw [← m3, List.getElem?_map, hj]; rfl
      have j3 : (ys.take n)[j]? = some q.2.2 := by rw [← m4, List.getElem?_map, hj]; rfl
      obtain ⟨x, y, e1, e2, pr⟩ := g3 j q.1 j1
      have k2 : xs[j]? = some q.2.1 := by
        have := List.getElem?_take_of_lt (l := xs) (show j < n by rw [← hT]; exact (List.getElem?_eq_some_iff.mp j1).1)
        rw [← this]
        exact j2
      have k3 : ys[j]? = some q.2.2 := by
        have := List.getElem?_take_of_lt (l := ys) (show j < n by rw [← hT]; exact (List.getElem?_eq_some_iff.mp j1).1)
        rw [← this]
        exact j3
      obtain ⟨w1, f1, r1⟩ := rv.get k2
      obtain ⟨w2, f2, r2⟩ := rv2.get k3
      have x1 : w1 = x := by
        have : its[j]? = some x := by simpa using e1
        rw [f1] at this
        exact Option.some.inj this
      have x2 : w2 = y := by
        have : its2[j]? = some y := by simpa using e2
        rw [f2] at this
        exact Option.some.inj this
      exact ⟨x, y, pr, x1 ▸ r1, x2 ▸ r2⟩
    have old : ∀ b, b < s1.heap.objs.size → upd (tupsU H1 l) h'.objs.size (.lst (l.map fun q => V.ref q.1)) b = H1 b := fun b hb => by
      rw [upd_ne (Nat.ne_of_lt (Nat.lt_of_lt_of_le hb (by rw [hsz']; exact Nat.le_add_right _ _)))]
      refine tupsU_at fun q hq e => ?_
      have := hTlo q.1 (by rw [← m1]; exact List.mem_map.mpr ⟨q, hq, rfl⟩)
      rw [e] at this
      exact absurd (Nat.lt_of_lt_of_le hb (Nat.le_trans (Nat.le_add_right _ 6) this)) (Nat.lt_irrefl _)
    have oldS : ∀ {b : Addr} {o : HO}, H1 b = some o → upd (tupsU H1 l) h'.objs.size (.lst (l.map fun q => V.ref q.1)) b = some o := fun e => by rw [old _ (I1.hok.lt e)]; exact e
    have hok : HOk X.prog X.w (upd (tupsU H1 l) h'.objs.size (.lst (l.map fun q => V.ref q.1))) s'.heap :=
      HOk.track (HOk.tracks (I1.hok.kept kept) newp prs) hpn ⟨by rw [m5, List.length_map, hT, ← hn]; exact Nat.le_trans (Nat.min_le_left _ _) hz1, Ts.map Value.ref, c, by rw [m5]; exact vals_refs Ts, g7⟩
    have un : Un (frs X.stack) [] H1 (upd (tupsU H1 l) h'.objs.size (.lst (l.map fun q => V.ref q.1))) s1.heap s'.heap :=
      ⟨fun b o e _ _ _ => kept b o e, fun b o e _ _ _ => ⟨o.slots, kept b o e⟩, fun b o e n _ => by rw [old b (Heap.lt_size e)]; exact n, fun b o e _ => ⟨o, kept b o e⟩, fun b zs e => oldS e, fun b o u e => oldS e, fun b ps e => ⟨#[], by rw [oldS e]; simp⟩⟩
    have J : Inv X pins σ (upd (tupsU H1 l) h'.objs.size (.lst (l.map fun q => V.ref q.1))) s' := Inv.call' (ch := []) I1 g2 un hok (by rw [g1]; exact I1.bare) (fun _ z => nomatch z)
    exact ⟨.ref h'.objs.size, _, J, rfl, q1 l h'.objs.size newp (by rw [m3, hn]) (by rw [m4, hn]) hpn⟩
end
end G
/-! My base, part 17: xs.extend(a tuple). -/
namespace G
open PySem PySem.Spec PyProof.Rows L2 TL
theorem ext_tup (l : Addr) (xs : Array Value) (n : Nat) (b : Addr) (ys : Array Value) (n2 : Nat) (dd : Option Addr) (sl : Array (Option Value)) (h0 : ¬(!xs.isEmpty && Builtin.List.listTooLong (xs.size + ys.size)) = true) (h1 : xs.size ≤ sizeLine) (h2 : xs.size + ys.size ≤ sizeLine + 1) :
    Meets (Builtin.«list.extend» ⟨[.ref l, .ref b], []⟩) (fun _ R s => s.heap.get? l = some { cls := .type "list", dict := none, data := .seq xs n, slots := #[] } ∧ s.heap.get? b = some { cls := .type "tuple", dict := dd, data := .seq ys n2, slots := sl } ∧ R (.ok (.ret Value.none)) { s with heap := s.heap.update l (Obj.mapSeq fun x => x ++ ys), toks := s.toks }) :=
  .of_wp fun prog w A R s h => by
    obtain ⟨hp, g, d, tk, os⟩ := s; obtain ⟨hl, hb, h⟩ := h; have q1 := AutoSeq1.idx_int; have q2 := AutoSeq1.sub_tuple_tuple; have q3 := AutoSeq1.sub_list_list; have q4 := AutoSeq1.sub_tuple_list; have q5 := AutoSeq1.sub_list_tuple
    have hz : (xs ++ ys).size ≤ sizeLine + 1 := by rw [Array.size_append]; exact h2
    wp_walk using (wpAny_updateSeq hl rfl (hz := h1) (_hz' := hz)), AutoSeq1.wpAny_loadPart' hl, AutoSeq1.wpAny_loadPart' hb; exact ⟨_, rfl, h⟩
section
variable {X : Cx}
def rExtT (K : PySem.W.Frag) : V → List V → Hp → VK → Prop := fun x vs H Q => ∃ l b xs zs, x = .ref l ∧ vs = [.ref b] ∧ H l = some (.lst xs) ∧ SqT K H b zs ∧ xs.length + zs.length ≤ sizeLine ∧ Q .non (upd H l (.lst (xs ++ zs)))
theorem mt_extT : MtM X "list.extend" (rExtT X.K) := by
  intro pins s σ H x vs v us Q I rx rv h
  obtain ⟨l, b, xs, zs, rfl, rfl, hH, hB, hz, q⟩ := h
  cases rx
  obtain ⟨u, rfl, ru⟩ := rv.one
  cases ru
  obtain ⟨z, its, n, r, hl, e⟩ := I.lstM hH
  obtain ⟨its2, r2, ⟨⟨oc, od, dt, sl⟩, ho, hc, n2, hd⟩, hz2⟩ := I.tuple hB
  simp only at hc hd
  subst hc; subst hd
  have hl2 := r2.length
  have hsz : its.toArray.size + its2.toArray.size ≤ sizeLine := by rw [List.size_toArray, List.size_toArray]; omega
  have hlong : ¬ (!its.toArray.isEmpty && Builtin.List.listTooLong (its.toArray.size + its2.toArray.size)) = true := by rw [notLongL hsz, Bool.and_false]; exact Bool.false_ne_true
  refine call_meets F.slot_list_extend ⟨_, e, rfl⟩ F.entry_list_extend (F.args_list_extend_2 _ _) (ext_tup l its.toArray n b its2.toArray n2 od sl hlong (by rw [List.size_toArray]; omega) (by omega)) ⟨e, ho, ?_⟩
  exact ⟨.non, _, I.lset (its' := its ++ its2) hH e (by simp) (r.append r2) (by rw [List.length_append]; omega), rfl, q⟩
end
end G
/-! My base, part 18: what list(zip(..)) stands for; extend. -/
namespace G
open PySem PySem.Spec PyProof.Rows L2 TL
theorem zip_tk {α β : Type} : ∀ (xs : List α) (ys : List β) (n : Nat), n = min xs.length ys.length → (xs.take n).zip (ys.take n) = xs.zip ys
  | [], ys, n, h => by simp
  | x :: xs, [], n, h => by simp
  | x :: xs, y :: ys, n, h => by
    have e : n = min xs.length ys.length + 1 := by rw [h, List.length_cons, List.length_cons]; omega
    subst e
    rw [List.take_succ_cons, List.take_succ_cons, List.zip_cons_cons, List.zip_cons_cons, zip_tk xs ys _ rfl]
section
variable {α β : Type} [Enc α] [Enc β] {K : PySem.W.Frag} {F H : Hp} {l : List (Addr × V × V)} {ws ws2 : List V} {xs : List α} {ys : List β}
theorem RL.tk (n : Nat) (h : RL K F ws xs) : RL K F (ws.take n) (xs.take n) := by
  show RpA K F _ _
  rw [List.map_take]
  exact RpA.take n h
theorem lz_RL (nw : NewP H l) (sm : Same F (tupsU F l)) (e1 : l.map (·.2.1) = ws.take (min ws.length ws2.length)) (e2 : l.map (·.2.2) = ws2.take (min ws.length ws2.length)) (h1 : RL K F ws xs) (h2 : RL K F ws2 ys) :
    RL K (tupsU F l) (l.map fun q => V.ref q.1) (List.zip xs ys) := by
  rw [← zip_tk xs ys (min ws.length ws2.length) (by rw [h1.len, h2.len])]
  refine tupsU_RL nw.nd (fun q hq => tupsU_in nw.nd hq) ?_ ?_
  · rw [e1]
    exact RpA.up (RL.tk _ h1) sm
  · rw [e2]
    exact RpA.up (RL.tk _ h2) sm
theorem lz_len (e1 : l.map (·.2.1) = ws.take (min ws.length ws2.length)) (hl : ws.length ≤ sizeLine) : (l.map fun q => V.ref q.1).length ≤ sizeLine := by
  have h := congrArg List.length e1
  rw [List.length_map, List.length_take] at h
  rw [List.length_map, h]
  exact Nat.le_trans (Nat.min_le_right _ _) hl
end
def extL {α : Type} (xs ys : List α) : Option (List α) := conL xs ys
end G
/-! My base, part 19: rules that name K. -/
namespace G
open PySem PySem.Spec PyProof.Rows L2 TL
theorem RL.re {α : Type} [Enc α] {K : PySem.W.Frag} {F : Hp} {ws : List V} {x y : List α} (h : x = y) (r : RL K F ws x) : RL K F ws y := h ▸ r
section
variable {X : Cx} {K : PySem.W.Frag}
theorem ix_listK (h : X.K = K := by rfl) : IxR X (rIxL K) := h ▸ ix_list
theorem ix_tupK (h : X.K = K := by rfl) : IxR X (rIxT K) := h ▸ ix_tup
theorem sl_listK (h : X.K = K := by rfl) : SlR X (rSlL K) := h ▸ sl_list
theorem call_lenLK (h : X.K = K := by rfl) : CallR X (.builtin "len") (fun xs H Q => ∃ p ys n, xs = [.ref p] ∧ (SqL K H p ys ∨ SqT K H p ys) ∧ ys.length = n ∧ Q (.int (n : Nat)) H) := by subst h; exact call_lenL
theorem call_isi_ (h : X.K = K := by rfl) : CallR X (.builtin "isinstance") (rIsi K) := by subst h; exact call_isi
theorem call_list_of_ (h : X.K = K := by rfl) : CallR X (.type "list") (fun xs H Q => ∃ p ys, xs = [.ref p] ∧ (SqL K H p ys ∨ SqT K H p ys) ∧ ∀ l, H l = none → Q (.ref l) (upd H l (.lst ys))) := by subst h; exact call_list_of
theorem cr_all_ (hc : X.calm = true) (h : X.K = K := by rfl) : CallR X (.builtin "all") (rAll K) := by subst h; exact cr_all hc
theorem cr_any_ (hc : X.calm = true) (h : X.K = K := by rfl) : CallR X (.builtin "any") (rAny K) := by subst h; exact cr_any hc
theorem cr_sortedI_ (h : X.K = K := by rfl) : CallR X (.builtin "sorted") (rSortedI K) := by subst h; exact cr_sortedI
theorem op_catLK (h : X.K = K := by rfl) : OpR X (binaryOp .Add) (rCatL K) := by subst h; exact op_catL
theorem op_eqDK (hu : X.A.units + 64 < cLine) (h : X.K = K := by rfl) : OpR X (compareOp .Eq) (rEqD K) := by subst h; exact op_eqD hu
theorem op_neDK (hu : X.A.units + 64 < cLine) (h : X.K = K := by rfl) : OpR X (compareOp .NotEq) (rNeD K) := by subst h; exact op_neD hu
theorem pi_listK {tg l : Expr} {tl : TE} (hl : PE X l tl) (h : X.K = K := by rfl) : PI X tg l (iList K tl) := by subst h; exact pi_list hl
theorem pi_tupK {tg l : Expr} {tl : TE} (hl : PE X l tl) (h : X.K = K := by rfl) : PI X tg l (iTup K tl) := by subst h; exact pi_tup hl
theorem pg_tupK {es : List Expr} {k : Nat} {pos : Pos} {t : TGs} (n : Nat) (hc : X.calm = true) (ht : PGs X es t) (h : X.K = K := by rfl)
    (hn : (assignEach es X.env).length = n := by rfl) (hst : (assignEach es X.env).findIdx? (·.1) = none := by rfl) : PG X (.Tuple es k pos) (gTup K n t) := by subst h; exact pg_tup hc ht hn hst
theorem pe_bmK {o e : Expr} {es : List Expr} {to : TE} {t : TA} {name : Str} {apos cpos : Pos} {T id : String} {r : V → List V → Hp → VK → Prop} (pa : PlainAttrs T) (slot : Slot T name id) (hty : typeOf (.builtin id) = pure (.type "method_descriptor")) (hm : MtR X id r) (ho : PE X o to) (ha : PA X (e :: es) t) (h : X.K = K := by rfl)
    (hbase : attributeBase o name X.env (eval o X.env) = eval o X.env := by rfl)
    (hfew : ((backTo cpos (starEach (e :: es) X.env)).all (fun x => !x.1) && (backToKw cpos (keywordEach [] X.env)).all (fun x => x.1.isSome) && decide ((e :: es).length + ([] : List Keyword).length + (if ([] : List Keyword).isEmpty then 0 else 1) < 30)) = true := by rfl)
    (hline : (apos.endLine == cpos.line) = true := by rfl) (hs : starEach (e :: es) X.env = (false, eval e X.env) :: starEach es X.env := by rfl) (hplain : (backTo cpos (starEach es X.env)).any (·.1) = false := by rfl) :
    PE X (.Call (.Attribute o name apos) (e :: es) [] cpos) (tBM K T r to t) := by subst h; exact pe_bm pa slot hty hm ho ha hbase hfew hline hs hplain
theorem pe_bm0K {o : Expr} {to : TE} {name : Str} {apos cpos : Pos} {T id : String} {r : V → List V → Hp → VK → Prop} (pa : PlainAttrs T) (slot : Slot T name id) (hty : typeOf (.builtin id) = pure (.type "method_descriptor")) (hm : MtR X id r) (ho : PE X o to) (h : X.K = K := by rfl)
    (hbase : attributeBase o name X.env (eval o X.env) = eval o X.env := by rfl) (hline : (apos.endLine == cpos.line) = true := by rfl) : PE X (.Call (.Attribute o name apos) [] [] cpos) (tBM0 K T r to) := by subst h; exact pe_bm0 pa slot hty hm ho hbase hline
def rJoin (K : PySem.W.Frag) : V → List V → Hp → VK → Prop := fun x xs H Q => ∃ a p, ∃ ys : List Str, x = .str a ∧ xs = [.ref p] ∧ (SqL K H p (ys.map V.str) ∨ SqT K H p (ys.map V.str)) ∧
  (ys.map (·.length)).sum + ys.length * a.length ≤ 16777216 ∧ Q (.str (Txt.join a ys)) H
theorem pe_joinK {o e : Expr} {to te : TE} {apos pos : Pos} (ho : PE X o to) (he : PE X e te) (h : X.K = K := by rfl) (hs : starEach [e] X.env = [(false, eval e X.env)] := by rfl) (hbase : attributeBase o "join" X.env (eval o X.env) = eval o X.env := by rfl) (hline : (apos.endLine == pos.line) = true := by rfl) :
    PE X (.Call (.Attribute o "join" apos) [e] [] pos) (tM1 (rJoin K) to te) := by subst h; exact pe_join ho he hs hbase hline
theorem pe_revLK {e : Expr} {te : TE} {k : Nat} {p1 p2 p3 pos : Pos} (he : PE X e te) (h : X.K = K := by rfl) : PE X (.Subscript e (.Slice none none (some (.UnaryOp .USub (.Constant (.int 1) k p1) p2)) p3) pos) (tRevL K te) := by subst h; exact pe_revL he
theorem pe_ssetK {a : Expr} {ta : TE} {p p2 q pos : Pos} (hc : X.calm = true) (hg : Gl X "sorted") (hm : X.mg "sorted" = none) (hg2 : Gl X "set") (hm2 : X.mg "set" = none) (ha : PE X a ta) (h : X.K = K := by rfl)
    (na : starEach [a] X.env = (false, eval a X.env) :: starEach [] X.env := by rfl) : PE X (.Call (.Name "sorted" p) [.Call (.Name "set" p2) [a] [] q] [] pos) (tSSet K ta) := by subst h; exact pe_sset hc hg hm hg2 hm2 ha na
theorem pe_lzipK {e e2 : Expr} {ta : TA} {p p2 q pos : Pos} (hc : X.calm = true) (hg : Gl X "list") (hm : X.mg "list" = none) (hg2 : Gl X "zip") (hm2 : X.mg "zip" = none) (ha : PA X [e, e2] ta) (h : X.K = K := by rfl)
    (hs : starEach [e, e2] X.env = (false, eval e X.env) :: starEach [e2] X.env := by rfl) (hpl : (backTo q (starEach [e2] X.env)).any (·.1) = false := by rfl) :
    PE X (.Call (.Name "list" p) [.Call (.Name "zip" p2) [e, e2] [] q] [] pos) (tLZip K ta) := by subst h; exact pe_lzip hc hg hm hg2 hm2 ha hs hpl
theorem mt_extTK (h : X.K = K := by rfl) : MtM X "list.extend" (rExtT K) := by subst h; exact mt_extT
end
end G
/-! sorted(texts), any number; sorted(pairs of ints), any number. -/
namespace G
open PySem PySem.Spec PyProof.Rows L2 TL
def leT (a b : Str) : Bool := decide (tl a ≤ tl b)
def sortT (xs : List Str) : List Str := xs.mergeSort leT
theorem leT_trans (a b c : Str) (h1 : leT a b = true) (h2 : leT b c = true) : leT a c = true := decide_eq_true (List.le_trans (of_decide_eq_true h1) (of_decide_eq_true h2))
theorem leT_total (a b : Str) : (leT a b || leT b a) = true := by
  unfold leT
  rcases List.le_total (tl a) (tl b) with h | h
  · rw [decide_eq_true h]; rfl
  · rw [decide_eq_true h, Bool.or_true]
theorem sortT_perm (xs : List Str) : (sortT xs).Perm xs := List.mergeSort_perm _ _
theorem sortT_sorted (xs : List Str) : (sortT xs).Pairwise fun a b => leT a b = true := List.pairwise_mergeSort leT_trans leT_total xs
theorem sortT_len (xs : List Str) : (sortT xs).length = xs.length := (sortT_perm xs).length_eq
theorem tl_eq {x y : Str} (h : tl x = tl y) : x = y := by
  cases x; cases y
  simp only [tl] at h
  congr
  exact Array.toList_inj.mp h
theorem rising_pw : ∀ (r : List Str) (p : Str), risingS p r = true → (p :: r).Pairwise fun a b => leT a b = true
  | [], p, _ => List.pairwise_singleton _ _
  | x :: r, p, h => by
    have h' : (!ltCps x.cps.toList p.cps.toList && risingS x r) = true := h
    rw [Bool.and_eq_true, ltCps_eq, Bool.not_eq_true', decide_eq_false_iff_not] at h'
    have ih := rising_pw r x h'.2
    have hx : leT p x = true := decide_eq_true h'.1
    refine List.pairwise_cons.mpr ⟨fun z hz => ?_, ih⟩
    rcases List.mem_cons.mp hz with rfl | hz
    · exact hx
    · exact leT_trans _ _ _ hx ((List.pairwise_cons.mp ih).1 z hz)
theorem sortedS_pw : ∀ l : List Str, sortedS l = true → l.Pairwise fun a b => leT a b = true
  | [], _ => List.Pairwise.nil
  | x :: r, h => rising_pw r x h
theorem sortT_uniq {xs ys : List Str} (h : ys.Perm xs) (h2 : sortedS ys = true) : sortT xs = ys :=
  ((sortT_perm xs).trans h.symm).eq_of_pairwise (le := fun a b => leT a b = true) (fun a b _ _ h3 h4 => tl_eq (List.le_antisymm (of_decide_eq_true h3) (of_decide_eq_true h4))) (sortT_sorted xs) (sortedS_pw ys h2)
def rSortedSA (K : PySem.W.Frag) : List V → Hp → VK → Prop := fun vs H Q => ∃ (a : Addr) (xs : List Str), vs = [V.ref a] ∧ SqL K H a (xs.map V.str) ∧
  ∀ (p : Addr), H p = none → Q (.ref p) (upd H p (.lst ((sortT xs).map V.str)))
section
variable {X : Cx} {K : PySem.W.Frag}
theorem cr_sortedSA : CallR X (.builtin "sorted") (rSortedSA X.K) := by
  intro pins s σ H vs us Q I r h
  obtain ⟨a, xs, rfl, hs, q⟩ := h
  obtain ⟨its, rv, hl, hz⟩ := I.list hs
  rw [Vals.ref1 r]
  have hlen0 := rv.length
  refine PyProof.Rows.sorted_strsAny hl.isList rv.strs (by rw [← hlen0]; exact hz) fun out ys h1 h2 h3 => ?_
  obtain rfl := sortT_uniq h2 h3
  obtain ⟨ep, he'⟩ := PyProof.Rows.sortedAll_at s.heap its out
  have hlen : ((sortT xs).map V.str).length ≤ sizeLine := by rw [List.length_map, sortT_len]; rw [List.length_map] at hz; exact hz
  exact ⟨.ref _, upd H (s.heap.objs.size + 1) (.lst ((sortT xs).map V.str)), I.laid (t' := s.toks) (fun _ _ => PyProof.Rows.sortedAll_old) (Nat.le_succ _) ⟨hlen, out.toList, ep, vals_of_strs h1, he'⟩, rfl, q _ (I.hok.fresh (Nat.le_succ _))⟩
theorem cr_sortedSA_ (h : X.K = K := by rfl) : CallR X (.builtin "sorted") (rSortedSA K) := by subst h; exact cr_sortedSA
end
/-! ### pairs -/
def leP (p q : Int × Int) : Bool := decide (p.1 < q.1 ∨ (p.1 = q.1 ∧ p.2 ≤ q.2))
def sortP (xs : List (Int × Int)) : List (Int × Int) := xs.mergeSort leP
theorem leP_trans (a b c : Int × Int) (h1 : leP a b = true) (h2 : leP b c = true) : leP a c = true := by
  have h1 := of_decide_eq_true h1
  have h2 := of_decide_eq_true h2
  exact decide_eq_true (by omega)
theorem leP_total (a b : Int × Int) : (leP a b || leP b a) = true := by
  unfold leP
  by_cases h : a.1 < b.1 ∨ (a.1 = b.1 ∧ a.2 ≤ b.2)
  · rw [decide_eq_true h]; rfl
  · rw [decide_eq_true (p := b.1 < a.1 ∨ (b.1 = a.1 ∧ b.2 ≤ a.2)) (by omega), Bool.or_true]
theorem sortP_perm (xs : List (Int × Int)) : (sortP xs).Perm xs := List.mergeSort_perm _ _
theorem sortP_sorted (xs : List (Int × Int)) : (sortP xs).Pairwise fun a b => leP a b = true := List.pairwise_mergeSort leP_trans leP_total xs
theorem sortP_len (xs : List (Int × Int)) : (sortP xs).length = xs.length := (sortP_perm xs).length_eq
theorem sortP_uniq {xs ys : List (Int × Int)} (h : ys.Perm xs) (h2 : ys.Pairwise fun a b => leP a b = true) : sortP xs = ys :=
  ((sortP_perm xs).trans h.symm).eq_of_pairwise (le := fun a b => leP a b = true) (fun a b _ _ h3 h4 => by
    have h3 := of_decide_eq_true h3
    have h4 := of_decide_eq_true h4
    exact Prod.ext (by omega) (by omega)) (sortP_sorted xs) h2
open Classical in
noncomputable def keyV (K : PySem.W.Frag) (H : Hp) (v : V) : Int × Int := if h : ∃ x : Int × Int, R K H v x then h.choose else (0, 0)
theorem keyV_spec {K : PySem.W.Frag} {H : Hp} {v : V} {x : Int × Int} (h : R K H v x) : R K H v (keyV K H v) := by
  unfold keyV
  rw [dif_pos ⟨x, h⟩]
  exact Exists.choose_spec (⟨x, h⟩ : ∃ x : Int × Int, R K H v x)
def rSortedPK (K : PySem.W.Frag) : List V → Hp → VK → Prop := fun vs H Q => ∃ (a : Addr) (xs : List V) (ds : List (Int × Int)), vs = [V.ref a] ∧ SqL K H a xs ∧ RL K H xs ds ∧
  ∀ (ys : List V) (p : Addr), ys.length = xs.length → (∀ F, RL K F xs ds → RL K F ys (sortP ds)) → H p = none → Q (.ref p) (upd H p (.lst ys))
section
variable {X : Cx} {K : PySem.W.Frag}
theorem cr_sortedPK : CallR X (.builtin "sorted") (rSortedPK X.K) := by
  intro pins s σ H vs us Q I r h
  obtain ⟨a, xs, ds, rfl, hs, hA, q⟩ := h
  have hkey : ∀ i v x, xs[i]? = some v → ds[i]? = some x → keyV X.K H v = x ∧ ∃ t, v = .ref t ∧ SqT X.K H t [.int x.1, .int x.2] := fun i v x hv hx => by
    obtain ⟨x', hx', r⟩ := RL.get hA hv
    rw [hx] at hx'
    cases hx'
    have r2 := keyV_spec r
    obtain ⟨p, v1, v2, e, h1, r3, r4⟩ := R.p2_v r
    obtain ⟨p', w1, w2, e', h2, r5, r6⟩ := R.p2_v r2
    subst e
    cases e'
    obtain rfl := R.int_v r3
    obtain rfl := R.int_v r4
    obtain rfl := R.int_v r5
    obtain rfl := R.int_v r6
    have := I.tuple_inj h1 h2
    simp only [List.cons.injEq, V.int.injEq, and_true] at this
    exact ⟨Prod.ext this.1.symm this.2.symm, p, rfl, h1⟩
  have hlen : xs.length = ds.length := RL.len hA
  have hmem : ∀ v ∈ xs, ∃ t, v = .ref t ∧ SqT X.K H t [.int (keyV X.K H v).1, .int (keyV X.K H v).2] := fun v hv => by
    obtain ⟨i, hi, rfl⟩ := List.getElem_of_mem hv
    obtain ⟨k1, k2⟩ := hkey i xs[i] (ds[i]'(by omega)) (List.getElem?_eq_getElem hi) (List.getElem?_eq_getElem (by omega))
    rw [k1]
    exact k2
  obtain ⟨its, rv, hl, hz⟩ := I.list hs
  obtain ⟨u, rfl, ru⟩ := vals1 r
  obtain rfl : u = Value.ref a := ru
  obtain ⟨e1, e2⟩ := refs_back rv fun x m => by
    obtain ⟨t, e, _⟩ := hmem x m
    exact ⟨t, e⟩
  refine SrtO.sorted_pairsO (k := fun u => keyV X.K H (backV u)) hl.isList (by rw [← rv.length]; exact hz) (fun v hv => ?_) fun h' d out h1 h2 kp hd hn => ?_
  · obtain ⟨t, rfl⟩ := e2 v hv
    have hm : V.ref t ∈ xs := by rw [e1]; exact List.mem_map.mpr ⟨_, hv, rfl⟩
    obtain ⟨t', e, ht⟩ := hmem _ hm
    cases e
    obtain ⟨its2, r2, ⟨o, ho, hc, n, hd⟩, _⟩ := I.tuple ht
    obtain ⟨u1, u2, rfl, ri, rj⟩ := vals2 r2
    obtain ⟨t1, rfl⟩ := ri
    obtain ⟨t2, rfl⟩ := rj
    exact ⟨t, o, t1, t2, n, rfl, ho, hc, hd⟩
  · have h3 : ∀ u ∈ out, ∃ a, u = Value.ref a := fun u hu => e2 u (h2.perm.mem_iff.mp hu)
    obtain ⟨n, hn⟩ := hn
    have hb : SrtO.Stb (ltP (keyV X.K H)) (out.map backV) xs := by
      rw [e1]
      exact SrtO.Stb.map (ltP_swo (keyV X.K H)) backV h2
    have hsr : SrtO.Srtd (ltP (keyV X.K H)) (out.map backV) := SrtO.srtd_map h1
    have hds : xs.map (keyV X.K H) = ds := List.ext_getElem? fun i => by
      rw [List.getElem?_map]
      by_cases hi : i < xs.length
      · rw [List.getElem?_eq_getElem hi, List.getElem?_eq_getElem (by omega)]
        exact congrArg some (hkey i xs[i] (ds[i]'(by omega)) (List.getElem?_eq_getElem hi) (List.getElem?_eq_getElem (by omega))).1
      · rw [List.getElem?_eq_none (by omega), List.getElem?_eq_none (by omega)]
        rfl
    have hso : sortP ds = (out.map backV).map (keyV X.K H) := by
      refine sortP_uniq (by rw [← hds]; exact hb.perm.map _) (List.pairwise_map.mpr (hsr.imp fun {x y} h => ?_))
      have := SrtO.lexB_no.mp h
      exact decide_eq_true (by omega)
    refine ⟨.ref d, upd H d (.lst (out.map backV)), I.laid (t' := s.toks) kp hd ⟨?_, out, n, vals_back h3, hn⟩, rfl, q _ d hb.len (fun F hF => ?_) (I.hok.fresh hd)⟩
    · rw [hb.len]
      exact hz
    · rw [hso]
      have hall : ∀ v ∈ out.map backV, R X.K F v (keyV X.K H v) := fun v hv => by
        obtain ⟨i, hi, rfl⟩ := List.getElem_of_mem (hb.perm.mem_iff.mp hv)
        obtain ⟨x, hx, rx⟩ := RL.get hF (List.getElem?_eq_getElem hi)
        rw [(hkey i xs[i] x (List.getElem?_eq_getElem hi) hx).1]
        exact rx
      have go : ∀ l : List V, (∀ v ∈ l, R X.K F v (keyV X.K H v)) → RL X.K F l (l.map (keyV X.K H)) := fun l => by
        induction l with
        | nil => exact fun _ => .nil
        | cons v l ih => exact fun h => .cons (h v (List.mem_cons_self ..)) (ih fun u hu => h u (List.mem_cons_of_mem _ hu))
      exact go _ hall
theorem cr_sortedPK_ (h : X.K = K := by rfl) : CallR X (.builtin "sorted") (rSortedPK K) := by subst h; exact cr_sortedPK
end
/-! ### lists lent, walked over -/
def Lent {α : Type} [Enc α] (K : PySem.W.Frag) (H F : Hp) (M : Addr → Prop) (v : V) (e : List α) : Prop := ∃ p ws, v = .ref p ∧ SqL K H p ws ∧ ws.length ≤ sizeLine ∧ RL K F ws e ∧ ¬ M p
inductive LentL {α : Type} [Enc α] (K : PySem.W.Frag) (H F : Hp) (M : Addr → Prop) : List V → List (List α) → Prop
  | nil : LentL K H F M [] []
  | cons {v e vs es} : Lent K H F M v e → LentL K H F M vs es → LentL K H F M (v :: vs) (e :: es)
theorem LentL.len {α : Type} [Enc α] {K : PySem.W.Frag} {H F : Hp} {M : Addr → Prop} : ∀ {vs : List V} {es : List (List α)}, LentL K H F M vs es → vs.length = es.length
  | _, _, .nil => rfl
  | _, _, .cons _ t => congrArg (· + 1) t.len
theorem LentL.get {α : Type} [Enc α] {K : PySem.W.Frag} {H F : Hp} {M : Addr → Prop} : ∀ {vs : List V} {es : List (List α)} {i : Nat} {v : V}, LentL K H F M vs es → vs[i]? = some v → ∃ e, es[i]? = some e ∧ Lent K H F M v e
  | _, _, _, _, .nil, h => by simp at h
  | _, _, 0, _, .cons r _, h => ⟨_, rfl, by simp at h; exact h ▸ r⟩
  | _, _, i + 1, _, .cons _ t, h => by
    obtain ⟨e, h1, h2⟩ := LentL.get t (i := i) (by simpa using h)
    exact ⟨e, by simpa using h1, h2⟩
end G
/-! zip and enumerate walked over; a text looked up in a written table. -/
namespace G
open PySem PySem.Spec PyProof.Rows L2 TL
section
variable {K : PySem.W.Frag}
theorem pi_zipK {X : Cx} {e e2 : Expr} {ta : TA} {p pos tpos : Pos} {elts : List Expr} {kk : Nat} (hg : Gl X "zip") (hm : X.mg "zip" = none) (ha : PA X [e, e2] ta) (h : X.K = K := by rfl)
    (hs : starEach [e, e2] X.env = (false, eval e X.env) :: starEach [e2] X.env := by rfl) (hpl : (backTo pos (starEach [e2] X.env)).any (·.1) = false := by rfl) :
    PI X (.Tuple elts kk tpos) (.Call (.Name "zip" p) [e, e2] [] pos) (iZip K ta) := by subst h; exact pi_zip hg hm ha hs hpl
theorem pi_enumK {X : Cx} {e : Expr} {ta : TA} {p pos tpos : Pos} {elts : List Expr} {kk : Nat} (hg : Gl X "enumerate") (hm : X.mg "enumerate" = none) (ha : PA X [e] ta) (h : X.K = K := by rfl) (hs : starEach [e] X.env = [(false, eval e X.env)] := by rfl) :
    PI X (.Tuple elts kk tpos) (.Call (.Name "enumerate" p) [e] [] pos) (iEnum K ta) := by subst h; exact pi_enum hg hm ha hs
theorem for_zip {a b : Addr} {xs ys : List V} {g : TG} {tb : TS} {D : Ends} {σ : L2.St} {H : Hp} (Pv : Nat → L2.St → Hp → Prop) (h0 : Pv 0 σ H)
    (hl : ∀ i σ H, i ≤ min xs.length ys.length → Pv i σ H → SqL K H a xs ∧ SqL K H b ys)
    (hs : ∀ i x y T σ H, xs[i]? = some x → ys[i]? = some y → H T = none → Pv i σ H → g (.ref T) σ (upd H T (.tup [x, y])) fun σ2 H2 => tb { D with nx := Pv (i + 1), ct := Pv (i + 1), bk := D.nx } σ2 H2) (hd : ∀ σ H, Pv (min xs.length ys.length) σ H → D.nx σ H) :
    ∃ W : Nat → Nat → L2.St → Hp → Prop, (∃ m, W 0 m σ H) ∧ ∀ i m σ H, W i m σ H →
      ((Itz K a b).stop i H ∧ D.nx σ H) ∨ ((Itz K a b).go i H ∧ ∃ N : L2.St → Hp → Prop, (∀ σ' H', N σ' H' → ∃ m', m' < m ∧ W (i + 1) m' σ' H') ∧ ∀ x H', (Itz K a b).yld i H x H' → g x σ H' fun σ2 H2 => tb { D with nx := N, ct := N, bk := D.nx } σ2 H2) :=
  for_it (walk_zip rfl) Pv h0 hl (fun i v σ H H' _ p ⟨T, x, y, e1, e2, e3, e4, e5⟩ => by subst e1 e3; exact hs i x y T σ H e4 e5 e2 p) hd
theorem for_enum {a : Addr} {xs : List V} {g : TG} {tb : TS} {D : Ends} {σ : L2.St} {H : Hp} (Pv : Nat → L2.St → Hp → Prop) (h0 : Pv 0 σ H)
    (hl : ∀ i σ H, i ≤ xs.length → Pv i σ H → SqL K H a xs)
    (hs : ∀ i x T σ H, xs[i]? = some x → H T = none → Pv i σ H → g (.ref T) σ (upd H T (.tup [.int (i : Nat), x])) fun σ2 H2 => tb { D with nx := Pv (i + 1), ct := Pv (i + 1), bk := D.nx } σ2 H2) (hd : ∀ σ H, Pv xs.length σ H → D.nx σ H) :
    ∃ W : Nat → Nat → L2.St → Hp → Prop, (∃ m, W 0 m σ H) ∧ ∀ i m σ H, W i m σ H →
      ((Ite K a).stop i H ∧ D.nx σ H) ∨ ((Ite K a).go i H ∧ ∃ N : L2.St → Hp → Prop, (∀ σ' H', N σ' H' → ∃ m', m' < m ∧ W (i + 1) m' σ' H') ∧ ∀ x H', (Ite K a).yld i H x H' → g x σ H' fun σ2 H2 => tb { D with nx := N, ct := N, bk := D.nx } σ2 H2) :=
  for_it walk_enum Pv h0 hl (fun i v σ H H' _ p ⟨T, x, y, e1, e2, e3, e4, e5⟩ => by
    subst e1 e3
    cases e4
    exact hs i y T σ H e5 e2 p) hd
theorem lc_zip {a b : Addr} {xs ys : List V} {g : TG} {tt : TT} {te : TE} {vs : List Nat} {σ : L2.St} {H1 : Hp} {D : Addr} {Qd : Hp → Prop} (Pv : Nat → Hp → Prop) (h0 : Pv 0 (upd H1 D (.lst [])))
    (hl : ∀ i H, i ≤ min xs.length ys.length → Pv i H → SqL K H a xs ∧ SqL K H b ys)
    (hs : ∀ i x y T H, xs[i]? = some x → ys[i]? = some y → H T = none → Pv i H → g (.ref T) (wipe σ vs) (upd H T (.tup [x, y])) fun σ2 H2 => wipe σ2 vs = wipe σ vs ∧ tt σ2 H2 fun b H3 =>
      if b = true then te σ2 H3 fun y H4 => ∃ acc, H4 D = some (.lst acc) ∧ acc.length < sizeLine ∧ Pv (i + 1) (upd H4 D (.lst (acc ++ [y]))) else Pv (i + 1) H3) (hd : ∀ H, Pv (min xs.length ys.length) H → Qd H) :
    ∃ W : Nat → Nat → Hp → Prop, (∃ m, W 0 m (upd H1 D (.lst []))) ∧ ∀ i m H, W i m H →
      ((Itz K a b).stop i H ∧ Qd H) ∨ ((Itz K a b).go i H ∧ ∃ Nx : Hp → Prop, (∀ H', Nx H' → ∃ m', m' < m ∧ W (i + 1) m' H') ∧ ∀ x H', (Itz K a b).yld i H x H' → g x (wipe σ vs) H' fun σ2 H2 => wipe σ2 vs = wipe σ vs ∧ tt σ2 H2 fun b H3 =>
        if b = true then te σ2 H3 fun y H4 => ∃ acc, H4 D = some (.lst acc) ∧ acc.length < sizeLine ∧ Nx (upd H4 D (.lst (acc ++ [y]))) else Nx H3) :=
  lc_it (walk_zip rfl) Pv h0 hl (fun i v H H' _ p ⟨T, x, y, e1, e2, e3, e4, e5⟩ => by subst e1 e3; exact hs i x y T H e4 e5 e2 p) hd
theorem lc_enum {a : Addr} {xs : List V} {g : TG} {tt : TT} {te : TE} {vs : List Nat} {σ : L2.St} {H1 : Hp} {D : Addr} {Qd : Hp → Prop} (Pv : Nat → Hp → Prop) (h0 : Pv 0 (upd H1 D (.lst [])))
    (hl : ∀ i H, i ≤ xs.length → Pv i H → SqL K H a xs)
    (hs : ∀ i x T H, xs[i]? = some x → H T = none → Pv i H → g (.ref T) (wipe σ vs) (upd H T (.tup [.int (i : Nat), x])) fun σ2 H2 => wipe σ2 vs = wipe σ vs ∧ tt σ2 H2 fun b H3 =>
      if b = true then te σ2 H3 fun y H4 => ∃ acc, H4 D = some (.lst acc) ∧ acc.length < sizeLine ∧ Pv (i + 1) (upd H4 D (.lst (acc ++ [y]))) else Pv (i + 1) H3) (hd : ∀ H, Pv xs.length H → Qd H) :
    ∃ W : Nat → Nat → Hp → Prop, (∃ m, W 0 m (upd H1 D (.lst []))) ∧ ∀ i m H, W i m H →
      ((Ite K a).stop i H ∧ Qd H) ∨ ((Ite K a).go i H ∧ ∃ Nx : Hp → Prop, (∀ H', Nx H' → ∃ m', m' < m ∧ W (i + 1) m' H') ∧ ∀ x H', (Ite K a).yld i H x H' → g x (wipe σ vs) H' fun σ2 H2 => wipe σ2 vs = wipe σ vs ∧ tt σ2 H2 fun b H3 =>
        if b = true then te σ2 H3 fun y H4 => ∃ acc, H4 D = some (.lst acc) ∧ acc.length < sizeLine ∧ Nx (upd H4 D (.lst (acc ++ [y]))) else Nx H3) :=
  lc_it walk_enum Pv h0 hl (fun i v H H' _ p ⟨T, x, y, e1, e2, e3, e4, e5⟩ => by
    subst e1 e3
    cases e4
    exact hs i y T H e5 e2 p) hd
theorem gzip_get {α β : Type} {xs : List α} {ys : List β} {i : Nat} {x : α} {y : β} (h1 : xs[i]? = some x) (h2 : ys[i]? = some y) : (List.zip xs ys)[i]? = some (x, y) := by
  rw [List.zip, List.getElem?_zipWith, h1, h2]
theorem enum_get {α : Type} {xs : List α} {i : Nat} {x : α} (h : xs[i]? = some x) : (List.zip (rangeL 0 xs.length) xs)[i]? = some (((i : Nat) : Int), x) := by
  have hi : i < xs.length := (List.getElem?_eq_some_iff.mp h).1
  have := rangeL_at (lo := 0) hi
  rw [Int.zero_add] at this
  exact gzip_get this h
theorem zip_lenV {α β γ δ : Type} {xs : List α} {ys : List β} {vs : List γ} {ws : List δ} (h1 : vs.length = xs.length) (h2 : ws.length = ys.length) : min vs.length ws.length = (List.zip xs ys).length := by rw [List.length_zip, h1, h2]
theorem enum_lenV {α γ : Type} {xs : List α} {vs : List γ} (h1 : vs.length = xs.length) : vs.length = (List.zip (rangeL 0 xs.length) xs).length := by rw [List.length_zip, rangeL_len, h1]; exact (Nat.min_self _).symm
end
/-! ### texts looked up in a written table -/
def dgetI (kvs : List (Str × Str)) (k : Str) : Option Str := (kvs.find? fun kv => decide (kv.1 = k)).map (·.2)
theorem rd_dgetI {ty : TE} {σ : L2.St} {H : Hp} {Q : VK} {k v : Str} (trs : List (TE × TE)) (kvs : List (Str × Str)) (he : trs = kvs.map fun kv => (tC (.str kv.1), tC (.str kv.2))) (h15 : kvs.length ≤ 15) (hm : mergeK [] (kvS kvs) = kvS kvs)
    (hk : dgetI kvs k = some v) (hy : ∀ H1 Q', Q' (.str k) H1 → ty σ H1 Q') (q : ∀ p, H p = none → Q (.str v) (upd H p (.dK (kvS kvs)))) : tDGet (tDisp trs) ty σ H Q := by
  intro p hp
  have walk : ∀ (l : List (Str × Str)) (R : List (V × V) → Hp → Prop) (H1 : Hp), R (l.map fun kv => (V.str kv.1, V.str kv.2)) H1 → tPairs (l.map fun kv => (tC (.str kv.1), tC (.str kv.2))) σ H1 R := by
    intro l
    induction l with
    | nil => intro R H1 h; exact h
    | cons kv l ih => intro R H1 h; exact ih (fun ps H3 => R ((V.str kv.1, V.str kv.2) :: ps) H3) H1 h
  rw [he]
  refine walk kvs _ _ ⟨upd_same, kvS kvs, ?_, ?_, ?_⟩
  · unfold kvS
    rw [List.map_map]
    rfl
  · unfold kvS
    rw [List.length_map]
    exact h15
  · rw [hm, upd_upd]
    have e : valV (kvS kvs) (Sum.inr k) = some (.str v) := by
      rw [valS]
      unfold dgetI at hk
      rw [hk]
      rfl
    exact hy _ _ ⟨p, .str v, rfl, e ▸ DGet.k (k := Sum.inr k) upd_same, q p hp⟩
theorem GS.di {kvs : List (Str × Str)} {k v : Str} (h : ∀ kv ∈ kvs, GS kv.2) (hk : dgetI kvs k = some v) : GS v := by
  unfold dgetI at hk
  cases e : (kvs.find? fun kv => decide (kv.1 = k)) with
  | none => rw [e] at hk; cases hk
  | some kv =>
    rw [e] at hk
    cases hk
    exact h kv (List.mem_of_find?_eq_some e)
end G
/-! Plain laws: how the makings come out. -/
namespace G
open PySem PySem.Spec PyProof.Rows L2 TL
section
variable {α β γ δ S : Type} {I : S → Prop}
def O1 (o : Option α) (P : α → Prop) : Prop := ∃ a, o = some a ∧ P a
def O2 (I : S → Prop) (o : Option (α × S)) (P : α → Prop) : Prop := ∃ a b, o = some (a, b) ∧ I b ∧ P a
theorem O1.ret {a : α} {P : α → Prop} (h : P a) : O1 (some a) P := ⟨a, rfl, h⟩
theorem O1.imp {o : Option α} {P Q : α → Prop} (h : O1 o P) (k : ∀ a, P a → Q a) : O1 o Q := let ⟨a, e, p⟩ := h; ⟨a, e, k a p⟩
theorem O1.bind {o : Option α} {f : α → Option β} {P : α → Prop} {Q : β → Prop} (h : O1 o P) (k : ∀ a, P a → O1 (f a) Q) : O1 (Option.bind o f) Q := by
  obtain ⟨a, rfl, p⟩ := h
  exact k a p
theorem O2.ret {a : α} {b : S} {P : α → Prop} (hb : I b) (h : P a) : O2 I (some (a, b)) P := ⟨a, b, rfl, hb, h⟩
theorem O2.imp {o : Option (α × S)} {P Q : α → Prop} (h : O2 I o P) (k : ∀ a, P a → Q a) : O2 I o Q := let ⟨a, b, e, i, p⟩ := h; ⟨a, b, e, i, k a p⟩
theorem O2.bind1 {o : Option α} {f : α → Option (β × S)} {P : α → Prop} {Q : β → Prop} (h : O1 o P) (k : ∀ a, P a → O2 I (f a) Q) : O2 I (Option.bind o f) Q := by
  obtain ⟨a, rfl, p⟩ := h
  exact k a p
theorem O2.ite {c : Bool} {x y : Option (α × S)} {P : α → Prop} (h1 : c = true → O2 I x P) (h2 : c = false → O2 I y P) : O2 I (if c = true then x else y) P := by
  cases c with
  | true => exact h1 rfl
  | false => exact h2 rfl
theorem O1.ite {c : Bool} {x y : Option α} {P : α → Prop} (h1 : c = true → O1 x P) (h2 : c = false → O1 y P) : O1 (if c = true then x else y) P := by
  cases c with
  | true => exact h1 rfl
  | false => exact h2 rfl
end
section
variable {α β : Type} {S : Type} {I : S → Prop}
theorem O2.bind {o : Option (α × S)} {f : α → S → Option (β × S)} {P : α → Prop} {Q : β → Prop} (h : O2 I o P) (k : ∀ a b, I b → P a → O2 I (f a b) Q) : O2 I (bind2 o f) Q := by
  obtain ⟨a, b, rfl, i, p⟩ := h
  exact k a b i p
end
section
variable {α β γ δ R T S : Type} {I : S → Prop} {Q : T → Prop} {g : R → Option (T × S)}
theorem O2.bL0 {o : Option (Lp Unit R)} {f : Option (T × S)} (e : o = some (.go ())) (k : O2 I f Q) : O2 I (bindL0 o f g) Q := by subst e; exact k
theorem O2.bL1 {o : Option (Lp α R)} {f : α → Option (T × S)} {a : α} (e : o = some (.go a)) (k : O2 I (f a) Q) : O2 I (bindL1 o f g) Q := by subst e; exact k
theorem O2.bL2 {o : Option (Lp (α × β) R)} {f : α → β → Option (T × S)} {a : α} {b : β} (e : o = some (.go (a, b))) (k : O2 I (f a b) Q) : O2 I (bindL2 o f g) Q := by subst e; exact k
theorem O2.bL3 {o : Option (Lp (α × β × γ) R)} {f : α → β → γ → Option (T × S)} {a : α} {b : β} {c : γ} (e : o = some (.go (a, b, c))) (k : O2 I (f a b c) Q) : O2 I (bindL3 o f g) Q := by subst e; exact k
end
theorem O2.true_ {S : Type} {I : S → Prop} {o : Option (Bool × S)} (h : O2 I o (fun r => r = true)) : ∃ b, o = some (true, b) := by
  obtain ⟨r, b, e, _, rfl⟩ := h
  exact ⟨b, e⟩
/-! ### lists and texts -/
theorem atI_O {α : Type} {xs : List α} {i : Int} {P : α → Prop} (h0 : 0 ≤ i) (h1 : i < xs.length) (h : ∀ x ∈ xs, P x) : O1 (atI xs i) P := by
  obtain ⟨n, rfl⟩ := Int.eq_ofNat_of_zero_le h0
  have hn : n < xs.length := by omega
  have e : xs[n]? = some xs[n] := List.getElem?_eq_getElem hn
  exact ⟨_, atI_nat e, h _ (List.getElem_mem hn)⟩
theorem tl_inj {x y : Str} (h : tl x = tl y) : x = y := by
  obtain ⟨⟨l⟩⟩ := x
  obtain ⟨⟨m⟩⟩ := y
  have h' : l = m := h
  rw [h']
theorem eqS_tl {x y : Str} : eqS x y = decide (tl x = tl y) := by
  rw [eqS_iff]
  exact decide_eq_decide.mpr ⟨fun h => by rw [h], tl_inj⟩
theorem tl_cut {z : Str} {lo hi : Option Int} : tl (cutS z lo hi) = ((tl z).drop (HT.sIx (tl z).length 0 lo)).take (HT.sIx (tl z).length (tl z).length hi - HT.sIx (tl z).length 0 lo) := by
  rw [← len_tl]
  unfold cutS tl
  rfl
theorem sIx_neg (n d : Nat) {k : Nat} (hk : 0 < k) : HT.sIx n d (some (-(k : Int))) = n - k := by
  show (if (-(k : Int)) < 0 then (-(k : Int) + (n : Int)).toNat else min (-(k : Int)).toNat n) = n - k
  rw [if_pos (by omega)]
  omega
theorem sIx_neg1 (n d : Nat) : HT.sIx n d (some (-1)) = n - 1 := sIx_neg n d (k := 1) (by decide)
theorem sIx_n (n d : Nat) : HT.sIx n d none = d := rfl
theorem tl_sgn (c : Nat) : tl (sgn c) = [c] := rfl
theorem catS_O {a b : Str} {P : Str → Prop} (h : (tl a).length + (tl b).length ≤ 16777216) (p : P (a ++ b)) : O1 (catS a b) P := by
  refine ⟨a ++ b, ?_, p⟩
  unfold catS
  rw [if_pos (by rw [len_tl, len_tl, sizeLine_eq]; exact h)]
theorem mulS_O {x : Str} {n : Int} {P : Str → Prop} (h1 : -(2 ^ 63 : Int) ≤ n) (h2 : n ≤ 16777216) (h3 : (tl x).length * n.toNat ≤ 16777216) (p : P (Txt.mul x n)) : O1 (mulS x n) P := by
  refine ⟨_, ?_, p⟩
  unfold mulS
  rw [if_pos ⟨h1, h2, by rw [len_tl]; exact h3⟩]
theorem codeAt_O {x : Str} {i : Int} {P : Nat → Prop} (h0 : 0 ≤ i) (h1 : i < (tl x).length) (h : ∀ c ∈ tl x, P c) : O1 (codeAt x i) P := atI_O h0 h1 h
theorem rangeO1_O {n : Int} {P : List Int → Prop} (h : n ≤ 16777216) (h0 : -(2 ^ 62) ≤ n) (p : P (rangeL 0 n.toNat)) : O1 (rangeO1 n) P := by
  refine ⟨_, ?_, p⟩
  unfold rangeO1
  rw [if_pos ⟨⟨h0, by omega⟩, by rw [sizeLine_eq]; omega⟩]
theorem joinS_O {sep : Str} {ys : List Str} {P : Str → Prop} (h : (ys.map fun y => (tl y).length).sum + ys.length * (tl sep).length ≤ 16777216) (p : P (Txt.join sep ys)) : O1 (joinS sep ys) P := by
  refine ⟨_, ?_, p⟩
  unfold joinS
  rw [if_pos]
  have e : (ys.map fun y => y.length) = ys.map fun y => (tl y).length := List.map_congr_left fun y _ => len_tl y
  show (ys.map fun y => y.length).sum + ys.length * sep.length ≤ _
  rw [e, len_tl]
  exact h
theorem tl_empty : tl ("" : Str) = [] := by decide +kernel
theorem joinL_nil : ∀ (ys : List (List Nat)), joinL [] ys = ys.flatten
  | [] => rfl
  | [y] => by show y = [y].flatten; simp
  | y :: z :: r => by
    show y ++ ([] ++ joinL [] (z :: r)) = _
    rw [joinL_nil (z :: r)]
    simp
theorem tl_join0 (ys : List Str) : tl (Txt.join ("" : Str) ys) = (ys.map tl).flatten := by rw [tl_joinS, tl_empty, joinL_nil]
/-- a text of no more than n signs -/
def Sh (n : Nat) (x : Str) : Prop := (tl x).length ≤ n
theorem Sh.mono {n m : Nat} {x : Str} (h : Sh n x) (k : n ≤ m) : Sh m x := Nat.le_trans h k
theorem Sh.cut {n : Nat} {x : Str} {lo hi : Option Int} (h : Sh n x) : Sh n (cutS x lo hi) := by
  unfold Sh at *
  rw [tl_cut, List.length_take, List.length_drop]
  omega
theorem Sh.sgn {c : Nat} : Sh 1 (sgn c) := Nat.le_refl 1
theorem Sh.rev {n : Nat} {x : Str} (h : Sh n x) : Sh n (revS x) := by
  unfold Sh at *
  rw [tl_revS, List.length_reverse]
  exact h
theorem Sh.cat {n m : Nat} {a b : Str} (ha : Sh n a) (hb : Sh m b) : Sh (n + m) (a ++ b) := by
  unfold Sh at *
  rw [tl_append, List.length_append]
  omega
theorem Sh.cat_O {n m : Nat} {a b : Str} (ha : Sh n a) (hb : Sh m b) (h : n + m ≤ 16777216 := by decide) : O1 (catS a b) (Sh (n + m)) :=
  catS_O (Nat.le_trans (Nat.add_le_add ha hb) h) (ha.cat hb)
theorem tl_mul_len (x : Str) (n : Int) : (tl (Txt.mul x n)).length = n.toNat * (tl x).length := by
  rw [tl_mul, List.length_flatten, List.map_replicate, List.sum_replicate_nat]
theorem Sh.mul_O {n m : Nat} {x : Str} {i : Int} (hx : Sh n x) (h0 : -1000000 ≤ i) (h1 : i ≤ (m : Nat)) (h2 : m * n ≤ 16777216) (h3 : m ≤ 16777216) : O1 (mulS x i) (Sh (m * n)) := by
  have h4 : i.toNat ≤ m := by omega
  have h5 : i.toNat * (tl x).length ≤ m * n := Nat.mul_le_mul h4 hx
  refine mulS_O (by omega) (by omega) (by rw [Nat.mul_comm]; omega) ?_
  unfold Sh
  rw [tl_mul_len]
  exact h5
theorem sh_sum {n : Nat} : ∀ {ys : List Str}, (∀ y ∈ ys, Sh n y) → (ys.map fun y => (tl y).length).sum ≤ ys.length * n
  | [], _ => by simp
  | y :: ys, h => by
    have h1 := sh_sum (n := n) (ys := ys) fun z hz => h z (List.mem_cons_of_mem _ hz)
    have h2 : (tl y).length ≤ n := h y (List.mem_cons_self ..)
    rw [List.map_cons, List.sum_cons, List.length_cons, Nat.add_mul, Nat.one_mul]
    omega
theorem Sh.join_O {n m : Nat} {ys : List Str} (h : ∀ y ∈ ys, Sh n y) (hm : ys.length ≤ m) (h2 : m * n ≤ 16777216) : O1 (joinS ("" : Str) ys) (Sh (m * n)) := by
  have h1 := sh_sum h
  have h3 : ys.length * n ≤ m * n := Nat.mul_le_mul_right n hm
  have e : (tl ("" : Str)).length = 0 := by rw [tl_empty]; rfl
  refine joinS_O (by rw [e]; omega) ?_
  unfold Sh
  rw [tl_join0, List.length_flatten, List.map_map]
  exact Nat.le_trans h1 h3
theorem rangeL_length {lo : Int} {n : Nat} : (rangeL lo n).length = n := rangeL_len lo n
/-! ### == of data -/
class EqvD (α : Type) [Enc α] : Prop where
  iff : ∀ x y : α, PyData.eqv (Enc.d x) (Enc.d y) = true ↔ x = y
instance : EqvD Int := ⟨fun x y => by show (x == y) = true ↔ _; exact beq_iff_eq⟩
instance : EqvD Bool := ⟨fun x y => by show (x == y) = true ↔ _; exact beq_iff_eq⟩
instance : EqvD Str := ⟨fun x y => by show (x == y) = true ↔ _; exact beq_iff_eq⟩
instance {α : Type} [Enc α] [EqvD α] [NN α] : EqvD (Option α) := ⟨fun x y => by
  cases x with
  | none =>
    cases y with
    | none => exact ⟨fun _ => rfl, fun _ => rfl⟩
    | some y =>
      have n := NN.ne y
      refine ⟨fun h => ?_, (fun h => nomatch h)⟩
      have h' : PyData.eqv .none (Enc.d y) = true := h
      revert h' n
      generalize Enc.d y = d
      intro n h'
      cases d <;> first | exact absurd rfl n | cases h'
  | some x =>
    cases y with
    | none =>
      have n := NN.ne x
      refine ⟨fun h => ?_, (fun h => nomatch h)⟩
      have h' : PyData.eqv (Enc.d x) .none = true := h
      revert h' n
      generalize Enc.d x = d
      intro n h'
      cases d <;> first | exact absurd rfl n | cases h'
    | some y => exact ⟨fun h => congrArg some ((EqvD.iff x y).mp h), fun h => (EqvD.iff x y).mpr (Option.some.inj h)⟩⟩
theorem eqvAll_iff {α : Type} [Enc α] [EqvD α] : ∀ xs ys : List α, PyData.eqvAll (xs.map Enc.d) (ys.map Enc.d) = true ↔ xs = ys
  | [], [] => ⟨fun _ => rfl, fun _ => rfl⟩
  | [], _ :: _ => ⟨(fun h => nomatch h), (fun h => nomatch h)⟩
  | _ :: _, [] => ⟨(fun h => nomatch h), (fun h => nomatch h)⟩
  | x :: xs, y :: ys => by
    show (PyData.eqv (Enc.d x) (Enc.d y) && PyData.eqvAll (xs.map Enc.d) (ys.map Enc.d)) = true ↔ _
    rw [Bool.and_eq_true, EqvD.iff, eqvAll_iff xs ys, List.cons.injEq]
instance {α : Type} [Enc α] [EqvD α] : EqvD (List α) := ⟨fun x y => eqvAll_iff x y⟩
instance {α : Type} [Enc α] [EqvD α] : EqvD (VT α) := ⟨fun x y => by
  obtain ⟨x⟩ := x
  obtain ⟨y⟩ := y
  rw [VT.mk.injEq]
  exact eqvAll_iff x y⟩
instance {α β : Type} [Enc α] [Enc β] [EqvD α] [EqvD β] : EqvD (α × β) := ⟨fun x y => by
  obtain ⟨a, b⟩ := x
  obtain ⟨c, d⟩ := y
  show (PyData.eqv (Enc.d a) (Enc.d c) && (PyData.eqv (Enc.d b) (Enc.d d) && true)) = true ↔ _
  rw [Bool.and_true, Bool.and_eq_true, EqvD.iff, EqvD.iff, Prod.mk.injEq]⟩
instance {α β γ : Type} [Enc α] [Enc β] [Enc γ] [EqvD α] [EqvD β] [EqvD γ] : EqvD (T3 α β γ) := ⟨fun x y => by
  obtain ⟨a, b, e⟩ := x
  obtain ⟨c, d, f⟩ := y
  show (PyData.eqv (Enc.d a) (Enc.d c) && (PyData.eqv (Enc.d b) (Enc.d d) && (PyData.eqv (Enc.d e) (Enc.d f) && true))) = true ↔ _
  rw [Bool.and_true, Bool.and_eq_true, Bool.and_eq_true, EqvD.iff, EqvD.iff, EqvD.iff, T3.mk.injEq]⟩
instance {α β γ δ : Type} [Enc α] [Enc β] [Enc γ] [Enc δ] [EqvD α] [EqvD β] [EqvD γ] [EqvD δ] : EqvD (T4 α β γ δ) := ⟨fun x y => by
  obtain ⟨a, b, e, g⟩ := x
  obtain ⟨c, d, f, h⟩ := y
  show (PyData.eqv (Enc.d a) (Enc.d c) && (PyData.eqv (Enc.d b) (Enc.d d) && (PyData.eqv (Enc.d e) (Enc.d f) && (PyData.eqv (Enc.d g) (Enc.d h) && true)))) = true ↔ _
  rw [Bool.and_true, Bool.and_eq_true, Bool.and_eq_true, Bool.and_eq_true, EqvD.iff, EqvD.iff, EqvD.iff, EqvD.iff, T4.mk.injEq]⟩
theorem eqD_iff {α : Type} [Enc α] [EqvD α] {x y : α} : eqD x y = true ↔ x = y := EqvD.iff x y
theorem eqD_dec {α : Type} [Enc α] [EqvD α] [DecidableEq α] {x y : α} : eqD x y = decide (x = y) := by
  rw [Bool.eq_iff_iff, eqD_iff, decide_eq_true_iff]
theorem eqD_refl {α : Type} [Enc α] [EqvD α] (x : α) : eqD x x = true := eqD_iff.mpr rfl
theorem eqD_false {α : Type} [Enc α] [EqvD α] {x y : α} (h : x ≠ y) : eqD x y = false := Bool.eq_false_iff.mpr fun e => h (eqD_iff.mp e)
theorem alike_self {α : Type} [DecidableEq α] (x : α) : m_l_alike x x = some true := by
  unfold m_l_alike
  rw [if_pos rfl]
theorem bind2_some {α β γ : Type} {a : α} {b : β} {f : α → β → Option γ} : bind2 (some (a, b)) f = f a b := rfl
theorem notT {α : Type} {a b : α} : (if (!true) = true then a else b) = b := rfl
theorem alike_O {α : Type} [DecidableEq α] {x y : α} {P : Bool → Prop} (h : x = y) (p : P true) : O1 (m_l_alike x y) P := by
  refine ⟨true, ?_, p⟩
  unfold m_l_alike
  rw [if_pos h]
end G
/-! Plain laws: patterns, their worth, addresses written. -/
namespace G
open PySem PySem.Spec PyProof.Rows L2 TL
/-- a sign of '01' -/
def isB (c : Nat) : Bool := decide (c ∈ [48, 49])
theorem isB_iff {c : Nat} : isB c = true ↔ c = 48 ∨ c = 49 := by unfold isB; simp
theorem tl01 : tl ("01" : Str) = [48, 49] := by decide +kernel
theorem tlStar : tl ("*" : Str) = [42] := by decide +kernel
theorem tl0 : tl ("0" : Str) = [48] := by decide +kernel
theorem tl1 : tl ("1" : Str) = [49] := by decide +kernel
def Bits (bs : List Nat) : Prop := ∀ c ∈ bs, isB c = true
theorem Bits.nil : Bits [] := fun _ h => nomatch h
theorem Bits.app {a b : List Nat} (ha : Bits a) (hb : Bits b) : Bits (a ++ b) := fun c h => (List.mem_append.mp h).elim (ha c) (hb c)
theorem Bits.take {a : List Nat} (n : Nat) (ha : Bits a) : Bits (a.take n) := fun c h => ha c (List.mem_of_mem_take h)
theorem Bits.drop {a : List Nat} (n : Nat) (ha : Bits a) : Bits (a.drop n) := fun c h => ha c (List.mem_of_mem_drop h)
theorem Bits.one {c : Nat} (h : isB c = true) : Bits [c] := fun d hd => by rw [List.mem_singleton.mp hd]; exact h
theorem Bits.mem01 {c : Nat} (h : c ∈ tl ("01" : Str)) : isB c = true := by rw [tl01] at h; exact decide_eq_true h
theorem Bits.no42 {a : List Nat} (ha : Bits a) : 42 ∉ a := fun h => absurd (ha 42 h) (by decide)
/-- the pattern of w signs that bits bs make -/
def patL (w : Nat) (bs : List Nat) : List Nat := bs ++ (if bs.length < w then [42] else [])
structure Pat (w : Nat) (bs : List Nat) (x : Str) : Prop where
  bits : Bits bs
  le : bs.length ≤ w
  eq : tl x = patL w bs
theorem tl_strip (x y : Str) : tl (Txt.stripChars x y) = ((tl x).take (stripHi y.cps.contains true x (stripLo y.cps.contains true x))).drop (stripLo y.cps.contains true x) := by
  unfold Txt.stripChars
  rw [stripBy_eq]
  show (x.cps.extract _ _).toList = _
  rw [List.drop_take]
  simp [tl]
theorem tw0 {p : Nat → Bool} : ∀ l : List Nat, (∀ c, l.head? = some c → p c = false) → l.takeWhile p = []
  | [], _ => rfl
  | c :: r, h => by rw [List.takeWhile_cons, if_neg (by rw [h c rfl]; exact Bool.false_ne_true)]
theorem strip_star {x : Str} {bs st : List Nat} (e : tl x = bs ++ st) (h : 42 ∉ bs) (hs : st = [] ∨ st = [42]) : tl (Txt.stripChars x ("*" : Str)) = bs := by
  have hc : ∀ c : Nat, (("*" : Str)).cps.contains c = decide (c = 42) := fun c => by
    have e1 : (("*" : Str)).cps = #[42] := by decide +kernel
    rw [e1]
    simp [Bool.beq_eq_decide_eq]
  rw [tl_strip]
  generalize hg : (("*" : Str)).cps.contains = g at *
  have hx : x.cps.toList = bs ++ st := e
  have hlen : x.length = bs.length + st.length := by rw [len_tl, e, List.length_append]
  cases bs with
  | nil =>
    rcases hs with rfl | rfl
    · rw [e]; simp
    · have h1 : stripLo g true x = 1 := by
        unfold stripLo
        rw [if_pos rfl, hx]
        show (List.takeWhile g [42]).length = 1
        rw [List.takeWhile_cons, if_pos (by rw [hc]; decide)]
        rfl
      rw [h1, e]
      rw [List.drop_eq_nil_iff, List.length_take]
      exact Nat.min_le_right _ _
  | cons c r =>
    have hc42 : g c = false := by rw [hc]; exact decide_eq_false fun z => h (by rw [z]; exact List.mem_cons_self ..)
    have h1 : stripLo g true x = 0 := by
      unfold stripLo
      rw [if_pos rfl, hx]
      show (List.takeWhile g (c :: (r ++ st))).length = 0
      rw [List.takeWhile_cons, if_neg (by rw [hc42]; decide)]
      rfl
    have hlast : ∀ l : List Nat, 42 ∉ l → l.reverse.takeWhile g = [] := fun l hl => tw0 _ fun d hd => by
      rw [hc]
      refine decide_eq_false fun z => hl ?_
      rw [← z]
      exact List.mem_reverse.mp (List.mem_of_mem_head? hd)
    have h2 : stripHi g true x 0 = (c :: r).length := by
      unfold stripHi
      rw [if_pos rfl, hx, List.drop_zero, hlen]
      rcases hs with rfl | rfl
      · rw [List.append_nil, hlast _ h]
        simp
      · rw [List.reverse_append]
        show _ - (List.takeWhile g (42 :: (c :: r).reverse)).length = _
        rw [List.takeWhile_cons, if_pos (by rw [hc]; decide), hlast _ h]
        simp
    rw [h1, h2, e, List.drop_zero, List.take_left]
theorem part_star {x : Str} {bs st : List Nat} (e : tl x = bs ++ st) (h : 42 ∉ bs) (hs : st = [] ∨ st = [42]) : tl (partS x ("*" : Str)).a = bs := by
  have ex : x = ⟨bs.toArray⟩ ++ (⟨st.toArray⟩ : Str) := tl_inj (by rw [tl_append, e])
  have hb : 42 ∉ tl (⟨bs.toArray⟩ : Str) := by simpa [tl] using h
  rcases hs with rfl | rfl
  · have e2 : x = ⟨bs.toArray⟩ := tl_inj (by rw [e]; simp [tl])
    show tl (Txt.partition x ("*" : Str)).1 = bs
    rw [e2, TL.partition_none tlStar hb]
  · have e2 : x = (⟨bs.toArray⟩ : Str) ++ ("*" : Str) ++ Str.empty := tl_inj (by rw [tl_append, tl_append, tlStar, e]; simp [tl, Str.empty])
    show tl (Txt.partition x ("*" : Str)).1 = bs
    rw [e2, TL.partition_app tlStar hb]
theorem Pat.strip {w : Nat} {bs : List Nat} {x : Str} (p : Pat w bs x) : tl (Txt.stripChars x ("*" : Str)) = bs := by
  refine strip_star (st := if bs.length < w then [42] else []) p.eq p.bits.no42 ?_
  split
  · exact .inr rfl
  · exact .inl rfl
theorem Pat.part {w : Nat} {bs : List Nat} {x : Str} (p : Pat w bs x) : tl (partS x ("*" : Str)).a = bs := by
  refine part_star (st := if bs.length < w then [42] else []) p.eq p.bits.no42 ?_
  split
  · exact .inr rfl
  · exact .inl rfl
theorem Pat.len {w : Nat} {bs : List Nat} {x : Str} (p : Pat w bs x) : (tl x).length ≤ w := by
  rw [p.eq, patL, List.length_append]
  have := p.le
  split
  · simp; omega
  · simp; omega
/-! ### worth -/
def wr (bs : List Nat) : Nat := bs.foldl (fun n c => 2 * n + (if c = 49 then 1 else 0)) 0
theorem wr_from (bs : List Nat) : ∀ a : Nat, bs.foldl (fun n c => 2 * n + (if c = 49 then 1 else 0)) a = a * 2 ^ bs.length + wr bs := by
  induction bs with
  | nil => intro a; simp [wr]
  | cons c bs ih =>
    intro a
    have h0 := ih (2 * 0 + (if c = 49 then 1 else 0))
    show List.foldl _ (2 * a + (if c = 49 then 1 else 0)) bs = _
    rw [ih]
    have h1 : wr (c :: bs) = (2 * 0 + (if c = 49 then 1 else 0)) * 2 ^ bs.length + wr bs := h0
    rw [h1, List.length_cons, Nat.pow_succ]
    generalize (if c = 49 then 1 else 0) = d
    generalize 2 ^ bs.length = p
    rw [Nat.add_mul, Nat.mul_zero, Nat.zero_add, Nat.add_assoc, Nat.mul_comm 2 a, Nat.mul_assoc, Nat.mul_comm 2 p]
theorem wr_app (a b : List Nat) : wr (a ++ b) = wr a * 2 ^ b.length + wr b := by
  unfold wr
  rw [List.foldl_append]
  exact wr_from b _
theorem wr_cons (c : Nat) (b : List Nat) : wr (c :: b) = (if c = 49 then 1 else 0) * 2 ^ b.length + wr b := by
  have := wr_app [c] b
  rw [List.singleton_append] at this
  rw [this]
  congr 2
  simp [wr]
theorem wr_snoc (a : List Nat) (c : Nat) : wr (a ++ [c]) = 2 * wr a + (if c = 49 then 1 else 0) := by
  unfold wr
  rw [List.foldl_append]
  rfl
theorem wr_lt : ∀ bs : List Nat, wr bs < 2 ^ bs.length
  | [] => by decide
  | c :: bs => by
    have := wr_lt bs
    rw [wr_cons, List.length_cons, Nat.pow_succ]
    split <;> omega
theorem wr_zeros (k : Nat) : wr (List.replicate k 48) = 0 := by
  induction k with
  | zero => rfl
  | succ k ih => rw [List.replicate_succ, wr_cons, ih]; simp
theorem wr_ones (k : Nat) : wr (List.replicate k 49) + 1 = 2 ^ k := by
  induction k with
  | zero => rfl
  | succ k ih =>
    rw [List.replicate_succ, wr_cons, List.length_replicate, Nat.pow_succ, if_pos rfl]
    omega
theorem wr_inj : ∀ {a b : List Nat}, Bits a → Bits b → a.length = b.length → wr a = wr b → a = b
  | [], [], _, _, _, _ => rfl
  | [], _ :: _, _, _, h, _ => nomatch h
  | _ :: _, [], _, _, h, _ => nomatch h
  | c :: a, d :: b, ha, hb, h, e => by
    have hl : a.length = b.length := Nat.succ.inj h
    rw [wr_cons, wr_cons, hl] at e
    have h1 := wr_lt a
    have h2 := wr_lt b
    rw [hl] at h1
    have hc := isB_iff.mp (ha c (List.mem_cons_self ..))
    have hd := isB_iff.mp (hb d (List.mem_cons_self ..))
    have he : c = d ∧ wr a = wr b := by
      rcases hc with rfl | rfl <;> rcases hd with rfl | rfl <;> simp at e ⊢ <;> omega
    rw [he.1, wr_inj (fun x hx => ha x (List.mem_cons_of_mem _ hx)) (fun x hx => hb x (List.mem_cons_of_mem _ hx)) hl he.2]
theorem toI_sgn1 (c : Nat) : toI (eqS (sgn c) ("1" : Str)) = ((if c = 49 then 1 else 0 : Nat) : Int) := by
  rw [eqS_tl, tl_sgn, tl1]
  by_cases h : c = 49
  · subst h; rfl
  · rw [decide_eq_false (fun e => h (List.cons.inj e).1), if_neg h]; rfl
theorem log2_lt64 {a : Nat} (h : a < 2 ^ 64) : a.log2 < 64 := by
  by_cases h0 : a = 0
  · subst h0; decide
  · exact (Nat.log2_lt h0).mpr h
theorem mulI_nat {a b : Nat} (ha : a < 2 ^ 64) (hb : b < 2 ^ 64) : mulI (a : Int) (b : Int) = some ((a * b : Nat) : Int) := by
  unfold mulI
  have h1 := log2_lt64 ha
  have h2 := log2_lt64 hb
  rw [if_pos (by rw [Int.natAbs_natCast, Int.natAbs_natCast]; omega)]
  rfl
theorem shlI_one {k : Nat} (h : k ≤ 1000000) : shlI 1 (k : Int) = some ((2 ^ k : Nat) : Int) := by
  unfold shlI
  rw [if_pos ⟨by omega, by omega, by decide⟩, Int.one_mul, Int.toNat_natCast]
  simp
theorem shrI_nat {n k : Nat} : shrI (n : Int) (k : Int) = some ((n / 2 ^ k : Nat) : Int) := by
  unfold shrI
  rw [if_pos (by omega), Int.toNat_natCast]
  simp
theorem and_one (n : Nat) : Builtin.bitAnd (n : Int) 1 = ((n % 2 : Nat) : Int) := by
  have := Bits.bitAnd_mask (x := (n : Int)) 1 (by omega)
  rw [show ((2 : Int) ^ 1 - 1) = 1 by decide] at this
  rw [this]
  simp
theorem pow_lt64 {k : Nat} (h : k < 64) : 2 ^ k < 2 ^ 64 := Nat.pow_lt_pow_right (by decide) h
/-! ### an address written with w signs -/
def bin : Nat → Nat → List Nat
  | 0, _ => []
  | w + 1, n => bin w (n / 2) ++ [48 + n % 2]
theorem bin_len : ∀ w n : Nat, (bin w n).length = w
  | 0, _ => rfl
  | w + 1, n => by rw [bin, List.length_append, bin_len w]; rfl
theorem bin_bits : ∀ w n : Nat, Bits (bin w n)
  | 0, _ => Bits.nil
  | w + 1, n => (bin_bits w _).app (Bits.one (isB_iff.mpr (by have := Nat.mod_two_eq_zero_or_one n; omega)))
theorem wr_bin : ∀ w n : Nat, wr (bin w n) = n % 2 ^ w
  | 0, n => by rw [Nat.pow_zero, Nat.mod_one]; rfl
  | w + 1, n => by
    rw [bin, wr_snoc, wr_bin w, Nat.pow_succ, Nat.mul_comm (2 ^ w) 2, Nat.mod_mul]
    have : (if 48 + n % 2 = 49 then 1 else 0) = n % 2 := by
      have := Nat.mod_two_eq_zero_or_one n
      split <;> omega
    rw [this]
    omega
theorem bin_take : ∀ (k j n : Nat), (bin (k + j) n).take k = bin k (n / 2 ^ j)
  | k, 0, n => by
    rw [Nat.add_zero, Nat.pow_zero, Nat.div_one]
    exact List.take_of_length_le (by rw [bin_len]; exact Nat.le_refl _)
  | k, j + 1, n => by
    show (bin (k + j) (n / 2) ++ [48 + n % 2]).take k = _
    rw [List.take_append_of_le_length (by rw [bin_len]; omega), bin_take k j, Nat.div_div_eq_div_mul, Nat.pow_succ, Nat.mul_comm 2]
theorem bin_top : ∀ k n : Nat, bin (k + 1) n = (48 + n / 2 ^ k % 2) :: bin k n
  | 0, n => by rw [Nat.pow_zero, Nat.div_one]; rfl
  | k + 1, n => by
    rw [bin, bin_top k (n / 2), Nat.div_div_eq_div_mul, Nat.mul_comm 2, ← Nat.pow_succ]
    rfl
theorem code01 {d : Nat} (h : d < 2) : codeAt ("01" : Str) (d : Nat) = some (48 + d) := by
  have : d = 0 ∨ d = 1 := by omega
  rcases this with rfl | rfl
  · exact atI_nat (by rw [tl01]; rfl)
  · exact atI_nat (by rw [tl01]; rfl)
end G
namespace G
open PySem PySem.Spec PyProof.Rows L2 TL
/-! ### addresses that spans have within a block -/
def cn1 (s : Int × Int) (a e : Int) : Int := max 0 (min e s.2 - max a s.1)
def ct (S : List (Int × Int)) (a e : Int) : Int := (S.map fun s => cn1 s a e).sum
theorem ct_nil (a e : Int) : ct [] a e = 0 := rfl
theorem ct_cons (s : Int × Int) (S : List (Int × Int)) (a e : Int) : ct (s :: S) a e = cn1 s a e + ct S a e := by unfold ct; rw [List.map_cons, List.sum_cons]
theorem ct_app (S T : List (Int × Int)) (a e : Int) : ct (S ++ T) a e = ct S a e + ct T a e := by
  induction S with
  | nil => rw [List.nil_append, ct_nil]; omega
  | cons s S ih => rw [List.cons_append, ct_cons, ct_cons, ih]; omega
theorem cn1_nn (s : Int × Int) (a e : Int) : 0 ≤ cn1 s a e := by unfold cn1; omega
theorem ct_nn (S : List (Int × Int)) (a e : Int) : 0 ≤ ct S a e := by
  induction S with
  | nil => exact Int.le_refl _
  | cons s S ih => rw [ct_cons]; have := cn1_nn s a e; omega
theorem cn1_cut {s : Int × Int} {a m e : Int} (h1 : a ≤ m) (h2 : m ≤ e) : cn1 s a e = cn1 s a m + cn1 s m e ∨ s.2 ≤ s.1 := by
  unfold cn1
  omega
/-- rising spans, that may touch -/
def Rise (S : List (Int × Int)) : Prop := (∀ s ∈ S, s.1 < s.2) ∧ S.Pairwise fun s t => s.2 ≤ t.1
/-- rising spans with gaps -/
def Gaps (S : List (Int × Int)) : Prop := (∀ s ∈ S, s.1 < s.2) ∧ S.Pairwise fun s t => s.2 < t.1
theorem Gaps.rise {S : List (Int × Int)} (h : Gaps S) : Rise S := ⟨h.1, h.2.imp fun h => Int.le_of_lt h⟩
theorem Rise.tail {s : Int × Int} {S : List (Int × Int)} (h : Rise (s :: S)) : Rise S := ⟨fun t ht => h.1 t (List.mem_cons_of_mem _ ht), (List.pairwise_cons.mp h.2).2⟩
theorem Gaps.tail {s : Int × Int} {S : List (Int × Int)} (h : Gaps (s :: S)) : Gaps S := ⟨fun t ht => h.1 t (List.mem_cons_of_mem _ ht), (List.pairwise_cons.mp h.2).2⟩
theorem ct_cut {S : List (Int × Int)} (h : Rise S) {a m e : Int} (h1 : a ≤ m) (h2 : m ≤ e) : ct S a e = ct S a m + ct S m e := by
  induction S with
  | nil => rfl
  | cons s S ih =>
    rw [ct_cons, ct_cons, ct_cons, ih h.tail]
    have := h.1 s (List.mem_cons_self ..)
    rcases cn1_cut (s := s) h1 h2 with e | e <;> omega
/-- what stands behind k alone has at most what is behind k -/
theorem ct_from {S : List (Int × Int)} (h : Rise S) {k a e : Int} (hk : ∀ s ∈ S, k ≤ s.1) : ct S a e ≤ max 0 (e - max a k) := by
  induction S generalizing k with
  | nil => rw [ct_nil]; omega
  | cons s S ih =>
    rw [ct_cons]
    have h1 := h.1 s (List.mem_cons_self ..)
    have h2 := hk s (List.mem_cons_self ..)
    have h3 := ih h.tail (k := s.2) fun t ht => (List.pairwise_cons.mp h.2).1 t ht
    unfold cn1
    omega
theorem ct_le {S : List (Int × Int)} (h : Rise S) {a e : Int} (hae : a ≤ e) : ct S a e ≤ e - a := by
  cases S with
  | nil => rw [ct_nil]; omega
  | cons s S =>
    have h3 := ct_from h.tail (k := s.2) (a := a) (e := e) fun t ht => (List.pairwise_cons.mp h.2).1 t ht
    have h1 := h.1 s (List.mem_cons_self ..)
    rw [ct_cons]
    unfold cn1
    omega
/-- a block that is had whole is had by one, where there are gaps -/
theorem ct_full {S : List (Int × Int)} (h : Gaps S) {a e : Int} (hae : a < e) (hc : ct S a e = e - a) : ∃ A s B, S = A ++ s :: B ∧ s.1 ≤ a ∧ e ≤ s.2 ∧ (∀ t ∈ A, cn1 t a e = 0) ∧ (∀ t ∈ B, cn1 t a e = 0) := by
  induction S with
  | nil => rw [ct_nil] at hc; omega
  | cons s S ih =>
    rw [ct_cons] at hc
    have h1 := h.1 s (List.mem_cons_self ..)
    have hp := (List.pairwise_cons.mp h.2).1
    by_cases hz : cn1 s a e = 0
    · obtain ⟨A, t, B, rfl, k1, k2, k3, k4⟩ := ih h.tail (by omega)
      refine ⟨s :: A, t, B, rfl, k1, k2, fun u hu => ?_, k4⟩
      rcases List.mem_cons.mp hu with rfl | hu
      · exact hz
      · exact k3 u hu
    · have h3 := ct_from h.tail.rise (k := s.2 + 1) (a := a) (e := e) fun t ht => hp t ht
      have hb : s.1 ≤ a ∧ e ≤ s.2 := by unfold cn1 at hz hc; omega
      refine ⟨[], s, S, rfl, hb.1, hb.2, (fun t ht => absurd ht (List.not_mem_nil)), fun t ht => ?_⟩
      have := hp t ht
      unfold cn1
      omega
def ends1 (s : Int × Int) (a e : Int) : Nat := (if a < s.1 ∧ s.1 < e then 1 else 0) + (if a < s.2 ∧ s.2 < e then 1 else 0)
def ends (S : List (Int × Int)) (a e : Int) : Nat := (S.map fun s => ends1 s a e).sum
theorem ends_cons (s : Int × Int) (S : List (Int × Int)) (a e : Int) : ends (s :: S) a e = ends1 s a e + ends S a e := by unfold ends; rw [List.map_cons, List.sum_cons]
theorem ends_le (S : List (Int × Int)) (a e : Int) : ends S a e ≤ 2 * S.length := by
  induction S with
  | nil => exact Nat.le_refl _
  | cons s S ih =>
    rw [ends_cons, List.length_cons]
    have : ends1 s a e ≤ 2 := by unfold ends1; split <;> split <;> omega
    omega
theorem ends_cut (S : List (Int × Int)) {a m e : Int} (h1 : a ≤ m) (h2 : m ≤ e) : ends S a m + ends S m e ≤ ends S a e := by
  induction S with
  | nil => exact Nat.le_refl _
  | cons s S ih =>
    rw [ends_cons, ends_cons, ends_cons]
    have : ends1 s a m + ends1 s m e ≤ ends1 s a e := by
      unfold ends1
      repeat' split
      all_goals omega
    omega
theorem ends_zero {S : List (Int × Int)} (h : Rise S) {a e : Int} (hae : a < e) (hz : ends S a e = 0) : ct S a e = 0 ∨ ct S a e = e - a := by
  induction S with
  | nil => exact .inl rfl
  | cons s S ih =>
    rw [ends_cons] at hz
    have hl := ct_le h (Int.le_of_lt hae)
    rw [ct_cons] at hl ⊢
    have h1 := h.1 s (List.mem_cons_self ..)
    have h0 : ends1 s a e = 0 := by omega
    have hs : cn1 s a e = 0 ∨ cn1 s a e = e - a := by
      unfold ends1 at h0
      unfold cn1
      split at h0 <;> split at h0 <;> omega
    have hn := ct_nn S a e
    rcases ih h.tail (by omega) with e1 | e1 <;> rcases hs with e2 | e2 <;> omega
/-! ### the leaves -/
abbrev H2 (j : Nat) : Int := ((2 ^ j : Nat) : Int)
theorem H2_succ (j : Nat) : H2 (j + 1) = 2 * H2 j := by show ((2 ^ (j + 1) : Nat) : Int) = 2 * ((2 ^ j : Nat) : Int); rw [Nat.pow_succ]; omega
theorem H2_pos (j : Nat) : 0 < H2 j := Int.ofNat_lt.mpr (Nat.two_pow_pos j)
theorem H2_zero : H2 0 = 1 := rfl
def can (S : List (Int × Int)) : Nat → Int → List Nat → List (List Nat)
  | 0, a, bs => if ct S a (a + H2 0) = 0 then [] else [bs]
  | j + 1, a, bs => if ct S a (a + H2 (j + 1)) = 0 then [] else if ct S a (a + H2 (j + 1)) = H2 (j + 1) then [bs ++ [42]] else can S j a (bs ++ [48]) ++ can S j (a + H2 j) (bs ++ [49])
/-- a leaf as it is written -/
def leaf (j : Nat) (bs : List Nat) : List Nat := if j = 0 then bs else bs ++ [42]
theorem can_none {S : List (Int × Int)} {j : Nat} {a : Int} {bs : List Nat} (h : ct S a (a + H2 j) = 0) : can S j a bs = [] := by
  cases j <;> (unfold can; rw [if_pos h])
theorem can_full {S : List (Int × Int)} {j : Nat} {a : Int} {bs : List Nat} (h : ct S a (a + H2 j) = H2 j) : can S j a bs = [leaf j bs] := by
  have := H2_pos j
  cases j with
  | zero => unfold can; rw [if_neg (by omega)]; rfl
  | succ j => unfold can; rw [if_neg (by omega), if_pos h]; rfl
theorem can_part {S : List (Int × Int)} {j : Nat} {a : Int} {bs : List Nat} (h1 : ct S a (a + H2 (j + 1)) ≠ 0) (h2 : ct S a (a + H2 (j + 1)) ≠ H2 (j + 1)) : can S (j + 1) a bs = can S j a (bs ++ [48]) ++ can S j (a + H2 j) (bs ++ [49]) := by
  conv => lhs; unfold can
  rw [if_neg h1, if_neg h2]
theorem can_len {S : List (Int × Int)} (h : Rise S) : ∀ (j : Nat) (a : Int) (bs : List Nat), (can S j a bs).length ≤ 1 + j * ends S a (a + H2 j)
  | 0, a, bs => by
    unfold can
    split
    · exact Nat.zero_le _
    · exact Nat.le_add_right _ _
  | j + 1, a, bs => by
    have hp := H2_pos (j + 1)
    have hj := H2_pos j
    have hs := H2_succ j
    by_cases h0 : ct S a (a + H2 (j + 1)) = 0
    · rw [can_none h0]; exact Nat.zero_le _
    · by_cases h1 : ct S a (a + H2 (j + 1)) = H2 (j + 1)
      · rw [can_full h1]; exact Nat.le_add_right _ _
      · rw [can_part h0 h1, List.length_append]
        have l := can_len h j a (bs ++ [48])
        have r := can_len h j (a + H2 j) (bs ++ [49])
        have he : a + H2 j + H2 j = a + H2 (j + 1) := by omega
        rw [he] at r
        have hc := ends_cut S (a := a) (m := a + H2 j) (e := a + H2 (j + 1)) (by omega) (by omega)
        have hz : ends S a (a + H2 (j + 1)) ≠ 0 := fun e => by
          rcases ends_zero h (by omega) e with e | e <;> omega
        generalize ends S a (a + H2 (j + 1)) = x at *
        generalize ends S a (a + H2 j) = y at *
        generalize ends S (a + H2 j) (a + H2 (j + 1)) = z at *
        have : j * y + j * z ≤ j * x := by rw [← Nat.mul_add]; exact Nat.mul_le_mul_left _ hc
        have : (j + 1) * x = j * x + x := Nat.succ_mul j x
        omega
theorem can_congr {S T : List (Int × Int)} : ∀ (j : Nat) (a : Int) (bs : List Nat), (∀ f b, a ≤ f → b ≤ a + H2 j → ct S f b = ct T f b) → can S j a bs = can T j a bs
  | 0, a, bs, h => by
    unfold can
    rw [h a (a + H2 0) (Int.le_refl _) (Int.le_refl _)]
  | j + 1, a, bs, h => by
    have hj := H2_pos j
    have hs := H2_succ j
    unfold can
    rw [h a _ (Int.le_refl _) (Int.le_refl _), can_congr j a _ fun f b h1 h2 => h f b h1 (by omega), can_congr j (a + H2 j) _ fun f b h1 h2 => h f b (by omega) (by omega)]
theorem flat_nil {α β : Type} {f : α → List β} : ∀ {l : List α}, (∀ x ∈ l, f x = []) → l.flatMap f = []
  | [], _ => rfl
  | x :: l, h => by rw [List.flatMap_cons, h x (List.mem_cons_self ..), flat_nil fun y hy => h y (List.mem_cons_of_mem _ hy)]; rfl
theorem ct_zero {S : List (Int × Int)} {a e : Int} : ct S a e = 0 ↔ ∀ s ∈ S, cn1 s a e = 0 := by
  induction S with
  | nil => exact ⟨fun _ t h => absurd h (List.not_mem_nil), fun _ => rfl⟩
  | cons s S ih =>
    rw [ct_cons]
    have h1 := cn1_nn s a e
    have h2 := ct_nn S a e
    constructor
    · intro h t ht
      rcases List.mem_cons.mp ht with rfl | ht
      · omega
      · exact ih.mp (by omega) t ht
    · intro h
      have h3 := h s (List.mem_cons_self ..)
      have h4 := ih.mpr fun t ht => h t (List.mem_cons_of_mem _ ht)
      omega
theorem ct_one (s : Int × Int) (a e : Int) : ct [s] a e = cn1 s a e := by rw [ct_cons, ct_nil]; omega
/-- the leaves of spans with gaps are those of each -/
theorem can_each {S : List (Int × Int)} (h : Gaps S) : ∀ (j : Nat) (a : Int) (bs : List Nat), can S j a bs = S.flatMap fun s => can [s] j a bs := fun j => by
  induction j with
  | zero =>
    intro a bs
    by_cases h0 : ct S a (a + H2 0) = 0
    · rw [can_none h0, flat_nil fun s hs => can_none (by rw [ct_one]; exact ct_zero.mp h0 s hs)]
    · have hl := ct_le h.rise (a := a) (e := a + H2 0) (by rw [H2_zero]; omega)
      have hn := ct_nn S a (a + H2 0)
      exact full h 0 a bs (by rw [H2_zero] at *; omega)
  | succ j ih =>
    intro a bs
    have hj := H2_pos j
    have hs := H2_succ j
    by_cases h0 : ct S a (a + H2 (j + 1)) = 0
    · rw [can_none h0, flat_nil fun s hs => can_none (by rw [ct_one]; exact ct_zero.mp h0 s hs)]
    · by_cases h1 : ct S a (a + H2 (j + 1)) = H2 (j + 1)
      · exact full h (j + 1) a bs h1
      · rw [can_part h0 h1, ih, ih]
        have e1 : S.flatMap (fun s => can [s] (j + 1) a bs) = S.flatMap fun s => can [s] j a (bs ++ [48]) ++ can [s] j (a + H2 j) (bs ++ [49]) := by
          have hle : ∀ T : List (Int × Int), (∀ t ∈ T, t.1 < t.2) → ct T a (a + H2 (j + 1)) < H2 (j + 1) → (T.flatMap fun s => can [s] (j + 1) a bs) = T.flatMap fun s => can [s] j a (bs ++ [48]) ++ can [s] j (a + H2 j) (bs ++ [49]) := fun T => by
            induction T with
            | nil => exact fun _ _ => rfl
            | cons t T ihT =>
              intro ht hc
              rw [ct_cons] at hc
              have n1 := cn1_nn t a (a + H2 (j + 1))
              have n2 := ct_nn T a (a + H2 (j + 1))
              rw [List.flatMap_cons, List.flatMap_cons, ihT (fun u hu => ht u (List.mem_cons_of_mem _ hu)) (by omega)]
              congr 1
              have ht1 := ht t (List.mem_cons_self ..)
              by_cases hz : ct [t] a (a + H2 (j + 1)) = 0
              · rw [can_none hz]
                have hcut := ct_cut (S := [t]) ⟨fun u hu => by rw [List.mem_singleton.mp hu]; exact ht1, List.pairwise_singleton _ _⟩ (a := a) (m := a + H2 j) (e := a + H2 (j + 1)) (by omega) (by omega)
                have m1 := ct_nn [t] a (a + H2 j)
                have m2 := ct_nn [t] (a + H2 j) (a + H2 (j + 1))
                have he : a + H2 j + H2 j = a + H2 (j + 1) := by omega
                rw [can_none (by omega : ct [t] a (a + H2 j) = 0), can_none (by rw [he]; omega)]
                rfl
              · exact can_part hz (by rw [ct_one]; omega)
          have hl := ct_le h.rise (a := a) (e := a + H2 (j + 1)) (by omega)
          exact hle S h.1 (by omega)
        rw [e1]
        exact (inter h (m := a + H2 j) (L := fun s => can [s] j a (bs ++ [48])) (R := fun s => can [s] j (a + H2 j) (bs ++ [49])) (fun s hs => can_none (by rw [ct_one]; unfold cn1; omega)) (fun s hs => can_none (by rw [ct_one]; unfold cn1; omega)))
where
  full {S : List (Int × Int)} (h : Gaps S) (j : Nat) (a : Int) (bs : List Nat) (h1 : ct S a (a + H2 j) = H2 j) : can S j a bs = S.flatMap fun s => can [s] j a bs := by
    have hj := H2_pos j
    obtain ⟨A, s, B, rfl, k1, k2, k3, k4⟩ := ct_full h (a := a) (e := a + H2 j) (by omega) (by omega)
    rw [can_full h1, List.flatMap_append, List.flatMap_cons, flat_nil fun t ht => can_none (by rw [ct_one]; exact k3 t ht), flat_nil fun t ht => can_none (by rw [ct_one]; exact k4 t ht), can_full (by rw [ct_one]; unfold cn1; omega)]
    rfl
  inter {S : List (Int × Int)} {m : Int} {L R : Int × Int → List (List Nat)} (h : Gaps S) (hL : ∀ s, m ≤ s.1 → L s = []) (hR : ∀ s, s.2 ≤ m → R s = []) : S.flatMap L ++ S.flatMap R = S.flatMap fun s => L s ++ R s := by
    induction S with
    | nil => rfl
    | cons s S ih =>
      rw [List.flatMap_cons, List.flatMap_cons, List.flatMap_cons, ← ih h.tail]
      by_cases hs : s.2 ≤ m
      · rw [hR s hs]; simp
      · have : S.flatMap L = [] := flat_nil fun t ht => hL t (by have := (List.pairwise_cons.mp h.2).1 t ht; omega)
        rw [this]; simp
end G
namespace G
open PySem PySem.Spec PyProof.Rows L2 TL
/-! ### the address at which a block begins -/
abbrev beg (bs : List Nat) (j : Nat) : Int := ((wr bs * 2 ^ j : Nat) : Int)
theorem beg0 (bs : List Nat) (j : Nat) : beg (bs ++ [48]) j = beg bs (j + 1) := by
  unfold beg
  rw [wr_snoc, if_neg (by decide), Nat.pow_succ, Nat.add_zero, Nat.mul_comm 2, Nat.mul_assoc, Nat.mul_comm 2]
theorem beg1 (bs : List Nat) (j : Nat) : beg (bs ++ [49]) j = beg bs (j + 1) + H2 j := by
  unfold beg
  rw [wr_snoc, if_pos rfl, Nat.pow_succ, Nat.add_mul, Nat.one_mul, Nat.mul_comm 2, Nat.mul_assoc, Nat.mul_comm 2, Int.natCast_add]
theorem beg_nil (j : Nat) : beg [] j = 0 := by unfold beg; rw [show wr [] = 0 from rfl, Nat.zero_mul]; rfl
/-! ### the leaves without their stars -/
def canB (S : List (Int × Int)) : Nat → Int → List Nat → List (List Nat)
  | 0, a, bs => if ct S a (a + H2 0) = 0 then [] else [bs]
  | j + 1, a, bs => if ct S a (a + H2 (j + 1)) = 0 then [] else if ct S a (a + H2 (j + 1)) = H2 (j + 1) then [bs] else canB S j a (bs ++ [48]) ++ canB S j (a + H2 j) (bs ++ [49])
theorem canB_none {S : List (Int × Int)} {j : Nat} {a : Int} {bs : List Nat} (h : ct S a (a + H2 j) = 0) : canB S j a bs = [] := by
  cases j <;> (unfold canB; rw [if_pos h])
theorem canB_full {S : List (Int × Int)} {j : Nat} {a : Int} {bs : List Nat} (h : ct S a (a + H2 j) = H2 j) : canB S j a bs = [bs] := by
  have := H2_pos j
  cases j with
  | zero => unfold canB; rw [if_neg (by omega)]
  | succ j => unfold canB; rw [if_neg (by omega), if_pos h]
theorem canB_part {S : List (Int × Int)} {j : Nat} {a : Int} {bs : List Nat} (h1 : ct S a (a + H2 (j + 1)) ≠ 0) (h2 : ct S a (a + H2 (j + 1)) ≠ H2 (j + 1)) : canB S (j + 1) a bs = canB S j a (bs ++ [48]) ++ canB S j (a + H2 j) (bs ++ [49]) := by
  conv => lhs; unfold canB
  rw [if_neg h1, if_neg h2]
/-- which of the three -/
theorem can_cases {S : List (Int × Int)} (h : Rise S) {P : Nat → Int → List Nat → Prop} (j : Nat) (a : Int) (bs : List Nat)
    (h0 : ∀ j a bs, ct S a (a + H2 j) = 0 → P j a bs) (h1 : ∀ j a bs, ct S a (a + H2 j) = H2 j → P j a bs)
    (h2 : ∀ j a bs, ct S a (a + H2 (j + 1)) ≠ 0 → ct S a (a + H2 (j + 1)) ≠ H2 (j + 1) → P j a (bs ++ [48]) → P j (a + H2 j) (bs ++ [49]) → P (j + 1) a bs) : P j a bs := by
  induction j generalizing a bs with
  | zero =>
    by_cases e : ct S a (a + H2 0) = 0
    · exact h0 _ _ _ e
    · have l := ct_le h (a := a) (e := a + H2 0) (by rw [H2_zero]; omega)
      have n := ct_nn S a (a + H2 0)
      exact h1 _ _ _ (by have := H2_zero; omega)
  | succ j ih =>
    by_cases e : ct S a (a + H2 (j + 1)) = 0
    · exact h0 _ _ _ e
    · by_cases e2 : ct S a (a + H2 (j + 1)) = H2 (j + 1)
      · exact h1 _ _ _ e2
      · exact h2 _ _ _ e e2 (ih _ _) (ih _ _)
theorem patL_leaf {w j : Nat} {bs : List Nat} (h : bs.length + j = w) : patL w bs = leaf j bs := by
  unfold patL leaf
  by_cases e : j = 0
  · rw [if_neg (by omega), if_pos e, List.append_nil]
  · rw [if_pos (by omega), if_neg e]
theorem can_canB {S : List (Int × Int)} (h : Rise S) {w : Nat} (j : Nat) (a : Int) (bs : List Nat) : bs.length + j = w → can S j a bs = (canB S j a bs).map (patL w) :=
  can_cases h (P := fun j a bs => bs.length + j = w → can S j a bs = (canB S j a bs).map (patL w)) j a bs
    (fun j a bs e _ => by rw [can_none e, canB_none e]; rfl)
    (fun j a bs e hl => by rw [can_full e, canB_full e, List.map_cons, patL_leaf hl]; rfl)
    (fun j a bs e1 e2 i1 i2 hl => by
      rw [can_part e1 e2, canB_part e1 e2, List.map_append, i1 (by rw [List.length_append]; show _ + 1 + _ = _; omega), i2 (by rw [List.length_append]; show _ + 1 + _ = _; omega)])
theorem canB_pre {S : List (Int × Int)} (h : Rise S) (j : Nat) (a : Int) (bs : List Nat) : ∀ x ∈ canB S j a bs, ∃ u, x = bs ++ u ∧ u.length ≤ j ∧ Bits u ∧ (u = [] → ct S a (a + H2 j) = H2 j) :=
  can_cases h (P := fun j a bs => ∀ x ∈ canB S j a bs, ∃ u, x = bs ++ u ∧ u.length ≤ j ∧ Bits u ∧ (u = [] → ct S a (a + H2 j) = H2 j)) j a bs
    (fun j a bs e x hx => by rw [canB_none e] at hx; exact (List.not_mem_nil hx).elim)
    (fun j a bs e x hx => by
      rw [canB_full e] at hx
      rw [List.mem_singleton.mp hx]
      exact ⟨[], (List.append_nil _).symm, Nat.zero_le _, Bits.nil, fun _ => e⟩)
    (fun j a bs e1 e2 i1 i2 x hx => by
      rw [canB_part e1 e2] at hx
      rcases List.mem_append.mp hx with hx | hx
      · obtain ⟨u, rfl, hl, hb, _⟩ := i1 x hx
        exact ⟨48 :: u, by simp, Nat.succ_le_succ hl, (Bits.one (by decide)).app hb, fun z => nomatch z⟩
      · obtain ⟨u, rfl, hl, hb, _⟩ := i2 x hx
        exact ⟨49 :: u, by simp, Nat.succ_le_succ hl, (Bits.one (by decide)).app hb, fun z => nomatch z⟩)
/-- not the two halves of one -/
def NoSib (x y : List Nat) : Prop := ¬ (x.length = y.length ∧ x.dropLast = y.dropLast)
theorem canB_sib {S : List (Int × Int)} (h : Rise S) (j : Nat) (a : Int) (bs : List Nat) : (canB S j a bs).Pairwise NoSib :=
  can_cases h (P := fun j a bs => (canB S j a bs).Pairwise NoSib) j a bs
    (fun j a bs e => by rw [canB_none e]; exact List.Pairwise.nil)
    (fun j a bs e => by rw [canB_full e]; exact List.pairwise_singleton _ _)
    (fun j a bs e1 e2 i1 i2 => by
      rw [canB_part e1 e2]
      refine List.pairwise_append.mpr ⟨i1, i2, fun x hx y hy => ?_⟩
      obtain ⟨u, rfl, hl, _, hu⟩ := canB_pre h _ _ _ x hx
      obtain ⟨v, rfl, hl2, _, hv⟩ := canB_pre h _ _ _ y hy
      rintro ⟨z1, z2⟩
      have hlen : u.length = v.length := by simp at z1; exact z1
      cases u with
      | nil =>
        cases v with
        | nil =>
          have a1 := hu rfl
          have a2 := hv rfl
          have hj := H2_pos j
          have hs := H2_succ j
          have hc := ct_cut h (a := a) (m := a + H2 j) (e := a + H2 (j + 1)) (by omega) (by omega)
          rw [show a + H2 j + H2 j = a + H2 (j + 1) by omega] at a2
          omega
        | cons _ _ => simp at hlen
      | cons c u =>
        cases v with
        | nil => simp at hlen
        | cons d v =>
          rw [List.append_assoc, List.append_assoc, List.dropLast_append_of_ne_nil (by simp), List.dropLast_append_of_ne_nil (by simp), List.dropLast_append_of_ne_nil (by simp)] at z2
          have := List.append_cancel_left z2
          simp at this)
/-! ### the spans of leaves -/
def spB (w : Nat) (x : List Nat) : Int × Int := (beg x (w - x.length), beg x (w - x.length) + H2 (w - x.length))
theorem spB_at {w j : Nat} {bs : List Nat} (h : bs.length + j = w) : spB w bs = (beg bs j, beg bs j + H2 j) := by
  unfold spB
  rw [show w - bs.length = j by omega]
theorem ct_sub {S : List (Int × Int)} (h : Rise S) {a e x y : Int} (h1 : a ≤ x) (h2 : x ≤ y) (h3 : y ≤ e) : ct S a e = ct S a x + ct S x y + ct S y e := by
  rw [ct_cut h (a := a) (m := x) (e := e) h1 (by omega), ct_cut h (a := x) (m := y) (e := e) h2 h3]
  omega
theorem ct_rev {S : List (Int × Int)} {x y : Int} (h : y ≤ x) : ct S x y = 0 := ct_zero.mpr fun s _ => by unfold cn1; omega
theorem ct_canB {S : List (Int × Int)} (h : Rise S) {w : Nat} (j : Nat) (a : Int) (bs : List Nat) : bs.length + j = w → a = beg bs j → ∀ f b, ct ((canB S j a bs).map (spB w)) f b = ct S (max f a) (min b (a + H2 j)) :=
  can_cases h (P := fun j a bs => bs.length + j = w → a = beg bs j → ∀ f b, ct ((canB S j a bs).map (spB w)) f b = ct S (max f a) (min b (a + H2 j))) j a bs
    (fun j a bs e _ _ f b => by
      have hj := H2_pos j
      rw [canB_none e, List.map_nil, ct_nil]
      by_cases hh : max f a ≤ min b (a + H2 j)
      · have := ct_sub h (a := a) (e := a + H2 j) (x := max f a) (y := min b (a + H2 j)) (by omega) hh (by omega)
        have n1 := ct_nn S a (max f a)
        have n2 := ct_nn S (max f a) (min b (a + H2 j))
        have n3 := ct_nn S (min b (a + H2 j)) (a + H2 j)
        omega
      · rw [ct_rev (by omega)])
    (fun j a bs e hl ha f b => by
      have hj := H2_pos j
      rw [canB_full e, List.map_cons, List.map_nil, ct_one, spB_at hl, ← ha]
      unfold cn1
      show max 0 (min b (a + H2 j) - max f a) = _
      by_cases hh : max f a ≤ min b (a + H2 j)
      · have := ct_sub h (a := a) (e := a + H2 j) (x := max f a) (y := min b (a + H2 j)) (by omega) hh (by omega)
        have n1 := ct_le h (a := a) (e := max f a) (by omega)
        have n2 := ct_le h (a := max f a) (e := min b (a + H2 j)) hh
        have n3 := ct_le h (a := min b (a + H2 j)) (e := a + H2 j) (by omega)
        omega
      · rw [ct_rev (by omega)]; omega)
    (fun j a bs e1 e2 i1 i2 hl ha f b => by
      have hj := H2_pos j
      have hs := H2_succ j
      rw [canB_part e1 e2, List.map_append, ct_app, i1 (by rw [List.length_append]; show _ + 1 + _ = _; omega) (by rw [beg0]; exact ha), i2 (by rw [List.length_append]; show _ + 1 + _ = _; omega) (by rw [beg1, ha])]
      rw [show a + H2 j + H2 j = a + H2 (j + 1) by omega]
      by_cases k1 : max f a ≤ min b (a + H2 (j + 1))
      · by_cases k2 : max f a ≤ a + H2 j
        · by_cases k3 : a + H2 j ≤ min b (a + H2 (j + 1))
          · rw [ct_cut h (a := max f a) (m := a + H2 j) (e := min b (a + H2 (j + 1))) k2 k3, show min b (a + H2 j) = a + H2 j by omega, show max f (a + H2 j) = a + H2 j by omega]
          · rw [ct_rev (x := max f (a + H2 j)) (by omega), show min b (a + H2 j) = min b (a + H2 (j + 1)) by omega]
            omega
        · rw [ct_rev (x := max f a) (y := min b (a + H2 j)) (by omega), show max f (a + H2 j) = max f a by omega]
          omega
      · rw [ct_rev (x := max f a) (y := min b (a + H2 j)) (by omega), ct_rev (x := max f (a + H2 j)) (by omega), ct_rev (by omega)]
        omega)
theorem spB_in {S : List (Int × Int)} (h : Rise S) {w : Nat} (j : Nat) (a : Int) (bs : List Nat) : bs.length + j = w → a = beg bs j → ∀ s ∈ (canB S j a bs).map (spB w), a ≤ s.1 ∧ s.1 < s.2 ∧ s.2 ≤ a + H2 j :=
  can_cases h (P := fun j a bs => bs.length + j = w → a = beg bs j → ∀ s ∈ (canB S j a bs).map (spB w), a ≤ s.1 ∧ s.1 < s.2 ∧ s.2 ≤ a + H2 j) j a bs
    (fun j a bs e _ _ s hs => by rw [canB_none e] at hs; exact (List.not_mem_nil hs).elim)
    (fun j a bs e hl ha s hs => by
      have hj := H2_pos j
      rw [canB_full e, List.map_cons, List.map_nil] at hs
      rw [List.mem_singleton.mp hs, spB_at hl, ← ha]
      exact ⟨Int.le_refl _, by show a < a + H2 j; omega, Int.le_refl _⟩)
    (fun j a bs e1 e2 i1 i2 hl ha s hs => by
      have hj := H2_pos j
      have hs2 := H2_succ j
      rw [canB_part e1 e2, List.map_append] at hs
      rcases List.mem_append.mp hs with hs | hs
      · have := i1 (by rw [List.length_append]; show _ + 1 + _ = _; omega) (by rw [beg0]; exact ha) s hs
        omega
      · have := i2 (by rw [List.length_append]; show _ + 1 + _ = _; omega) (by rw [beg1, ha]) s hs
        omega)
theorem spB_rise {S : List (Int × Int)} (h : Rise S) {w : Nat} (j : Nat) (a : Int) (bs : List Nat) : bs.length + j = w → a = beg bs j → Rise ((canB S j a bs).map (spB w)) := fun hl ha =>
  ⟨fun s hs => (spB_in h j a bs hl ha s hs).2.1, can_cases h (P := fun j a bs => bs.length + j = w → a = beg bs j → ((canB S j a bs).map (spB w)).Pairwise fun s t => s.2 ≤ t.1) j a bs
    (fun j a bs e _ _ => by rw [canB_none e]; exact List.Pairwise.nil)
    (fun j a bs e _ _ => by rw [canB_full e]; exact List.pairwise_singleton _ _)
    (fun j a bs e1 e2 i1 i2 hl ha => by
      rw [canB_part e1 e2, List.map_append]
      have l1 : (bs ++ [48]).length + j = w := by rw [List.length_append]; show _ + 1 + _ = _; omega
      have l2 : (bs ++ [49]).length + j = w := by rw [List.length_append]; show _ + 1 + _ = _; omega
      have b1 : a = beg (bs ++ [48]) j := by rw [beg0]; exact ha
      have b2 : a + H2 j = beg (bs ++ [49]) j := by rw [beg1, ha]
      refine List.pairwise_append.mpr ⟨i1 l1 b1, i2 l2 b2, fun s hs t ht => ?_⟩
      have := spB_in h j a _ l1 b1 s hs
      have := spB_in h j _ _ l2 b2 t ht
      omega) hl ha⟩
/-! ### the leaves of both -/
def canM (S : List (Int × Int)) : Nat → Int → List Nat → List (List Nat)
  | 0, _, bs => [bs]
  | j + 1, a, bs => if ct S a (a + H2 (j + 1)) = 0 ∨ ct S a (a + H2 (j + 1)) = H2 (j + 1) then [bs] else canM S j a (bs ++ [48]) ++ canM S j (a + H2 j) (bs ++ [49])
theorem canM_one {S : List (Int × Int)} {j : Nat} {a : Int} {bs : List Nat} (h : ct S a (a + H2 j) = 0 ∨ ct S a (a + H2 j) = H2 j) : canM S j a bs = [bs] := by
  cases j with
  | zero => rfl
  | succ j => unfold canM; rw [if_pos h]
theorem canM_part {S : List (Int × Int)} {j : Nat} {a : Int} {bs : List Nat} (h1 : ct S a (a + H2 (j + 1)) ≠ 0) (h2 : ct S a (a + H2 (j + 1)) ≠ H2 (j + 1)) : canM S (j + 1) a bs = canM S j a (bs ++ [48]) ++ canM S j (a + H2 j) (bs ++ [49]) := by
  conv => lhs; unfold canM
  rw [if_neg (by rintro (h | h); exact h1 h; exact h2 h)]
theorem canM_perm {S R : List (Int × Int)} (h : Rise S) (j : Nat) (a : Int) (bs : List Nat) : (∀ x y, a ≤ x → x ≤ y → y ≤ a + H2 j → ct S x y + ct R x y = y - x) → (canM S j a bs).Perm (canB S j a bs ++ canB R j a bs) :=
  can_cases h (P := fun j a bs => (∀ x y, a ≤ x → x ≤ y → y ≤ a + H2 j → ct S x y + ct R x y = y - x) → (canM S j a bs).Perm (canB S j a bs ++ canB R j a bs)) j a bs
    (fun j a bs e hc => by
      have hj := H2_pos j
      have := hc a (a + H2 j) (Int.le_refl _) (by omega) (Int.le_refl _)
      rw [canM_one (.inl e), canB_none e, canB_full (by omega : ct R a (a + H2 j) = H2 j)]
      exact List.Perm.refl _)
    (fun j a bs e hc => by
      have hj := H2_pos j
      have := hc a (a + H2 j) (Int.le_refl _) (by omega) (Int.le_refl _)
      rw [canM_one (.inr e), canB_full e, canB_none (by omega : ct R a (a + H2 j) = 0)]
      exact List.Perm.refl _)
    (fun j a bs e1 e2 i1 i2 hc => by
      have hj := H2_pos j
      have hs := H2_succ j
      have := hc a (a + H2 (j + 1)) (Int.le_refl _) (by omega) (Int.le_refl _)
      rw [canM_part e1 e2, canB_part e1 e2, canB_part (by omega : ct R a (a + H2 (j + 1)) ≠ 0) (by omega)]
      refine ((i1 fun x y h1 h2 h3 => hc x y h1 h2 (by omega)).append (i2 fun x y h1 h2 h3 => hc x y (by omega) h2 (by omega))).trans ?_
      rw [List.append_assoc, List.append_assoc]
      refine List.Perm.append_left _ ?_
      rw [← List.append_assoc, ← List.append_assoc]
      exact List.Perm.append_right _ List.perm_append_comm)
/-- the one has a 0 where the other has a 1, all alike ahead of it -/
def Apart (x y : List Nat) : Prop := ∃ c u v, x = c ++ 48 :: u ∧ y = c ++ 49 :: v
theorem canM_pre {S : List (Int × Int)} (h : Rise S) (j : Nat) (a : Int) (bs : List Nat) : ∀ x ∈ canM S j a bs, ∃ u, x = bs ++ u ∧ u.length ≤ j ∧ Bits u :=
  can_cases h (P := fun j a bs => ∀ x ∈ canM S j a bs, ∃ u, x = bs ++ u ∧ u.length ≤ j ∧ Bits u) j a bs
    (fun j a bs e x hx => by
      rw [canM_one (.inl e)] at hx
      exact ⟨[], by rw [List.mem_singleton.mp hx, List.append_nil], Nat.zero_le _, Bits.nil⟩)
    (fun j a bs e x hx => by
      rw [canM_one (.inr e)] at hx
      exact ⟨[], by rw [List.mem_singleton.mp hx, List.append_nil], Nat.zero_le _, Bits.nil⟩)
    (fun j a bs e1 e2 i1 i2 x hx => by
      rw [canM_part e1 e2] at hx
      rcases List.mem_append.mp hx with hx | hx
      · obtain ⟨u, rfl, hl, hb⟩ := i1 x hx
        exact ⟨48 :: u, by simp, Nat.succ_le_succ hl, (Bits.one (by decide)).app hb⟩
      · obtain ⟨u, rfl, hl, hb⟩ := i2 x hx
        exact ⟨49 :: u, by simp, Nat.succ_le_succ hl, (Bits.one (by decide)).app hb⟩)
theorem canM_apart {S : List (Int × Int)} (h : Rise S) (j : Nat) (a : Int) (bs : List Nat) : (canM S j a bs).Pairwise Apart :=
  can_cases h (P := fun j a bs => (canM S j a bs).Pairwise Apart) j a bs
    (fun j a bs e => by rw [canM_one (.inl e)]; exact List.pairwise_singleton _ _)
    (fun j a bs e => by rw [canM_one (.inr e)]; exact List.pairwise_singleton _ _)
    (fun j a bs e1 e2 i1 i2 => by
      rw [canM_part e1 e2]
      refine List.pairwise_append.mpr ⟨i1, i2, fun x hx y hy => ?_⟩
      obtain ⟨u, rfl, _⟩ := canM_pre h _ _ _ x hx
      obtain ⟨v, rfl, _⟩ := canM_pre h _ _ _ y hy
      exact ⟨bs, u, v, by simp, by simp⟩)
/-! ### spans one behind the other -/
def Tile : Int → List (Int × Int) → Int → Prop
  | a, [], e => a = e
  | a, s :: T, e => s.1 = a ∧ s.1 < s.2 ∧ Tile s.2 T e
theorem Tile.app : ∀ {T U : List (Int × Int)} {a m e : Int}, Tile a T m → Tile m U e → Tile a (T ++ U) e
  | [], _, _, _, _, h, k => by cases (show _ = _ from h); exact k
  | _ :: _, _, _, _, _, ⟨h1, h2, h3⟩, k => ⟨h1, h2, Tile.app h3 k⟩
theorem Tile.le : ∀ {T : List (Int × Int)} {a e : Int}, Tile a T e → a ≤ e
  | [], _, _, h => Int.le_of_eq h
  | _ :: _, _, _, ⟨h1, h2, h3⟩ => by have := h3.le; omega
theorem Tile.mem : ∀ {T : List (Int × Int)} {a e : Int}, Tile a T e → ∀ s ∈ T, a ≤ s.1 ∧ s.1 < s.2 ∧ s.2 ≤ e
  | s :: T, a, e, ⟨h1, h2, h3⟩, t, ht => by
    rcases List.mem_cons.mp ht with rfl | ht
    · exact ⟨by omega, h2, h3.le⟩
    · have := h3.mem t ht
      omega
theorem Tile.rise : ∀ {T : List (Int × Int)} {a e : Int}, Tile a T e → Rise T
  | [], _, _, _ => ⟨fun _ h => (List.not_mem_nil h).elim, List.Pairwise.nil⟩
  | s :: T, a, e, h@⟨h1, h2, h3⟩ => ⟨fun t ht => (h.mem t ht).2.1, List.pairwise_cons.mpr ⟨fun t ht => (h3.mem t ht).1, h3.rise.2⟩⟩
theorem Tile.ct : ∀ {T : List (Int × Int)} {a e : Int}, Tile a T e → ∀ x y, ct T x y = max 0 (min y e - max x a)
  | [], a, e, h, x, y => by cases (show _ = _ from h); rw [ct_nil]; omega
  | s :: T, a, e, ⟨h1, h2, h3⟩, x, y => by
    rw [ct_cons, h3.ct]
    have := h3.le
    unfold cn1
    omega
theorem Tile.sum : ∀ {T : List (Int × Int)} {a e : Int}, Tile a T e → (T.map fun s => s.2 - s.1).sum = e - a
  | [], a, e, h => by cases (show _ = _ from h); exact (Int.sub_self _).symm
  | s :: T, a, e, ⟨h1, h2, h3⟩ => by rw [List.map_cons, List.sum_cons, h3.sum]; omega
theorem canM_tile {S : List (Int × Int)} (h : Rise S) {w : Nat} (j : Nat) (a : Int) (bs : List Nat) : bs.length + j = w → a = beg bs j → Tile a ((canM S j a bs).map (spB w)) (a + H2 j) := by
  have one : ∀ (j : Nat) (a : Int) (bs : List Nat), bs.length + j = w → a = beg bs j → Tile a ([bs].map (spB w)) (a + H2 j) := fun j a bs hl ha => by
    rw [List.map_cons, spB_at hl, ← ha]
    exact ⟨rfl, by have := H2_pos j; show a < a + H2 j; omega, rfl⟩
  exact can_cases h (P := fun j a bs => bs.length + j = w → a = beg bs j → Tile a ((canM S j a bs).map (spB w)) (a + H2 j)) j a bs
    (fun j a bs e hl ha => by rw [canM_one (.inl e)]; exact one j a bs hl ha)
    (fun j a bs e hl ha => by rw [canM_one (.inr e)]; exact one j a bs hl ha)
    (fun j a bs e1 e2 i1 i2 hl ha => by
      have hs := H2_succ j
      rw [canM_part e1 e2, List.map_append]
      have k2 := i2 (by rw [List.length_append]; show _ + 1 + _ = _; omega) (by rw [beg1, ha])
      rw [show a + H2 j + H2 j = a + H2 (j + 1) by omega] at k2
      exact (i1 (by rw [List.length_append]; show _ + 1 + _ = _; omega) (by rw [beg0]; exact ha)).app k2)
end G
/-! Plain laws: what many laws' texts share. -/
namespace G
open PySem PySem.Spec PyProof.Rows L2 TL
def spanL (w : Nat) (bs : List Nat) : Nat × Nat := (wr bs * 2 ^ (w - bs.length), (wr bs + 1) * 2 ^ (w - bs.length))
theorem notF {α : Type} {a b : α} : (if (!false) = true then a else b) = a := rfl
theorem bin_wr {bs : List Nat} (h : Bits bs) : bin bs.length (wr bs) = bs :=
  wr_inj (bin_bits _ _) h (bin_len _ _) (by rw [wr_bin, Nat.mod_eq_of_lt (wr_lt bs)])
/-! ### the widest block from an address on -/
theorem shlI_w {w J : Nat} (h : J ≤ 60) : shlI (1 : Int) ((w : Int) - ((w : Int) - (J : Int))) = some (H2 J) := by
  rw [show (w : Int) - ((w : Int) - (J : Int)) = (J : Nat) by omega]
  exact shlI_one (by omega)
theorem mod_up {a : Int} {j k : Nat} (h : a % H2 k = 0) (hk : j ≤ k) : a % H2 j = 0 := by
  obtain ⟨d, rfl⟩ := Nat.exists_eq_add_of_le hk
  have : H2 (j + d) = H2 j * H2 d := by show ((2 ^ (j + d) : Nat) : Int) = _; rw [Nat.pow_add, Int.natCast_mul]
  rw [this] at h
  exact Int.emod_eq_zero_of_dvd (Int.dvd_trans (Int.dvd_mul_right _ _) (Int.dvd_of_emod_eq_zero h))
theorem H2_mono {j k : Nat} (h : j ≤ k) : H2 j ≤ H2 k := Int.ofNat_le.mpr (Nat.pow_le_pow_right (by decide) h)
theorem beg_mod (bs : List Nat) (j : Nat) : beg bs j % H2 j = 0 := by
  unfold beg
  rw [Int.natCast_mul]
  exact Int.mul_emod_left _ _
theorem appL_some {α : Type} {l : List α} {x : α} (h : l.length ≤ 1000000) : appL l x = some (l ++ [x]) := by unfold appL; rw [if_pos (by rw [sizeLine_eq]; omega)]
theorem setL_last {α : Type} (F : List α) (x y : α) : setL (F ++ [x]) (-1) y = some (F ++ [y]) := by
  unfold setL ixN
  rw [List.length_append]
  show Option.map _ (if (0 : Int) ≤ -1 then _ else if -((F.length + 1 : Nat) : Int) ≤ -1 then _ else none) = _
  rw [if_neg (by omega), if_pos (by omega)]
  show some ((F ++ [x]).set (-1 + ((F.length + 1 : Nat) : Int)).toNat y) = _
  rw [show (-1 + ((F.length + 1 : Nat) : Int)).toNat = F.length by omega, List.set_append_right _ _ (Nat.le_refl _), Nat.sub_self]
  rfl
theorem gaps_snoc {F : List (Int × Int)} {x : Int × Int} (h : Gaps F) (hx : x.1 < x.2) (hb : ∀ s ∈ F, s.2 < x.1) : Gaps (F ++ [x]) :=
  ⟨fun s hs => (List.mem_append.mp hs).elim (h.1 s) fun e => by rw [List.mem_singleton.mp e]; exact hx,
   List.pairwise_append.mpr ⟨h.2, List.pairwise_singleton _ _, fun s hs t ht => by rw [List.mem_singleton.mp ht]; exact hb s hs⟩⟩
/-! ### drawn stretches -/
theorem rangeL_succ (n : Int) (k : Nat) : rangeL n (k + 1) = n :: rangeL (n + 1) k := by
  unfold rangeL
  rw [List.range_succ_eq_map, List.map_cons, List.map_map]
  congr 1
  · omega
  · refine List.map_congr_left fun i _ => ?_
    show n + ((i + 1 : Nat) : Int) = n + 1 + (i : Nat)
    omega
theorem ins_len (k : Int) : ∀ l : List Int, (ins k l).length ≤ l.length + 1
  | [] => Nat.le_refl _
  | x :: l => by
    unfold ins
    split
    · exact Nat.le_refl _
    · split
      · exact Nat.le_succ _
      · exact Nat.succ_le_succ (ins_len k l)
theorem ssort_len : ∀ l : List Int, (ssort l).length ≤ l.length
  | [] => Nat.le_refl _
  | x :: l => Nat.le_trans (ins_len x (ssort l)) (Nat.succ_le_succ (ssort_len l))
theorem rangeL_add : ∀ (a : Nat) (n : Int) (c : Nat), rangeL n (a + c) = rangeL n a ++ rangeL (n + (a : Nat)) c
  | 0, n, c => by
    rw [Nat.zero_add, show n + ((0 : Nat) : Int) = n by omega]
    rfl
  | a + 1, n, c => by
    rw [show a + 1 + c = (a + c) + 1 by omega, rangeL_succ, rangeL_succ, rangeL_add a (n + 1) c, List.cons_append, show n + 1 + (a : Nat) = n + ((a + 1 : Nat) : Int) by omega]
theorem map_tl_inj : ∀ {xs ys : List Str}, xs.map tl = ys.map tl → xs = ys
  | [], [], _ => rfl
  | [], _ :: _, h => nomatch h
  | _ :: _, [], h => nomatch h
  | x :: xs, y :: ys, h => by
    obtain ⟨h1, h2⟩ := List.cons.inj h
    rw [tl_inj h1, map_tl_inj h2]
/-! ### spans of patterns, by their texts -/
def bsOf (x : Str) : List Nat := (tl x).takeWhile isB
theorem bsOf_pat {w : Nat} {bs : List Nat} {x : Str} (p : Pat w bs x) : bsOf x = bs := by
  unfold bsOf
  rw [p.eq, patL]
  have h : ∀ (l r : List Nat), Bits l → (∀ c, r.head? = some c → isB c = false) → (l ++ r).takeWhile isB = l := by
    intro l r hl hr
    induction l with
    | nil => exact tw0 r hr
    | cons c l ih =>
      show List.takeWhile isB (c :: (l ++ r)) = _
      rw [List.takeWhile_cons, if_pos (hl c (List.mem_cons_self ..)), ih fun d hd => hl d (List.mem_cons_of_mem _ hd)]
  refine h bs _ p.bits fun c hc => ?_
  split at hc
  · have : c = 42 := (Option.some.inj hc).symm
    subst this
    decide
  · cases hc
def spI (w : Nat) (x : Str) : Int × Int := (((spanL w (bsOf x)).1 : Int), ((spanL w (bsOf x)).2 : Int))
def IsPat (w : Nat) (x : Str) : Prop := ∃ bs, Pat w bs x
theorem spI_ok {w : Nat} {x : Str} (p : IsPat w x) : 0 ≤ (spI w x).1 ∧ (spI w x).1 < (spI w x).2 ∧ (spI w x).2 ≤ ((2 ^ w : Nat) : Int) := by
  obtain ⟨bs, p⟩ := p
  unfold spI
  rw [bsOf_pat p]
  have h1 := wr_lt bs
  have hle := p.le
  have h2 : 2 ^ bs.length * 2 ^ (w - bs.length) = 2 ^ w := by rw [← Nat.pow_add]; congr 1; omega
  have h3 : (wr bs + 1) * 2 ^ (w - bs.length) ≤ 2 ^ bs.length * 2 ^ (w - bs.length) := Nat.mul_le_mul_right _ h1
  have h4 : 0 < 2 ^ (w - bs.length) := Nat.two_pow_pos _
  refine ⟨Int.natCast_nonneg _, ?_, ?_⟩
  · show ((wr bs * 2 ^ (w - bs.length) : Nat) : Int) < (((wr bs + 1) * 2 ^ (w - bs.length) : Nat) : Int)
    rw [Nat.add_mul, Nat.one_mul]
    omega
  · show (((wr bs + 1) * 2 ^ (w - bs.length) : Nat) : Int) ≤ _
    omega
/-! ### edges -/
def flat2 (S : List (Int × Int)) : List Int := S.flatMap fun s => [s.1, s.2]
theorem mem_flat2 {S : List (Int × Int)} {k : Int} : k ∈ flat2 S ↔ ∃ s ∈ S, k = s.1 ∨ k = s.2 := by
  unfold flat2
  simp [List.mem_flatMap]
theorem flat2_len (S : List (Int × Int)) : (flat2 S).length = 2 * S.length := by
  induction S with
  | nil => rfl
  | cons s S ih =>
    show ([s.1, s.2] ++ flat2 S).length = _
    rw [List.length_append, ih]
    show 2 + 2 * S.length = 2 * (S.length + 1)
    omega
/-- neighbours -/
def prsL : List Int → List (Int × Int)
  | x :: y :: r => (x, y) :: prsL (y :: r)
  | _ => []
theorem zip_prs : ∀ l : List Int, List.zip l (l.drop 1) = prsL l
  | [] => rfl
  | [_] => rfl
  | x :: y :: r => by
    show (x, y) :: List.zip (y :: r) r = _
    have := zip_prs (y :: r)
    exact congrArg _ this
def edgesOf (w : Nat) (S : List (Int × Int)) : List Int := ssort ([0, ((2 ^ w : Nat) : Int)] ++ flat2 S)
/-! ### what stands in which -/
def hereL (S : List (Int × Int)) (f b : Int) : List Bool := S.map fun s => (decide (s.1 ≤ f)) && (decide (b ≤ s.2))
def apartL (S : List (Int × Int)) (f b : Int) : List Bool := S.map fun s => (decide (b ≤ s.1)) || (decide (s.2 ≤ f))
/-- no edge lies between -/
def Gap (S : List (Int × Int)) (f b : Int) : Prop := f < b ∧ ∀ s ∈ S, s.1 < s.2 ∧ (s.1 ≤ f ∨ b ≤ s.1) ∧ (s.2 ≤ f ∨ b ≤ s.2)
/-- at an edge what stands changes -/
theorem here_ne {S : List (Int × Int)} {p e b : Int} (g1 : Gap S p e) (g2 : Gap S e b) (he : ∃ s ∈ S, e = s.1 ∨ e = s.2) : hereL S e b ≠ hereL S p e := by
  obtain ⟨s, hs, h⟩ := he
  intro z
  have := List.map_eq_map_iff.mp z s hs
  rw [Bool.eq_iff_iff, Bool.and_eq_true, Bool.and_eq_true, decide_eq_true_iff, decide_eq_true_iff, decide_eq_true_iff, decide_eq_true_iff] at this
  obtain ⟨f1, k1⟩ := g1
  obtain ⟨f2, k2⟩ := g2
  obtain ⟨a1, a2, a3⟩ := k1 s hs
  obtain ⟨b1, b2, b3⟩ := k2 s hs
  omega
def El (S : List (Int × Int)) (e : Int) (o : Option (List Bool)) : Prop := o = none ∨ ∃ p, Gap S p e ∧ o = some (hereL S p e) ∧ ∃ s ∈ S, e = s.1 ∨ e = s.2
theorem El.ne {S : List (Int × Int)} {e b : Int} {o : Option (List Bool)} (h : El S e o) (g : Gap S e b) : some (hereL S e b) ≠ o := by
  rcases h with rfl | ⟨p, g1, rfl, hs⟩
  · exact fun z => nomatch z
  · exact fun z => here_ne g1 g hs (Option.some.inj z)
theorem rangeO_len {n : Nat} (h : n ≤ 16777216) : rangeO1 (n : Int) = some (rangeL 0 n) := by
  unfold rangeO1
  rw [if_pos ⟨by omega, by rw [sizeLine_eq]; omega⟩, Int.toNat_natCast]
theorem mem_rangeL {n : Nat} {k : Int} (h : k ∈ rangeL 0 n) : 0 ≤ k ∧ k < (n : Nat) := by
  unfold rangeL at h
  obtain ⟨i, hi, rfl⟩ := List.mem_map.mp h
  have := List.mem_range.mp hi
  omega
/-! ### the edges of a row of spans -/
structure SpOk (w : Nat) (S : List (Int × Int)) : Prop where
  ok : ∀ s ∈ S, 0 ≤ s.1 ∧ s.1 < s.2 ∧ s.2 ≤ ((2 ^ w : Nat) : Int)
theorem prs_adj : ∀ {l : List Int} {f b : Int}, l.Pairwise (· < ·) → (f, b) ∈ prsL l → f < b ∧ ∀ x ∈ l, x ≤ f ∨ b ≤ x
  | [], _, _, _, h => nomatch h
  | [_], _, _, _, h => nomatch h
  | x :: y :: r, f, b, hp, h => by
    obtain ⟨h1, h2⟩ := List.pairwise_cons.mp hp
    rcases List.mem_cons.mp (show (f, b) ∈ (x, y) :: prsL (y :: r) from h) with e | h
    · have e1 : f = x := congrArg Prod.fst e
      have e2 : b = y := congrArg Prod.snd e
      subst e1 e2
      refine ⟨h1 b (List.mem_cons_self ..), fun z hz => ?_⟩
      rcases List.mem_cons.mp hz with rfl | hz
      · exact .inl (Int.le_refl _)
      · rcases List.mem_cons.mp hz with rfl | hz
        · exact .inr (Int.le_refl _)
        · have := (List.pairwise_cons.mp h2).1 z hz
          exact .inr (by omega)
    · obtain ⟨k1, k2⟩ := prs_adj h2 h
      have hf : f ∈ y :: r := prs_mem h
      have hxf := h1 f hf
      refine ⟨k1, fun z hz => ?_⟩
      rcases List.mem_cons.mp hz with rfl | hz
      · exact .inl (by omega)
      · exact k2 z hz
where
  prs_mem : ∀ {l : List Int} {f b : Int}, (f, b) ∈ prsL l → f ∈ l
    | [], _, _, h => nomatch h
    | [_], _, _, h => nomatch h
    | x :: y :: r, f, b, h => by
      rcases List.mem_cons.mp (show (f, b) ∈ (x, y) :: prsL (y :: r) from h) with e | h
      · have e1 : f = x := congrArg Prod.fst e
        subst e1
        exact List.mem_cons_self ..
      · exact List.mem_cons_of_mem _ (prs_mem h)
theorem edges_facts {w : Nat} {S : List (Int × Int)} (h : SpOk w S) : ∃ l, edgesOf w S = 0 :: l ∧ (∀ q ∈ prsL (0 :: l), Gap S q.1 q.2) ∧ (∀ k ∈ l.dropLast, ∃ s ∈ S, k = s.1 ∨ k = s.2) ∧ (0 :: l).getLast? = some ((2 ^ w : Nat) : Int) ∧ l ≠ [] := by
  have hs := ssort_sorted ([0, ((2 ^ w : Nat) : Int)] ++ flat2 S)
  have hm : ∀ k, k ∈ edgesOf w S ↔ k = 0 ∨ k = ((2 ^ w : Nat) : Int) ∨ ∃ s ∈ S, k = s.1 ∨ k = s.2 := fun k => by
    unfold edgesOf
    rw [ssort_mem, List.mem_append, mem_flat2]
    simp only [List.mem_cons, List.not_mem_nil, or_false, or_assoc]
  have hW : (0 : Int) < ((2 ^ w : Nat) : Int) := by have := Nat.two_pow_pos w; omega
  have hlo : ∀ k ∈ edgesOf w S, 0 ≤ k ∧ k ≤ ((2 ^ w : Nat) : Int) := fun k hk => by
    rcases (hm k).mp hk with rfl | rfl | ⟨s, hs, rfl | rfl⟩
    · omega
    · omega
    · have := h.ok s hs; omega
    · have := h.ok s hs; omega
  change (edgesOf w S).Pairwise (· < ·) at hs
  have h0 := (hm 0).mpr (.inl rfl)
  have hWm := (hm ((2 ^ w : Nat) : Int)).mpr (.inr (.inl rfl))
  generalize edgesOf w S = E at hs hm hlo h0 hWm
  cases E with
  | nil => cases h0
  | cons x l =>
    obtain ⟨s1, s2⟩ := List.pairwise_cons.mp hs
    have ex : x = 0 := by
      rcases List.mem_cons.mp h0 with e | e
      · exact e.symm
      · have := s1 0 e
        have := hlo x (List.mem_cons_self ..)
        omega
    subst ex
    have hne : l ≠ [] := fun e => by
      subst e
      have := List.mem_singleton.mp hWm
      omega
    have hlast : (0 :: l).getLast? = some ((2 ^ w : Nat) : Int) := by
      obtain ⟨m, z, rfl⟩ : ∃ m z, l = m ++ [z] := ⟨l.dropLast, l.getLast hne, (List.dropLast_concat_getLast hne).symm⟩
      have hz : z = ((2 ^ w : Nat) : Int) := by
        rcases List.mem_cons.mp hWm with e | e
        · omega
        · rcases List.mem_append.mp e with e | e
          · have h3 := (List.pairwise_append.mp s2).2.2 _ e z (List.mem_singleton.mpr rfl)
            have := hlo z (List.mem_cons_of_mem _ (List.mem_append.mpr (.inr (List.mem_singleton.mpr rfl))))
            omega
          · exact (List.mem_singleton.mp e).symm
      subst hz
      rw [← List.cons_append]
      exact List.getLast?_concat
    refine ⟨l, rfl, fun q hq => ?_, fun k hk => ?_, hlast, hne⟩
    · obtain ⟨k1, k2⟩ := prs_adj hs hq
      exact ⟨k1, fun s hs2 => ⟨(h.ok s hs2).2.1, k2 s.1 ((hm s.1).mpr (.inr (.inr ⟨s, hs2, .inl rfl⟩))), k2 s.2 ((hm s.2).mpr (.inr (.inr ⟨s, hs2, .inr rfl⟩)))⟩⟩
    · rcases (hm k).mp (List.mem_cons_of_mem _ (List.dropLast_subset _ hk)) with rfl | rfl | e
      · have := s1 0 (List.dropLast_subset _ hk); omega
      · exfalso
        obtain ⟨m, z, rfl⟩ : ∃ m z, l = m ++ [z] := ⟨l.dropLast, l.getLast hne, (List.dropLast_concat_getLast hne).symm⟩
        rw [List.dropLast_concat] at hk
        have h3 := (List.pairwise_append.mp s2).2.2 _ hk z (List.mem_singleton.mpr rfl)
        have := hlo z (List.mem_cons_of_mem _ (List.mem_append.mpr (.inr (List.mem_singleton.mpr rfl))))
        omega
      · exact e
theorem spOk {w : Nat} {ps : List Str} (h : ∀ p ∈ ps, IsPat w p) : SpOk w (ps.map (spI w)) := ⟨fun s hs => by
  obtain ⟨p, hp, rfl⟩ := List.mem_map.mp hs
  exact spI_ok (h p hp)⟩
theorem prs_len : ∀ l : List Int, (prsL l).length ≤ l.length
  | [] => Nat.le_refl _
  | [_] => Nat.zero_le _
  | x :: y :: r => by
    show (prsL (y :: r)).length + 1 ≤ (y :: r).length + 1
    exact Nat.succ_le_succ (prs_len (y :: r))
end G
/-! Plain laws: patterns written out of signs; sorted texts; tiles and parts. -/
namespace G
open PySem PySem.Spec PyProof.Rows L2 TL
theorem conL_some {α : Type} {a b : List α} (h : a.length + b.length ≤ 1000000) : conL a b = some (a ++ b) := by unfold conL; rw [if_pos (by rw [sizeLine_eq]; omega)]
section
variable {α β γ R T : Type} {g : R → Option T}
theorem bL0_go {f : Option T} : bindL0 (some (.go ())) f g = f := rfl
theorem bL1_go {f : α → Option T} {a : α} : bindL1 (some (.go a)) f g = f a := rfl
theorem bL2_go {f : α → β → Option T} {a : α} {b : β} : bindL2 (some (.go (a, b))) f g = f a b := rfl
theorem bL3_go {f : α → β → γ → Option T} {a : α} {b : β} {c : γ} : bindL3 (some (.go (a, b, c))) f g = f a b c := rfl
end
theorem shlI_H {k : Nat} (h : k ≤ 1000000) : shlI 1 (k : Int) = some (H2 k) := shlI_one h
theorem rangeO_1 {n : Nat} (h : n ≤ 1000000) : rangeO (1 : Int) ((n : Nat) : Int) = some (rangeL 1 (n - 1)) := by
  unfold rangeO
  rw [if_pos ⟨by omega, by rw [sizeLine_eq]; omega⟩, show (((n : Nat) : Int) - 1).toNat = n - 1 by omega]
theorem mem_range1 {n : Nat} {k : Int} (h : k ∈ rangeL 1 (n - 1)) : ∃ i : Nat, k = ((i + 1 : Nat) : Int) ∧ i + 1 < n := by
  unfold rangeL at h
  obtain ⟨i, hi, rfl⟩ := List.mem_map.mp h
  have := List.mem_range.mp hi
  exact ⟨i, by omega, by omega⟩
/-- texts that write the patterns of some signs -/
structure Pats (w : Nat) (us : List (List Nat)) (ys : List Str) : Prop where
  eq : ys.map tl = us.map (patL w)
  ok : ∀ u ∈ us, Bits u ∧ u.length ≤ w
theorem Pats.app {w : Nat} {us vs : List (List Nat)} {ys zs : List Str} (h : Pats w us ys) (k : Pats w vs zs) : Pats w (us ++ vs) (ys ++ zs) :=
  ⟨by rw [List.map_append, List.map_append, h.eq, k.eq], fun u hu => (List.mem_append.mp hu).elim (h.ok u) (k.ok u)⟩
theorem Pats.len {w : Nat} {us : List (List Nat)} {ys : List Str} (h : Pats w us ys) : ys.length = us.length := by
  have := congrArg List.length h.eq
  rwa [List.length_map, List.length_map] at this
theorem Pats.tail {w : Nat} {u : List Nat} {us : List (List Nat)} {y : Str} {ys : List Str} (h : Pats w (u :: us) (y :: ys)) : Pat w u y ∧ Pats w us ys := by
  have e := h.eq
  rw [List.map_cons, List.map_cons] at e
  obtain ⟨e1, e2⟩ := List.cons.inj e
  have := h.ok u (List.mem_cons_self ..)
  exact ⟨⟨this.1, this.2, e1⟩, e2, fun v hv => h.ok v (List.mem_cons_of_mem _ hv)⟩
theorem Pats.rec_ {w : Nat} {P : List (List Nat) → List Str → Prop} (h0 : P [] []) (h1 : ∀ u us y ys, Pat w u y → Pats w us ys → P us ys → P (u :: us) (y :: ys)) : ∀ {us ys}, Pats w us ys → P us ys
  | [], [], _ => h0
  | [], _ :: _, h => nomatch h.len
  | _ :: _, [], h => nomatch h.len
  | u :: us, y :: ys, h => h1 u us y ys h.tail.1 h.tail.2 (Pats.rec_ h0 h1 h.tail.2)
theorem Pats.each {w : Nat} {us : List (List Nat)} {ys : List Str} (h : Pats w us ys) : ∀ y ∈ ys, IsPat w y :=
  Pats.rec_ (P := fun us ys => ∀ y ∈ ys, IsPat w y) (fun _ h => nomatch h) (fun u us y ys p _ ih z hz => by
    rcases List.mem_cons.mp hz with rfl | hz
    · exact ⟨u, p⟩
    · exact ih z hz) h
theorem spI_spB {w : Nat} {u : List Nat} {y : Str} (p : Pat w u y) : spI w y = spB w u := by
  unfold spI spB spanL
  rw [bsOf_pat p]
  refine Prod.ext rfl ?_
  show (((wr u + 1) * 2 ^ (w - u.length) : Nat) : Int) = ((wr u * 2 ^ (w - u.length) : Nat) : Int) + ((2 ^ (w - u.length) : Nat) : Int)
  rw [Nat.add_mul, Nat.one_mul, Int.natCast_add]
theorem Pats.spans {w : Nat} {us : List (List Nat)} {ys : List Str} (h : Pats w us ys) : ys.map (spI w) = us.map (spB w) :=
  Pats.rec_ (P := fun us ys => ys.map (spI w) = us.map (spB w)) rfl (fun u us y ys p _ ih => by rw [List.map_cons, List.map_cons, ih, spI_spB p]) h
theorem Pats.strip {w : Nat} {us : List (List Nat)} {ys : List Str} (h : Pats w us ys) : (ys.map fun y => Txt.stripChars y ("*" : Str)).map tl = us :=
  Pats.rec_ (P := fun us ys => (ys.map fun y => Txt.stripChars y ("*" : Str)).map tl = us) rfl (fun u us y ys p _ ih => by rw [List.map_cons, List.map_cons, ih, p.strip]) h
/-- the leaves of all addresses -/
theorem canB_root {S : List (Int × Int)} (h : Rise S) (w : Nat) : ∀ u ∈ canB S w 0 [], Bits u ∧ u.length ≤ w := fun u hu => by
  obtain ⟨v, rfl, h1, h2, _⟩ := canB_pre h w 0 [] u hu
  exact ⟨h2, h1⟩
theorem can_pats {S : List (Int × Int)} (h : Rise S) {w : Nat} {ys : List Str} (e : ys.map tl = can S w 0 []) : Pats w (canB S w 0 []) ys :=
  ⟨by rw [e, can_canB h w 0 [] (Nat.zero_add w)], canB_root h w⟩
theorem can_len0 {S : List (Int × Int)} (h : Rise S) (w : Nat) : (can S w 0 []).length ≤ 1 + w * (2 * S.length) := by
  have h1 := can_len h w 0 []
  exact Nat.le_trans h1 (Nat.add_le_add_left (Nat.mul_le_mul_left _ (ends_le _ _ _)) 1)
/-! ### sorted texts -/
theorem Apart.le {x y : List Nat} (h : Apart x y) : x ≤ y := by
  obtain ⟨c, u, v, rfl, rfl⟩ := h
  refine List.le_of_lt ?_
  induction c with
  | nil => exact List.Lex.rel (by decide)
  | cons a c ih => exact List.Lex.cons ih
theorem Apart.take {x y : List Nat} (h : Apart x y) : y.take x.length ≠ x := by
  obtain ⟨c, u, v, rfl, rfl⟩ := h
  intro e
  have h1 : (c ++ 49 :: v).take (c ++ 48 :: u).length = c ++ (49 :: v).take (u.length + 1) := by
    rw [List.length_append, List.take_length_add_append]
    rfl
  rw [h1] at e
  have := List.append_cancel_left e
  rw [List.take_succ_cons] at this
  exact absurd (List.cons.inj this).1 (by decide)
theorem sortT_map {L : List Str} {C : List (List Nat)} (hp : (L.map tl).Perm C) (hs : C.Pairwise fun a b => a ≤ b) : (sortT L).map tl = C := by
  have h1 : ((sortT L).map tl).Perm C := ((sortT_perm L).map tl).trans hp
  have h2 : ((sortT L).map tl).Pairwise fun a b => a ≤ b := List.pairwise_map.mpr ((sortT_sorted L).imp fun h => of_decide_eq_true h)
  exact h1.eq_of_pairwise (le := fun a b => a ≤ b) (fun a b _ _ h3 h4 => List.le_antisymm h3 h4) h2 hs
/-! ### tiles -/
theorem Tile.sortP {T U : List (Int × Int)} {a e : Int} (h : Tile a T e) (hp : T.Perm U) : sortP U = T :=
  sortP_uniq hp (h.rise.2.imp_of_mem fun {s t} hs ht k => decide_eq_true (.inl (by have := (h.mem s hs).2.1; omega)))
theorem Tile.prs : ∀ {T : List (Int × Int)} {a e : Int}, Tile a T e → prsL (a :: T.map (·.2)) = T
  | [], _, _, _ => rfl
  | [s], a, e, ⟨h1, h2, h3⟩ => by
    show [(a, s.2)] = [s]
    rw [← h1]
  | s :: t :: T, a, e, ⟨h1, h2, h3⟩ => by
    show (a, s.2) :: prsL (s.2 :: (t :: T).map (·.2)) = _
    rw [Tile.prs h3, ← h1]
theorem Tile.ends_mem : ∀ {T : List (Int × Int)} {a e k : Int}, Tile a T e → (k ∈ a :: T.map (·.2) ↔ k = a ∨ k = e ∨ ∃ s ∈ T, k = s.1 ∨ k = s.2)
  | [], a, e, k, h => by
    cases (show _ = _ from h)
    simp
  | s :: T, a, e, k, ⟨h1, h2, h3⟩ => by
    have ih := Tile.ends_mem (k := k) h3
    rw [List.map_cons]
    constructor
    · intro h
      rcases List.mem_cons.mp h with rfl | h
      · exact .inl rfl
      · rcases ih.mp h with rfl | rfl | ⟨t, ht, hk⟩
        · exact .inr (.inr ⟨s, List.mem_cons_self .., .inr rfl⟩)
        · exact .inr (.inl rfl)
        · exact .inr (.inr ⟨t, List.mem_cons_of_mem _ ht, hk⟩)
    · rintro (rfl | rfl | ⟨t, ht, hk⟩)
      · exact List.mem_cons_self ..
      · exact List.mem_cons_of_mem _ (ih.mpr (.inr (.inl rfl)))
      · rcases List.mem_cons.mp ht with rfl | ht
        · rcases hk with rfl | rfl
          · rw [h1]; exact List.mem_cons_self ..
          · exact List.mem_cons_of_mem _ (List.mem_cons_self ..)
        · exact List.mem_cons_of_mem _ (ih.mpr (.inr (.inr ⟨t, ht, hk⟩)))
theorem Tile.sorted : ∀ {T : List (Int × Int)} {a e : Int}, Tile a T e → (a :: T.map (·.2)).Pairwise (· < ·)
  | [], a, e, _ => List.pairwise_singleton _ _
  | s :: T, a, e, ⟨h1, h2, h3⟩ => by
    have ih := Tile.sorted h3
    refine List.pairwise_cons.mpr ⟨fun k hk => ?_, ih⟩
    rw [List.map_cons] at hk
    rcases List.mem_cons.mp hk with rfl | hk
    · omega
    · have := (List.pairwise_cons.mp ih).1 k hk
      omega
/-- the parts of tiles are the tiles -/
theorem Tile.parts {T U : List (Int × Int)} {w : Nat} (h : Tile 0 T (H2 w)) (hp : ∀ s, s ∈ U ↔ s ∈ T) : prsL (edgesOf w U) = T := by
  have e : edgesOf w U = 0 :: T.map (·.2) := by
    unfold edgesOf
    refine ssort_uniq h.sorted fun k => ?_
    rw [h.ends_mem, List.mem_append, mem_flat2]
    simp only [List.mem_cons, List.not_mem_nil, or_false, or_assoc, hp]
  rw [e, h.prs]
/-! ### the one leaf of all -/
theorem can_all {S : List (Int × Int)} {w : Nat} (h : ct S 0 (0 + H2 w) = H2 w) (hw : 1 ≤ w) : can S w 0 [] = [[42]] := by
  rw [can_full h]
  unfold leaf
  rw [if_neg (by omega)]
  rfl
theorem star_eq {ys : List Str} (h : ys.map tl = [[42]]) : ys = [("*" : Str)] := map_tl_inj (by rw [h, List.map_cons, tlStar]; rfl)
theorem Tile.all {T : List (Int × Int)} {w : Nat} (h : Tile 0 T (H2 w)) : G.ct T 0 (0 + H2 w) = H2 w := by
  rw [h.ct]
  have := H2_pos w
  omega
theorem prs_tile : ∀ {l : List Int} {a z : Int}, (a :: l).Pairwise (· < ·) → (a :: l).getLast? = some z → Tile a (prsL (a :: l)) z
  | [], a, z, _, hz => Option.some.inj hz
  | b :: l, a, z, hp, hz => by
    obtain ⟨h1, h2⟩ := List.pairwise_cons.mp hp
    refine ⟨rfl, h1 b (List.mem_cons_self ..), prs_tile h2 ?_⟩
    rw [List.getLast?_cons_cons] at hz
    exact hz
theorem parts_tile {w : Nat} {S : List (Int × Int)} (h : SpOk w S) : Tile 0 (prsL (edgesOf w S)) (H2 w) := by
  obtain ⟨l, e1, _, _, e4, _⟩ := edges_facts h
  have hs := ssort_sorted ([0, ((2 ^ w : Nat) : Int)] ++ flat2 S)
  change (edgesOf w S).Pairwise (· < ·) at hs
  rw [e1] at hs ⊢
  exact prs_tile hs e4
/-! ### an address in spans -/
theorem cn1_at (s : Int × Int) (n : Int) : cn1 s n (n + 1) = if ((decide (s.1 ≤ n)) && (decide (n < s.2))) = true then 1 else 0 := by
  unfold cn1
  by_cases h : s.1 ≤ n ∧ n < s.2
  · rw [decide_eq_true h.1, decide_eq_true h.2, if_pos (show (true && true) = true from rfl)]
    omega
  · rw [if_neg (by rw [Bool.and_eq_true, decide_eq_true_iff, decide_eq_true_iff]; exact h)]
    omega
end G
/-! Plain laws: how the signs of two patterns stand to one another. -/
namespace G
open PySem PySem.Spec PyProof.Rows L2 TL
theorem signs_cmp : ∀ (u v : List Nat), Bits u → Bits v → (∃ r, v = u ++ r) ∨ (∃ r, r ≠ [] ∧ u = v ++ r) ∨ Apart u v ∨ Apart v u
  | [], v, _, _ => .inl ⟨v, rfl⟩
  | a :: u, [], _, _ => .inr (.inl ⟨a :: u, by simp, rfl⟩)
  | a :: u, b :: v, hu, hv => by
    have ha := isB_iff.mp (hu a (List.mem_cons_self ..))
    have hb := isB_iff.mp (hv b (List.mem_cons_self ..))
    have diff : a ≠ b → (a = 48 ∧ b = 49) ∨ (b = 48 ∧ a = 49) := fun h => by omega
    by_cases h : a = b
    · subst h
      rcases signs_cmp u v (fun c hc => hu c (List.mem_cons_of_mem _ hc)) (fun c hc => hv c (List.mem_cons_of_mem _ hc)) with ⟨r, rfl⟩ | ⟨r, h1, rfl⟩ | ⟨c, p, q, rfl, rfl⟩ | ⟨c, p, q, rfl, rfl⟩
      · exact .inl ⟨r, rfl⟩
      · exact .inr (.inl ⟨r, h1, rfl⟩)
      · exact .inr (.inr (.inl ⟨a :: c, p, q, rfl, rfl⟩))
      · exact .inr (.inr (.inr ⟨a :: c, p, q, rfl, rfl⟩))
    · rcases diff h with ⟨rfl, rfl⟩ | ⟨rfl, rfl⟩
      · exact .inr (.inr (.inl ⟨[], u, v, rfl, rfl⟩))
      · exact .inr (.inr (.inr ⟨[], v, u, rfl, rfl⟩))
theorem spB_lt (w : Nat) (u : List Nat) : (spB w u).1 < (spB w u).2 := by
  unfold spB
  have := H2_pos (w - u.length)
  show beg u _ < beg u _ + H2 _
  omega
/-- what goes on from some signs lies within -/
theorem spB_nest {w : Nat} {u r : List Nat} (h : (u ++ r).length ≤ w) : (spB w u).1 ≤ (spB w (u ++ r)).1 ∧ (spB w (u ++ r)).2 ≤ (spB w u).2 := by
  rw [List.length_append] at h
  have hr := wr_lt r
  have e1 : beg (u ++ r) (w - (u ++ r).length) = ((wr u * 2 ^ (w - u.length) + wr r * 2 ^ (w - (u ++ r).length) : Nat) : Int) := by
    unfold beg
    rw [wr_app, List.length_append, Nat.add_mul, Nat.mul_assoc, ← Nat.pow_add, show r.length + (w - (u.length + r.length)) = w - u.length by omega]
  have e2 : 2 ^ r.length * 2 ^ (w - (u ++ r).length) = 2 ^ (w - u.length) := by
    rw [← Nat.pow_add, List.length_append, show r.length + (w - (u.length + r.length)) = w - u.length by omega]
  have e3 : (wr r + 1) * 2 ^ (w - (u ++ r).length) ≤ 2 ^ r.length * 2 ^ (w - (u ++ r).length) := Nat.mul_le_mul_right _ hr
  rw [e2, Nat.add_mul, Nat.one_mul] at e3
  unfold spB
  rw [e1]
  show ((wr u * 2 ^ (w - u.length) : Nat) : Int) ≤ _ ∧ _ + ((2 ^ (w - (u ++ r).length) : Nat) : Int) ≤ ((wr u * 2 ^ (w - u.length) : Nat) : Int) + ((2 ^ (w - u.length) : Nat) : Int)
  generalize 2 ^ (w - (u ++ r).length) = x at *
  generalize wr r * x = y at *
  generalize 2 ^ (w - u.length) = z at *
  generalize wr u * z = t at *
  omega
theorem spB_apart {w : Nat} {u v : List Nat} (h : Apart u v) (hu : u.length ≤ w) (hv : v.length ≤ w) : (spB w u).2 ≤ (spB w v).1 := by
  obtain ⟨c, p, q, rfl, rfl⟩ := h
  have e1 : c ++ 48 :: p = (c ++ [48]) ++ p := by simp
  have e2 : c ++ 49 :: q = (c ++ [49]) ++ q := by simp
  rw [e1] at hu ⊢
  rw [e2] at hv ⊢
  have h1 := (spB_nest (w := w) (u := c ++ [48]) (r := p) hu).2
  have h2 := (spB_nest (w := w) (u := c ++ [49]) (r := q) hv).1
  have hl : c.length + 1 ≤ w := by rw [List.length_append, List.length_append] at hu; have : [48].length = 1 := rfl; omega
  have k1 : (spB w (c ++ [48])).2 = (spB w (c ++ [49])).1 := by
    rw [spB_at (j := w - (c.length + 1)) (by rw [List.length_append]; show c.length + 1 + _ = _; omega), spB_at (j := w - (c.length + 1)) (by rw [List.length_append]; show c.length + 1 + _ = _; omega)]
    show beg (c ++ [48]) _ + H2 _ = beg (c ++ [49]) _
    rw [beg0, beg1]
  omega
/-- the second goes on from the first, or is greater at a sign -/
def Ord (u v : List Nat) : Prop := (∃ r, v = u ++ r) ∨ Apart u v
theorem lex_app {a b : Nat} (h : a < b) {x y : List Nat} : ∀ c : List Nat, c ++ a :: x < c ++ b :: y
  | [] => List.Lex.rel h
  | _ :: c => List.Lex.cons (lex_app h c)
theorem ord_of_le {w : Nat} {u v : List Nat} (hu : Bits u ∧ u.length ≤ w) (hv : Bits v ∧ v.length ≤ w) (hle : patL w u ≤ patL w v) : Ord u v := by
  rcases signs_cmp u v hu.1 hv.1 with ⟨r, rfl⟩ | ⟨r, h1, rfl⟩ | h | ⟨c, p, q, rfl, rfl⟩
  · exact .inl ⟨r, rfl⟩
  · exfalso
    cases r with
    | nil => exact h1 rfl
    | cons d r =>
      have hd := isB_iff.mp (hu.1 d (List.mem_append.mpr (.inr (List.mem_cons_self ..))))
      have hl := hu.2
      rw [List.length_append, List.length_cons] at hl
      refine List.not_le.mpr ?_ hle
      unfold patL
      rw [if_pos (show v.length < w by omega), List.append_assoc]
      exact lex_app (by omega) v
  · exact .inr h
  · exfalso
    refine List.not_le.mpr ?_ hle
    unfold patL
    rw [List.append_assoc, List.append_assoc]
    exact lex_app (by decide) c
theorem Ord.span {w : Nat} {u v : List Nat} (hu : u.length ≤ w) (hv : v.length ≤ w) (h : Ord u v) : ((spB w u).1 ≤ (spB w v).1 ∧ (spB w v).2 ≤ (spB w u).2) ∨ (spB w u).2 ≤ (spB w v).1 := by
  rcases h with ⟨r, rfl⟩ | h
  · exact .inl (spB_nest hv)
  · exact .inr (spB_apart h hu hv)
theorem any_span {w : Nat} {u v : List Nat} (hu : Bits u ∧ u.length ≤ w) (hv : Bits v ∧ v.length ≤ w) :
    ((spB w u).1 ≤ (spB w v).1 ∧ (spB w v).2 ≤ (spB w u).2) ∨ ((spB w v).1 ≤ (spB w u).1 ∧ (spB w u).2 ≤ (spB w v).2) ∨ (spB w u).2 ≤ (spB w v).1 ∨ (spB w v).2 ≤ (spB w u).1 := by
  rcases signs_cmp u v hu.1 hv.1 with ⟨r, rfl⟩ | ⟨r, _, rfl⟩ | h | h
  · exact .inl (spB_nest hv.2)
  · exact .inr (.inl (spB_nest hu.2))
  · exact .inr (.inr (.inl (spB_apart h hu.2 hv.2)))
  · exact .inr (.inr (.inr (spB_apart h hv.2 hu.2)))
/-! ### what a pattern's text is -/
def patB (cs : List Nat) (w : Int) : Bool :=
  let o : Bool := decide (cs.drop (cs.length - 1) = [42])
  let bits := cs.take (cs.length - (if o then 1 else 0))
  if bits.all isB then (if o then decide ((bits.length : Int) < w) else decide ((bits.length : Int) = w)) else false
theorem patB_pat {w : Nat} {u : List Nat} (hu : Bits u) (hl : u.length ≤ w) : patB (patL w u) (w : Int) = true := by
  have hall : u.all isB = true := List.all_eq_true.mpr hu
  unfold patL
  by_cases h : u.length < w
  · rw [if_pos h]
    have e1 : (u ++ [42]).drop ((u ++ [42]).length - 1) = [42] := by rw [List.length_append]; exact List.drop_left
    have e2 : (u ++ [42]).take ((u ++ [42]).length - 1) = u := by rw [List.length_append]; exact List.take_left
    have e3 : decide ((u ++ [42]).drop ((u ++ [42]).length - 1) = [42]) = true := decide_eq_true e1
    unfold patB
    simp only [e3, if_true, e2, hall]
    exact decide_eq_true (by omega)
  · rw [if_neg h, List.append_nil]
    have e1 : ¬ u.drop (u.length - 1) = [42] := fun z => hu.no42 (List.mem_of_mem_drop (show 42 ∈ u.drop (u.length - 1) by rw [z]; exact List.mem_singleton.mpr rfl))
    have e3 : decide (u.drop (u.length - 1) = [42]) = false := decide_eq_false e1
    have e2 : u.take (u.length - 0) = u := List.take_length
    unfold patB
    rw [e3]
    show (if (u.take (u.length - 0)).all isB = true then decide (((u.take (u.length - 0)).length : Int) = (w : Int)) else false) = true
    rw [e2, hall, if_pos rfl]
    exact decide_eq_true (by omega)
end G
/-! Plain laws: signs turned, signs put ahead and behind. -/
namespace G
open PySem PySem.Spec PyProof.Rows L2 TL
def flip (c : Nat) : Nat := 97 - c
def fl (u : List Nat) : List Nat := u.map flip
theorem fl_len (u : List Nat) : (fl u).length = u.length := List.length_map ..
theorem fl_bits {u : List Nat} (h : Bits u) : Bits (fl u) := fun c hc => by
  obtain ⟨d, hd, rfl⟩ := List.mem_map.mp hc
  have := isB_iff.mp (h d hd)
  exact isB_iff.mpr (by unfold flip; omega)
theorem fl_app (u v : List Nat) : fl (u ++ v) = fl u ++ fl v := List.map_append
theorem wr_fl : ∀ {u : List Nat}, Bits u → wr (fl u) + wr u + 1 = 2 ^ u.length
  | [], _ => rfl
  | c :: u, h => by
    have ih := wr_fl (u := u) fun d hd => h d (List.mem_cons_of_mem _ hd)
    have hc := isB_iff.mp (h c (List.mem_cons_self ..))
    show wr (flip c :: fl u) + _ + 1 = _
    rw [wr_cons, wr_cons, fl_len, List.length_cons, Nat.pow_succ]
    unfold flip
    rcases hc with rfl | rfl <;> simp <;> omega
/-- from the other end -/
def mir (W : Int) (s : Int × Int) : Int × Int := (W - s.2, W - s.1)
def shf (h : Int) (s : Int × Int) : Int × Int := (s.1 + h, s.2 + h)
def dbl (s : Int × Int) : Int × Int := (2 * s.1, 2 * s.2)
theorem spB_fl {w : Nat} {u : List Nat} (h : Bits u) (hl : u.length ≤ w) : spB w (fl u) = mir (H2 w) (spB w u) := by
  have e1 := wr_fl h
  have e2 : 2 ^ u.length * 2 ^ (w - u.length) = 2 ^ w := by rw [← Nat.pow_add]; congr 1; omega
  rw [← e1, Nat.add_mul, Nat.add_mul, Nat.one_mul] at e2
  unfold spB mir
  rw [fl_len]
  unfold beg H2
  generalize 2 ^ (w - u.length) = z at *
  generalize wr (fl u) * z = x at *
  generalize wr u * z = y at *
  refine Prod.ext ?_ ?_
  · show ((x : Nat) : Int) = ((2 ^ w : Nat) : Int) - (((y : Nat) : Int) + ((z : Nat) : Int))
    rw [← e2]; omega
  · show ((x : Nat) : Int) + ((z : Nat) : Int) = ((2 ^ w : Nat) : Int) - ((y : Nat) : Int)
    rw [← e2]; omega
theorem spB_0 {w : Nat} {u : List Nat} : spB (w + 1) (48 :: u) = spB w u := by
  unfold spB beg
  rw [wr_cons, if_neg (by decide), Nat.zero_mul, Nat.zero_add, List.length_cons, show w + 1 - (u.length + 1) = w - u.length by omega]
theorem spB_1 {w : Nat} {u : List Nat} (hl : u.length ≤ w) : spB (w + 1) (49 :: u) = shf (H2 w) (spB w u) := by
  have e2 : 2 ^ u.length * 2 ^ (w - u.length) = 2 ^ w := by rw [← Nat.pow_add]; congr 1; omega
  unfold spB beg shf H2
  rw [wr_cons, if_pos rfl, Nat.one_mul, List.length_cons, show w + 1 - (u.length + 1) = w - u.length by omega, Nat.add_mul, e2]
  refine Prod.ext ?_ ?_
  · show ((2 ^ w + wr u * 2 ^ (w - u.length) : Nat) : Int) = ((wr u * 2 ^ (w - u.length) : Nat) : Int) + ((2 ^ w : Nat) : Int)
    rw [Int.natCast_add]; omega
  · show ((2 ^ w + wr u * 2 ^ (w - u.length) : Nat) : Int) + ((2 ^ (w - u.length) : Nat) : Int) = ((wr u * 2 ^ (w - u.length) : Nat) : Int) + ((2 ^ (w - u.length) : Nat) : Int) + ((2 ^ w : Nat) : Int)
    rw [Int.natCast_add]; omega
theorem spB_dbl {w : Nat} {u : List Nat} (hl : u.length ≤ w) : spB (w + 1) u = dbl (spB w u) := by
  unfold spB beg dbl H2
  rw [show w + 1 - u.length = (w - u.length) + 1 by omega, Nat.pow_succ, ← Nat.mul_assoc]
  generalize wr u * 2 ^ (w - u.length) = x
  generalize 2 ^ (w - u.length) = z
  refine Prod.ext ?_ ?_
  · show ((x * 2 : Nat) : Int) = 2 * ((x : Nat) : Int)
    omega
  · show ((x * 2 : Nat) : Int) + ((z * 2 : Nat) : Int) = 2 * (((x : Nat) : Int) + ((z : Nat) : Int))
    omega
/-! ### ends -/
def EndOf (S : List (Int × Int)) (k : Int) : Prop := ∃ s ∈ S, k = s.1 ∨ k = s.2
theorem prs_snd : ∀ (l : List Int) (a : Int), (prsL (a :: l)).map (·.2) = l
  | [], _ => rfl
  | b :: l, a => by
    show b :: (prsL (b :: l)).map (·.2) = _
    rw [prs_snd l b]
theorem mem_edges {w : Nat} {S : List (Int × Int)} {k : Int} : k ∈ edgesOf w S ↔ k = 0 ∨ k = H2 w ∨ EndOf S k := by
  unfold edgesOf
  rw [ssort_mem, List.mem_append, mem_flat2]
  simp only [List.mem_cons, List.not_mem_nil, or_false, or_assoc]
  exact Iff.rfl
theorem parts_ends {w : Nat} {S : List (Int × Int)} (h : SpOk w S) (k : Int) : (k = 0 ∨ k = H2 w ∨ EndOf (prsL (edgesOf w S)) k) ↔ (k = 0 ∨ k = H2 w ∨ EndOf S k) := by
  have ht := parts_tile h
  obtain ⟨l, e1, _⟩ := edges_facts h
  have e2 := ht.ends_mem (k := k)
  refine Iff.trans ?_ mem_edges
  rw [e1] at e2 ⊢
  rw [prs_snd] at e2
  exact e2.symm
theorem parts_char {w : Nat} {T U : List (Int × Int)} (h : Tile 0 T (H2 w)) (hk : ∀ k, (k = 0 ∨ k = H2 w ∨ EndOf T k) ↔ (k = 0 ∨ k = H2 w ∨ EndOf U k)) : prsL (edgesOf w U) = T := by
  have e : edgesOf w U = 0 :: T.map (·.2) := by
    have hm : ∀ k, k ∈ 0 :: T.map (·.2) ↔ k ∈ edgesOf w U := fun k => by rw [h.ends_mem, mem_edges]; exact hk k
    unfold edgesOf at hm ⊢
    exact ssort_uniq h.sorted fun k => (hm k).trans ssort_mem
  rw [e, h.prs]
theorem Tile.mir : ∀ {T : List (Int × Int)} {a e W : Int}, Tile a T e → Tile (W - e) (T.map (G.mir W)).reverse (W - a)
  | [], a, e, W, h => by cases (show _ = _ from h); rfl
  | s :: T, a, e, W, ⟨h1, h2, h3⟩ => by
    rw [List.map_cons, List.reverse_cons]
    refine Tile.app (m := W - s.2) (Tile.mir h3) ⟨rfl, ?_, ?_⟩
    · show W - s.2 < W - s.1; omega
    · show W - s.1 = W - a; omega
theorem Tile.shf : ∀ {T : List (Int × Int)} {a e : Int} (h : Int), Tile a T e → Tile (a + h) (T.map (G.shf h)) (e + h)
  | [], a, e, h, k => by cases (show _ = _ from k); rfl
  | s :: T, a, e, h, ⟨h1, h2, h3⟩ => ⟨by show s.1 + h = a + h; omega, by show s.1 + h < s.2 + h; omega, Tile.shf h h3⟩
theorem Tile.dbl : ∀ {T : List (Int × Int)} {a e : Int}, Tile a T e → Tile (2 * a) (T.map G.dbl) (2 * e)
  | [], a, e, k => by cases (show _ = _ from k); rfl
  | s :: T, a, e, ⟨h1, h2, h3⟩ => ⟨by show 2 * s.1 = 2 * a; omega, by show 2 * s.1 < 2 * s.2; omega, Tile.dbl h3⟩
theorem Tile.last : ∀ {T : List (Int × Int)} {a e : Int}, Tile a T e → a < e → EndOf T e
  | [], a, e, h, hl => by cases (show _ = _ from h); omega
  | [s], a, e, ⟨h1, h2, h3⟩, _ => ⟨s, List.mem_cons_self .., .inr (show s.2 = e from h3).symm⟩
  | s :: t :: T, a, e, ⟨h1, h2, h3⟩, _ => by
    obtain ⟨r, hr, hk⟩ := Tile.last h3 (by have := h3.2.1; have := h3.1; have := h3.2.2.le; omega)
    exact ⟨r, List.mem_cons_of_mem _ hr, hk⟩
theorem end_mir {S : List (Int × Int)} {W k : Int} : EndOf (S.map (mir W)) k ↔ EndOf S (W - k) := by
  constructor
  · rintro ⟨t, ht, hk⟩
    obtain ⟨s, hs, rfl⟩ := List.mem_map.mp ht
    refine ⟨s, hs, ?_⟩
    have : k = W - s.2 ∨ k = W - s.1 := hk
    omega
  · rintro ⟨s, hs, hk⟩
    refine ⟨mir W s, List.mem_map.mpr ⟨s, hs, rfl⟩, ?_⟩
    show k = W - s.2 ∨ k = W - s.1
    omega
theorem end_rev {S : List (Int × Int)} {k : Int} : EndOf S.reverse k ↔ EndOf S k := by
  unfold EndOf
  simp only [List.mem_reverse]
theorem end_shf {S : List (Int × Int)} {h k : Int} : EndOf (S.map (shf h)) k ↔ EndOf S (k - h) := by
  constructor
  · rintro ⟨t, ht, hk⟩
    obtain ⟨s, hs, rfl⟩ := List.mem_map.mp ht
    refine ⟨s, hs, ?_⟩
    have : k = s.1 + h ∨ k = s.2 + h := hk
    omega
  · rintro ⟨s, hs, hk⟩
    refine ⟨shf h s, List.mem_map.mpr ⟨s, hs, rfl⟩, ?_⟩
    show k = s.1 + h ∨ k = s.2 + h
    omega
theorem end_app {S T : List (Int × Int)} {k : Int} : EndOf (S ++ T) k ↔ EndOf S k ∨ EndOf T k := by
  unfold EndOf
  constructor
  · rintro ⟨s, hs, hk⟩
    exact (List.mem_append.mp hs).elim (fun h => .inl ⟨s, h, hk⟩) fun h => .inr ⟨s, h, hk⟩
  · rintro (⟨s, hs, hk⟩ | ⟨s, hs, hk⟩)
    · exact ⟨s, List.mem_append.mpr (.inl hs), hk⟩
    · exact ⟨s, List.mem_append.mpr (.inr hs), hk⟩
theorem end_dbl {S : List (Int × Int)} {k : Int} : EndOf (S.map dbl) k ↔ ∃ j, k = 2 * j ∧ EndOf S j := by
  constructor
  · rintro ⟨t, ht, hk⟩
    obtain ⟨s, hs, rfl⟩ := List.mem_map.mp ht
    have : k = 2 * s.1 ∨ k = 2 * s.2 := hk
    rcases this with h | h
    · exact ⟨s.1, h, s, hs, .inl rfl⟩
    · exact ⟨s.2, h, s, hs, .inr rfl⟩
  · rintro ⟨j, rfl, s, hs, hk⟩
    refine ⟨dbl s, List.mem_map.mpr ⟨s, hs, rfl⟩, ?_⟩
    show 2 * j = 2 * s.1 ∨ 2 * j = 2 * s.2
    omega
theorem parts_mir {w : Nat} {S : List (Int × Int)} (h : SpOk w S) : prsL (edgesOf w (S.map (mir (H2 w)))) = ((prsL (edgesOf w S)).map (mir (H2 w))).reverse := by
  have ht := (parts_tile h).mir (W := H2 w)
  rw [Int.sub_self, Int.sub_zero] at ht
  refine parts_char ht fun k => ?_
  have := parts_ends h (H2 w - k)
  rw [end_rev, end_mir, end_mir]
  constructor
  · intro hk
    have := this.mp (by rcases hk with rfl | rfl | hk; exact .inr (.inl (by omega)); exact .inl (by omega); exact .inr (.inr hk))
    rcases this with h | h | h
    · exact .inr (.inl (by omega))
    · exact .inl (by omega)
    · exact .inr (.inr h)
  · intro hk
    have := this.mpr (by rcases hk with rfl | rfl | hk; exact .inr (.inl (by omega)); exact .inl (by omega); exact .inr (.inr hk))
    rcases this with h | h | h
    · exact .inr (.inl (by omega))
    · exact .inl (by omega)
    · exact .inr (.inr h)
theorem parts_ahead {w : Nat} {S : List (Int × Int)} (h : SpOk w S) : prsL (edgesOf (w + 1) (S ++ S.map (shf (H2 w)) ++ [(0, H2 w)])) = prsL (edgesOf w S) ++ (prsL (edgesOf w S)).map (shf (H2 w)) := by
  have hp := H2_pos w
  have h2 := H2_succ w
  have t := parts_tile h
  have ht := t.shf (H2 w)
  rw [Int.zero_add] at ht
  have hl := t.last hp
  refine parts_char (by rw [show H2 (w + 1) = H2 w + H2 w by omega]; exact t.app ht) fun k => ?_
  have a1 := parts_ends h k
  have a2 := parts_ends h (k - H2 w)
  rw [end_app, end_shf, end_app, end_app, end_shf]
  have hone : EndOf [((0 : Int), H2 w)] k ↔ k = 0 ∨ k = H2 w := by
    unfold EndOf
    simp
  rw [hone]
  constructor
  · rintro (hk | hk | hk | hk)
    · exact .inl hk
    · exact .inr (.inl hk)
    · rcases a1.mp (.inr (.inr hk)) with e | e | e
      · exact .inl e
      · exact .inr (.inr (.inr (.inr e)))
      · exact .inr (.inr (.inl (.inl e)))
    · rcases a2.mp (.inr (.inr hk)) with e | e | e
      · exact .inr (.inr (.inr (.inr (by omega))))
      · exact .inr (.inl (by omega))
      · exact .inr (.inr (.inl (.inr e)))
  · rintro (hk | hk | (hk | hk) | hk | hk)
    · exact .inl hk
    · exact .inr (.inl hk)
    · rcases a1.mpr (.inr (.inr hk)) with e | e | e
      · exact .inl e
      · exact .inr (.inr (.inl (e ▸ hl)))
      · exact .inr (.inr (.inl e))
    · rcases a2.mpr (.inr (.inr hk)) with e | e | e
      · exact .inr (.inr (.inl (by rw [show k = H2 w by omega]; exact hl)))
      · exact .inr (.inl (by omega))
      · exact .inr (.inr (.inr e))
    · exact .inl hk
    · exact .inr (.inr (.inl (hk ▸ hl)))
theorem parts_dbl {w : Nat} {S : List (Int × Int)} (h : SpOk w S) : prsL (edgesOf (w + 1) (S.map dbl)) = (prsL (edgesOf w S)).map dbl := by
  have h2 := H2_succ w
  have ht := (parts_tile h).dbl
  refine parts_char (by rw [h2]; exact ht) fun k => ?_
  rw [end_dbl, end_dbl]
  constructor
  · rintro (hk | hk | ⟨j, rfl, hk⟩)
    · exact .inl hk
    · exact .inr (.inl hk)
    · rcases (parts_ends h j).mp (.inr (.inr hk)) with e | e | e
      · exact .inl (by omega)
      · exact .inr (.inl (by omega))
      · exact .inr (.inr ⟨j, rfl, e⟩)
  · rintro (hk | hk | ⟨j, rfl, hk⟩)
    · exact .inl hk
    · exact .inr (.inl hk)
    · rcases (parts_ends h j).mpr (.inr (.inr hk)) with e | e | e
      · exact .inl (by omega)
      · exact .inr (.inl (by omega))
      · exact .inr (.inr ⟨j, rfl, e⟩)
/-! ### leaves -/
theorem ct_map {S : List (Int × Int)} {f : Int × Int → Int × Int} {x y x' y' c : Int} (h : ∀ s ∈ S, cn1 (f s) x y = c * cn1 s x' y') : ct (S.map f) x y = c * ct S x' y' := by
  induction S with
  | nil => rw [List.map_nil, ct_nil, ct_nil, Int.mul_zero]
  | cons s S ih => rw [List.map_cons, ct_cons, ct_cons, ih fun t ht => h t (List.mem_cons_of_mem _ ht), h s (List.mem_cons_self ..), Int.mul_add]
theorem ct_rever (S : List (Int × Int)) (x y : Int) : ct S.reverse x y = ct S x y := by
  induction S with
  | nil => rfl
  | cons s S ih => rw [List.reverse_cons, ct_app, ct_one, ct_cons, ih]; omega
theorem ct_mir (S : List (Int × Int)) (W x y : Int) : ct ((S.map (mir W)).reverse) x y = ct S (W - y) (W - x) := by
  rw [ct_rever, ct_map (c := 1) (x' := W - y) (y' := W - x) fun s _ => by unfold cn1 mir; show max 0 (min y (W - s.1) - max x (W - s.2)) = _; omega]
  omega
theorem ct_shf (S : List (Int × Int)) (h x y : Int) : ct (S.map (shf h)) x y = ct S (x - h) (y - h) := by
  rw [ct_map (c := 1) (x' := x - h) (y' := y - h) fun s _ => by unfold cn1 shf; show max 0 (min y (s.2 + h) - max x (s.1 + h)) = _; omega]
  omega
theorem ct_dbl (S : List (Int × Int)) (x y : Int) : ct (S.map dbl) (2 * x) (2 * y) = 2 * ct S x y :=
  ct_map (c := 2) fun s _ => by unfold cn1 dbl; show max 0 (min (2 * y) (2 * s.2) - max (2 * x) (2 * s.1)) = _; omega
theorem canB_mir {S : List (Int × Int)} (h : Rise S) (W : Int) (j : Nat) (a : Int) (bs : List Nat) : canB ((S.map (mir W)).reverse) j (W - (a + H2 j)) (fl bs) = ((canB S j a bs).map fl).reverse :=
  can_cases h (P := fun j a bs => canB ((S.map (mir W)).reverse) j (W - (a + H2 j)) (fl bs) = ((canB S j a bs).map fl).reverse) j a bs
    (fun j a bs e => by rw [canB_none e, canB_none (by rw [ct_mir, ← e]; congr 1 <;> omega)]; rfl)
    (fun j a bs e => by
      rw [canB_full e, canB_full (by rw [ct_mir]; rw [show W - (W - (a + H2 j) + H2 j) = a by omega, show W - (W - (a + H2 j)) = a + H2 j by omega]; exact e)]
      rfl)
    (fun j a bs e1 e2 i1 i2 => by
      have h2 := H2_succ j
      have e : ct ((S.map (mir W)).reverse) (W - (a + H2 (j + 1))) (W - (a + H2 (j + 1)) + H2 (j + 1)) = ct S a (a + H2 (j + 1)) := by
        rw [ct_mir, show W - (W - (a + H2 (j + 1)) + H2 (j + 1)) = a by omega, show W - (W - (a + H2 (j + 1))) = a + H2 (j + 1) by omega]
      rw [canB_part e1 e2, canB_part (by rw [e]; exact e1) (by rw [e]; exact e2), List.map_append, List.reverse_append, ← i1, ← i2, fl_app, fl_app,
        show W - (a + H2 (j + 1)) + H2 j = W - (a + H2 j) by omega, show a + H2 j + H2 j = a + H2 (j + 1) by omega]
      rfl)
theorem canB_shf {S : List (Int × Int)} (h : Rise S) (d : Int) (p : List Nat) (j : Nat) (a : Int) (bs : List Nat) : canB (S.map (shf d)) j (a + d) (p ++ bs) = (canB S j a bs).map (p ++ ·) :=
  can_cases h (P := fun j a bs => canB (S.map (shf d)) j (a + d) (p ++ bs) = (canB S j a bs).map (p ++ ·)) j a bs
    (fun j a bs e => by rw [canB_none e, canB_none (by rw [ct_shf, ← e]; congr 1 <;> omega)]; rfl)
    (fun j a bs e => by
      rw [canB_full e, canB_full (by rw [ct_shf, show a + d - d = a by omega, show a + d + H2 j - d = a + H2 j by omega]; exact e)]
      rfl)
    (fun j a bs e1 e2 i1 i2 => by
      have e : ct (S.map (shf d)) (a + d) (a + d + H2 (j + 1)) = ct S a (a + H2 (j + 1)) := by
        rw [ct_shf, show a + d - d = a by omega, show a + d + H2 (j + 1) - d = a + H2 (j + 1) by omega]
      rw [canB_part e1 e2, canB_part (by rw [e]; exact e1) (by rw [e]; exact e2), List.map_append, ← i1, ← i2, List.append_assoc, List.append_assoc, show a + d + H2 j = a + H2 j + d by omega])
theorem canB_dbl {S : List (Int × Int)} (h : Rise S) (j : Nat) (a : Int) (bs : List Nat) : canB (S.map dbl) (j + 1) (2 * a) bs = canB S j a bs :=
  can_cases h (P := fun j a bs => canB (S.map dbl) (j + 1) (2 * a) bs = canB S j a bs) j a bs
    (fun j a bs e => by
      have h2 := H2_succ j
      rw [canB_none e, canB_none (by rw [show 2 * a + H2 (j + 1) = 2 * (a + H2 j) by omega, ct_dbl, e]; rfl)])
    (fun j a bs e => by
      have h2 := H2_succ j
      rw [canB_full e, canB_full (by rw [show 2 * a + H2 (j + 1) = 2 * (a + H2 j) by omega, ct_dbl, e]; omega)])
    (fun j a bs e1 e2 i1 i2 => by
      have h2 := H2_succ j
      have h3 := H2_succ (j + 1)
      have e : ct (S.map dbl) (2 * a) (2 * a + H2 (j + 1 + 1)) = 2 * ct S a (a + H2 (j + 1)) := by rw [show 2 * a + H2 (j + 1 + 1) = 2 * (a + H2 (j + 1)) by omega, ct_dbl]
      rw [canB_part e1 e2, canB_part (by rw [e]; omega) (by rw [e]; omega), i1, show 2 * a + H2 (j + 1) = 2 * (a + H2 j) by omega, i2])
theorem canB_ahead {S : List (Int × Int)} (h : Rise S) {w : Nat} (hb : ∀ s ∈ S, 0 ≤ s.1 ∧ s.2 ≤ H2 w) : canB (S.map (shf (H2 w))) (w + 1) 0 [] = (canB S w 0 []).map ([49] ++ ·) := by
  have hp := H2_pos w
  have h2 := H2_succ w
  have neg : ∀ y, y ≤ H2 w → ct S (0 - H2 w) y = ct S 0 y := fun y _ => by
    have := ct_map (S := S) (f := id) (c := 1) (x := 0 - H2 w) (y := y) (x' := 0) (y' := y) fun s hs => by
      have := hb s hs
      unfold cn1
      show max 0 (min y s.2 - max (0 - H2 w) s.1) = _
      omega
    rw [List.map_id] at this
    omega
  have e0 : ct (S.map (shf (H2 w))) 0 (0 + H2 (w + 1)) = ct S 0 (0 + H2 w) := by rw [ct_shf, show 0 + H2 (w + 1) - H2 w = 0 + H2 w by omega, neg _ (by omega)]
  by_cases hz : ct S 0 (0 + H2 w) = 0
  · rw [canB_none hz, canB_none (by rw [e0]; exact hz)]
    rfl
  · have hl := ct_le h (a := 0) (e := 0 + H2 w) (by omega)
    have k1 : ct (S.map (shf (H2 w))) 0 (0 + H2 w) = 0 := by
      rw [ct_shf, show 0 + H2 w - H2 w = 0 by omega, neg 0 (by omega)]
      exact ct_rev (Int.le_refl _)
    rw [canB_part (by rw [e0]; exact hz) (by rw [e0]; omega), canB_none k1]
    have := canB_shf h (H2 w) [49] w 0 []
    rw [List.append_nil] at this
    exact this
theorem Pats.of {w : Nat} : ∀ {ps : List Str}, (∀ p ∈ ps, IsPat w p) → Pats w (ps.map bsOf) ps
  | [], _ => ⟨rfl, fun _ h => nomatch h⟩
  | p :: ps, h => by
    obtain ⟨u, pu⟩ := h p (List.mem_cons_self ..)
    have ih := Pats.of (ps := ps) fun q hq => h q (List.mem_cons_of_mem _ hq)
    rw [List.map_cons, bsOf_pat pu]
    refine ⟨by rw [List.map_cons, List.map_cons, pu.eq, ih.eq], fun v hv => ?_⟩
    rcases List.mem_cons.mp hv with rfl | hv
    · exact ⟨pu.bits, pu.le⟩
    · exact ih.ok v hv
theorem Pats.cons {w : Nat} {u : List Nat} {us : List (List Nat)} {y : Str} {ys : List Str} (p : Pat w u y) (h : Pats w us ys) : Pats w (u :: us) (y :: ys) :=
  ⟨by rw [List.map_cons, List.map_cons, p.eq, h.eq], fun v hv => by
    rcases List.mem_cons.mp hv with rfl | hv
    · exact ⟨p.bits, p.le⟩
    · exact h.ok v hv⟩
theorem Pats.nil {w : Nat} : Pats w [] [] := ⟨rfl, fun _ h => nomatch h⟩
theorem Pats.rev {w : Nat} {us : List (List Nat)} {ys : List Str} (h : Pats w us ys) : Pats w us.reverse ys.reverse :=
  ⟨by rw [List.map_reverse, List.map_reverse, h.eq], fun u hu => h.ok u (List.mem_reverse.mp hu)⟩
theorem Pats.uniq {w : Nat} {us : List (List Nat)} {ys zs : List Str} (h : Pats w us ys) (k : Pats w us zs) : ys = zs := G.map_tl_inj (by rw [h.eq, k.eq])
end G
namespace K06
open PySem PySem.Spec PyProof.Rows L2 TL G
def topS (i : Nat) : Stmt := PySem.Challenge.pw_wishnet_k06_whole_signs_turned_and_put.main.body.getD i (.Pass ⟨0, 0, 0, 0⟩)
abbrev s_bits_of : Stmt := topS 3
abbrev s_span_of : Stmt := topS 4
abbrev s_parts_of : Stmt := topS 5
abbrev s_joined : Stmt := topS 6
abbrev s_pattern_at : Stmt := topS 7
abbrev s_cover : Stmt := topS 8
abbrev s_l_bag : Stmt := topS 10
abbrev s_l_draw : Stmt := topS 11
abbrev s_l_bits : Stmt := topS 12
abbrev s_l_worth : Stmt := topS 13
abbrev s_l_one : Stmt := topS 14
abbrev s_l_some : Stmt := topS 15
abbrev s_l_stretches : Stmt := topS 16
abbrev s_l_turned : Stmt := topS 17
abbrev s_l_mirrored : Stmt := topS 18
abbrev s_l_turned_right : Stmt := topS 19
abbrev s_l_ahead_right : Stmt := topS 20
abbrev s_l_behind_right : Stmt := topS 21
abbrev s_law : Stmt := topS 22
structure Txt (K : PySem.W.Frag) (mg : Str → Option Value) where
  a_bits_of : Addr
  d_bits_of : FuncData
  F_bits_of : FnP K "bits_of" s_bits_of a_bits_of d_bits_of
  g_bits_of : mg "bits_of" = some (.ref a_bits_of)
  a_span_of : Addr
  d_span_of : FuncData
  F_span_of : FnP K "span_of" s_span_of a_span_of d_span_of
  g_span_of : mg "span_of" = some (.ref a_span_of)
  a_parts_of : Addr
  d_parts_of : FuncData
  F_parts_of : FnP K "parts_of" s_parts_of a_parts_of d_parts_of
  g_parts_of : mg "parts_of" = some (.ref a_parts_of)
  a_joined : Addr
  d_joined : FuncData
  F_joined : FnP K "joined" s_joined a_joined d_joined
  g_joined : mg "joined" = some (.ref a_joined)
  a_pattern_at : Addr
  d_pattern_at : FuncData
  F_pattern_at : FnP K "pattern_at" s_pattern_at a_pattern_at d_pattern_at
  g_pattern_at : mg "pattern_at" = some (.ref a_pattern_at)
  a_cover : Addr
  d_cover : FuncData
  F_cover : FnP K "cover" s_cover a_cover d_cover
  g_cover : mg "cover" = some (.ref a_cover)
  a_l_bag : Addr
  d_l_bag : FuncData
  F_l_bag : FnP K "_law_bag" s_l_bag a_l_bag d_l_bag
  g_l_bag : mg "_law_bag" = some (.ref a_l_bag)
  a_l_draw : Addr
  d_l_draw : FuncData
  F_l_draw : FnP K "_law_draw" s_l_draw a_l_draw d_l_draw
  g_l_draw : mg "_law_draw" = some (.ref a_l_draw)
  a_l_bits : Addr
  d_l_bits : FuncData
  F_l_bits : FnP K "_law_bits" s_l_bits a_l_bits d_l_bits
  g_l_bits : mg "_law_bits" = some (.ref a_l_bits)
  a_l_worth : Addr
  d_l_worth : FuncData
  F_l_worth : FnP K "_law_worth" s_l_worth a_l_worth d_l_worth
  g_l_worth : mg "_law_worth" = some (.ref a_l_worth)
  a_l_one : Addr
  d_l_one : FuncData
  F_l_one : FnP K "_law_one" s_l_one a_l_one d_l_one
  g_l_one : mg "_law_one" = some (.ref a_l_one)
  a_l_some : Addr
  d_l_some : FuncData
  F_l_some : FnP K "_law_some" s_l_some a_l_some d_l_some
  g_l_some : mg "_law_some" = some (.ref a_l_some)
  a_l_stretches : Addr
  d_l_stretches : FuncData
  F_l_stretches : FnP K "_law_stretches" s_l_stretches a_l_stretches d_l_stretches
  g_l_stretches : mg "_law_stretches" = some (.ref a_l_stretches)
  a_l_turned : Addr
  d_l_turned : FuncData
  F_l_turned : FnP K "_law_turned" s_l_turned a_l_turned d_l_turned
  g_l_turned : mg "_law_turned" = some (.ref a_l_turned)
  a_l_mirrored : Addr
  d_l_mirrored : FuncData
  F_l_mirrored : FnP K "_law_mirrored" s_l_mirrored a_l_mirrored d_l_mirrored
  g_l_mirrored : mg "_law_mirrored" = some (.ref a_l_mirrored)
  a_l_turned_right : Addr
  d_l_turned_right : FuncData
  F_l_turned_right : FnP K "_law_turned_right" s_l_turned_right a_l_turned_right d_l_turned_right
  g_l_turned_right : mg "_law_turned_right" = some (.ref a_l_turned_right)
  a_l_ahead_right : Addr
  d_l_ahead_right : FuncData
  F_l_ahead_right : FnP K "_law_ahead_right" s_l_ahead_right a_l_ahead_right d_l_ahead_right
  g_l_ahead_right : mg "_law_ahead_right" = some (.ref a_l_ahead_right)
  a_l_behind_right : Addr
  d_l_behind_right : FuncData
  F_l_behind_right : FnP K "_law_behind_right" s_l_behind_right a_l_behind_right d_l_behind_right
  g_l_behind_right : mg "_law_behind_right" = some (.ref a_l_behind_right)
  a_law : Addr
  d_law : FuncData
  F_law : FnP K "law" s_law a_law d_law
  g_law : mg "law" = some (.ref a_law)
  n_abs : mg "abs" = none
  n_all : mg "all" = none
  n_bool : mg "bool" = none
  n_int : mg "int" = none
  n_isinstance : mg "isinstance" = none
  n_len : mg "len" = none
  n_list : mg "list" = none
  n_max : mg "max" = none
  n_range : mg "range" = none
  n_set : mg "set" = none
  n_sorted : mg "sorted" = none
  n_str : mg "str" = none
  n_tuple : mg "tuple" = none
  n_zip : mg "zip" = none
  t_BITS : Tok
  k_BITS : mg "BITS" = some (.str "01" t_BITS)
  t_STAR : Tok
  k_STAR : mg "STAR" = some (.str "*" t_STAR)
/-! ### the bag -/
structure BOk (b : Bag) : Prop where
  lo : 0 ≤ b.seed
  hi : b.seed < 2147483648
  len : b.cells.length ≤ 63
abbrev N_l_bag : List Str := ["_law_script", "_law_seed", "_law_cell"]
theorem sc_l_bag : FnScope N_l_bag ["_law_script"] (defScope s_l_bag) := ⟨rfl, rfl, rfl, by decide +kernel, rfl, by decide +kernel, by decide +kernel⟩
def sp_l_bag (K : PySem.W.Frag) : Sp := fun vs H Q _ => ∃ (a : Addr) (ns : List Int), vs = [.ref a] ∧ SqL K H a (ns.map V.int) ∧ ns.length ≤ 63 ∧ (∀ (B C : Addr) (b : Bag) (F H' : Hp), Same F H' → BagAt F H' B C b → BOk b → Q (.ref B) H')
/-! ### the draw -/
def skip0 : List Int → Nat → Nat
  | [], k => k
  | x :: r, k => if x = 0 then skip0 r (k + 1) else k
def stir (s c : Int) : Int := (s ^ 3 + 48271 * s + 2039 * c + 7) % 2147483647
def m_l_draw (b : Bag) (n : Int) : Option (Int × Bag) :=
  if (0 < n ∧ n.natAbs.log2 < 9000) ∧ (0 ≤ b.seed ∧ b.seed < 2147483648 ∧ b.cells.length ≤ sizeLine) then
    match b.cells[skip0 (b.cells.drop b.at_) b.at_]? with
    | some x => some (x % n, { b with at_ := skip0 (b.cells.drop b.at_) b.at_, cells := b.cells.set (skip0 (b.cells.drop b.at_) b.at_) (x / n) })
    | none => some (stir b.seed (b.cnt + 1) / 16 % n, { b with at_ := skip0 (b.cells.drop b.at_) b.at_, seed := stir b.seed (b.cnt + 1), cnt := b.cnt + 1 })
  else none
theorem BagAt.put {F H : Hp} {B C : Addr} {b b' : Bag} (a : BagAt F H B C b) (e : b'.cells = b.cells) : BagAt F (upd H B (.lst [.ref C, .int (b'.at_ : Nat), .int b'.seed, .int b'.cnt])) B C b' :=
  ⟨upd_same, by rw [upd_ne a.ne.symm, a.hC, e], a.ne, a.fB, a.fC⟩
theorem BagAt.cell {F H : Hp} {B C : Addr} {b : Bag} (a : BagAt F H B C b) (cs : List Int) : BagAt F (upd H C (.lst (cs.map V.int))) B C { b with cells := cs } :=
  ⟨by rw [upd_ne a.ne, a.hB], upd_same, a.ne, a.fB, a.fC⟩
theorem atI_map {xs : List Int} {k : Nat} {x : Int} (h : xs[k]? = some x) : atI (xs.map V.int) (k : Nat) = some (.int x) := atI_nat (by rw [List.getElem?_map, h]; rfl)
theorem ixN_nat {n k : Nat} (h : k < n) : ixN n (k : Nat) = some k := by unfold ixN; simp; omega
abbrev N_l_draw : List Str := ["_law_bag_here", "_law_many", "_law_left"]
theorem sc_l_draw : FnScope N_l_draw ["_law_bag_here", "_law_many"] (defScope s_l_draw) := ⟨rfl, rfl, rfl, by decide +kernel, rfl, by decide +kernel, by decide +kernel⟩
def sp_l_draw (K : PySem.W.Frag) : Sp := fun vs H Q _ => ∃ (F : Hp) (B C : Addr) (b : Bag) (y_many : Int) (r : Int) (b' : Bag), vs = [.ref B, .int y_many] ∧ Same F H ∧ BagAt F H B C b ∧ m_l_draw b y_many = some (r, b') ∧ (∀ F' H', Gr (Bc B C) F H F' H' → BagAt F' H' B C b' → Q (.int r) H')

/-! ### bits_of -/
def m_bits_of (x_pattern : Str) : Str :=
  (partS x_pattern ("*" : Str)).a
abbrev N_bits_of : List Str := ["pattern"]
theorem sc_bits_of : FnScope N_bits_of ["pattern"] (defScope s_bits_of) := ⟨rfl, rfl, rfl, by decide +kernel, rfl, by decide +kernel, by decide +kernel⟩
def sp_bits_of (K : PySem.W.Frag) : Sp := fun vs H Q _ => ∃ (x_pattern : Str), vs = [.str x_pattern] ∧ GS x_pattern ∧ (∀ F' H', Gr M0 H H F' H' → GS (m_bits_of x_pattern) → Q (.str (m_bits_of x_pattern)) H')
/-! ### span_of -/
def m_span_of_l1  : List Nat → Int → (Option (Int))
  | [], x_number => some x_number
  | e23 :: xs_, x_number =>
    Option.bind (some (((2 : Int) * x_number) + (toI (eqS (sgn e23) ("1" : Str))))) fun x_number25 =>
    m_span_of_l1  xs_ x_number25
def m_span_of (x_pattern : Str) (x_width : Int) : Option (Int × Int) :=
  Option.bind (some (m_bits_of x_pattern)) fun x_bits7 =>
  Option.bind (m_span_of_l1  (x_bits7).cps.toList (0 : Int)) fun x_number11 =>
  Option.bind (shlI (1 : Int) (x_width - ((x_bits7.length : Nat) : Int))) fun t36 =>
  Option.bind (mulI x_number11 t36) fun t41 =>
  Option.bind (mulI (x_number11 + (1 : Int)) t36) fun t44 =>
  some (t41, t44)
abbrev N_span_of : List Str := ["pattern", "width", "bits", "number", "sign", "size"]
theorem sc_span_of : FnScope N_span_of ["pattern", "width"] (defScope s_span_of) := ⟨rfl, rfl, rfl, by decide +kernel, rfl, by decide +kernel, by decide +kernel⟩
def sp_span_of (K : PySem.W.Frag) : Sp := fun vs H Q _ => ∃ (F : Hp) (x_pattern : Str) (x_width : Int) (r : (Int × Int)), vs = [.str x_pattern, .int x_width] ∧ Same F H ∧ GS x_pattern ∧ m_span_of x_pattern x_width = some r ∧ (∀ v F' H', Gr M0 F H F' H' → R K F' v r → Q v H')
/-! ### parts_of -/
def m_parts_of_l1 (x_width : Int) : List Str → (List Int) → (Option ((List Int)))
  | [], x_edges => some x_edges
  | e29 :: xs_, x_edges =>
    Option.bind (m_span_of e29 x_width) fun r33 =>
    Option.bind (conL x_edges [r33.1, r33.2]) fun t50 =>
    m_parts_of_l1 x_width xs_ t50
def m_parts_of (x_patterns : (List Str)) (x_width : Int) : Option (List (Int × Int)) :=
  Option.bind (shlI (1 : Int) x_width) fun t1 =>
  Option.bind (some ([(0 : Int), t1] : List Int)) fun x_edges9 =>
  Option.bind (m_parts_of_l1 x_width x_patterns x_edges9) fun x_edges13 =>
  Option.bind (ssetO x_edges13) fun t69 =>
  some (List.zip t69 (cutL t69 (some (1 : Int)) none))
abbrev N_parts_of : List Str := ["patterns", "width", "edges", "pattern", "rising"]
theorem sc_parts_of : FnScope N_parts_of ["patterns", "width"] (defScope s_parts_of) := ⟨rfl, rfl, rfl, by decide +kernel, rfl, by decide +kernel, by decide +kernel⟩
def sp_parts_of (K : PySem.W.Frag) : Sp := fun vs H Q _ => ∃ (F : Hp) (p_x_patterns : Addr) (ws_x_patterns : List V) (x_patterns : (List Str)) (x_width : Int) (r : (List (Int × Int))), vs = [.ref p_x_patterns, .int x_width] ∧ Same F H ∧ SqL K H p_x_patterns ws_x_patterns ∧ ws_x_patterns.length ≤ sizeLine ∧ RL K F ws_x_patterns x_patterns ∧ ¬ M0 p_x_patterns ∧ m_parts_of x_patterns x_width = some r ∧ (∀ p ws F' H', Gr M0 F H F' H' → H p = none → H' p = some (.lst ws) → F' p = none → ws.length ≤ sizeLine → RL K F' ws r → Q (.ref p) H')
/-! ### joined -/
def m_joined_l1  : List (Int × Int) → (List (Int × Int)) → (Option ((List (Int × Int))))
  | [], x_found => some x_found
  | e27 :: xs_, x_found =>
    Option.bind (if (!eqD x_found ([] : (List (Int × Int)))) then (Option.bind (atI x_found (-(1 : Int))) fun t51 => some ((eqI t51.2 e27.1))) else some false) fun c46 =>
    if c46 then (Option.bind (atI x_found (-(1 : Int))) fun t70 =>
 Option.bind (setL x_found (-(1 : Int)) (t70.1, e27.2)) fun t91 =>
 m_joined_l1  xs_ t91) else (Option.bind (appL x_found (e27.1, e27.2)) fun t109 =>
 m_joined_l1  xs_ t109)
def m_joined (x_spans : (List (Int × Int))) : Option (List (Int × Int)) :=
  Option.bind (some ([] : (List (Int × Int)))) fun x_found6 =>
  Option.bind (m_joined_l1  x_spans x_found6) fun x_found10 =>
  some x_found10
abbrev N_joined : List Str := ["spans", "found", "first", "behind"]
theorem sc_joined : FnScope N_joined ["spans"] (defScope s_joined) := ⟨rfl, rfl, rfl, by decide +kernel, rfl, by decide +kernel, by decide +kernel⟩
def sp_joined (K : PySem.W.Frag) : Sp := fun vs H Q _ => ∃ (F : Hp) (p_x_spans : Addr) (ws_x_spans : List V) (x_spans : (List (Int × Int))) (r : (List (Int × Int))), vs = [.ref p_x_spans] ∧ Same F H ∧ SqL K H p_x_spans ws_x_spans ∧ ws_x_spans.length ≤ sizeLine ∧ RL K F ws_x_spans x_spans ∧ ¬ M0 p_x_spans ∧ m_joined x_spans = some r ∧ (∀ p ws F' H', Gr M0 F H F' H' → H p = none → H' p = some (.lst ws) → F' p = none → ws.length ≤ sizeLine → RL K F' ws r → Q (.ref p) H')
/-! ### pattern_at -/
def m_pattern_at_l1  : List Int → Str → Int → (Option (Str × Int))
  | [], x_signs, x_number => some (x_signs, x_number)
  | e24 :: xs_, x_signs, x_number =>
    Option.bind (codeAt ("01" : Str) (x_number % (2 : Int))) fun c26 =>
    Option.bind (catS (sgn c26) x_signs) fun t28 =>
    Option.bind (some (x_number / (2 : Int))) fun x_number34 =>
    m_pattern_at_l1  xs_ t28 x_number34
def m_pattern_at (x_first : Int) (x_bits : Int) (x_width : Int) : Option Str :=
  Option.bind (shrI x_first (x_width - x_bits)) fun t1 =>
  Option.bind (rangeO1 x_bits) fun l6 =>
  bind2 (m_pattern_at_l1  l6 ("" : Str) t1) fun x_signs9 x_number10 =>
  Option.bind (if (eqI x_bits x_width) then ( some (x_signs9)) else (Option.bind (catS x_signs9 ("*" : Str)) fun t54 => some (t54))) fun c47 =>
  some c47
abbrev N_pattern_at : List Str := ["first", "bits", "width", "number", "signs", "turn"]
theorem sc_pattern_at : FnScope N_pattern_at ["first", "bits", "width"] (defScope s_pattern_at) := ⟨rfl, rfl, rfl, by decide +kernel, rfl, by decide +kernel, by decide +kernel⟩
def sp_pattern_at (K : PySem.W.Frag) : Sp := fun vs H Q _ => ∃ (x_first : Int) (x_bits : Int) (x_width : Int) (r : Str), vs = [.int x_first, .int x_bits, .int x_width] ∧ m_pattern_at x_first x_bits x_width = some r ∧ (∀ F' H', Gr M0 H H F' H' → GS r → Q (.str r) H')
/-! ### cover -/
def m_cover_l3 (x_width : Int) (x_behind : Int) (x_at : Int) : Nat → Int → (Option (Int))
  | 0, _ => none
  | n_ + 1, x_bits =>
    Option.bind (shlI (1 : Int) (x_width - x_bits)) fun t85 => Option.bind (modI x_at t85) fun t88 => Option.bind (if (neI t88 (0 : Int)) then some true else (Option.bind (shlI (1 : Int) (x_width - x_bits)) fun t96 => some ((decide (x_behind < (x_at + t96)))))) fun c91 => if c91 then (m_cover_l3 x_width x_behind x_at n_ (x_bits + (1 : Int))) else some x_bits
def m_cover_l2 (x_width : Int) (x_behind : Int) : Nat → Int → (List Str) → (Option (Int × (List Str)))
  | 0, _, _ => none
  | n_ + 1, x_at, x_found =>
     if (decide (x_at < x_behind)) then (Option.bind (m_cover_l3 x_width x_behind x_at 70 (0 : Int)) fun x_bits74 =>
    Option.bind (m_pattern_at x_at x_bits74 x_width) fun r106 =>
    Option.bind (appL x_found r106) fun t115 =>
    Option.bind (shlI (1 : Int) (x_width - x_bits74)) fun t123 =>
    m_cover_l2 x_width x_behind n_ (x_at + t123) t115) else some (x_at, x_found)
def m_cover_l1 (x_width : Int) : List (Int × Int) → (List Str) → (Option ((List Str)))
  | [], x_found => some x_found
  | e47 :: xs_, x_found =>
    bind2 (m_cover_l2 x_width e47.2 70 e47.1 x_found) fun x_at57 x_found58 =>
    m_cover_l1 x_width xs_ x_found58
def m_cover (x_spans : (List (Int × Int))) (x_width : Int) : Option (List Str) :=
  Option.bind (some ([] : (List Str))) fun x_found6 =>
  Option.bind (m_joined x_spans) fun r10 =>
  Option.bind (m_cover_l1 x_width r10 x_found6) fun x_found27 =>
  some x_found27
abbrev N_cover : List Str := ["spans", "width", "found", "first", "behind", "at", "bits"]
theorem sc_cover : FnScope N_cover ["spans", "width"] (defScope s_cover) := ⟨rfl, rfl, rfl, by decide +kernel, rfl, by decide +kernel, by decide +kernel⟩
def sp_cover (K : PySem.W.Frag) : Sp := fun vs H Q _ => ∃ (F : Hp) (p_x_spans : Addr) (ws_x_spans : List V) (x_spans : (List (Int × Int))) (x_width : Int) (r : (List Str)), vs = [.ref p_x_spans, .int x_width] ∧ Same F H ∧ SqL K H p_x_spans ws_x_spans ∧ ws_x_spans.length ≤ sizeLine ∧ RL K F ws_x_spans x_spans ∧ ¬ M0 p_x_spans ∧ m_cover x_spans x_width = some r ∧ (∀ p ws F' H', Gr M0 F H F' H' → H p = none → H' p = some (.lst ws) → F' p = none → ws.length ≤ sizeLine → RL K F' ws r → Q (.ref p) H')
/-! ### l_bits -/
def m_l_bits_c1  : List Int → Bag → Option (List Str × Bag)
  | [], b => some ([], b)
  | e82 :: xs_, b =>
    bind2 (m_l_draw b (2 : Int)) fun r84 b85 =>
    Option.bind (codeAt ("01" : Str) r84) fun c94 =>
    bind2 (m_l_bits_c1  xs_ b85) fun rest97 b98 => some ((sgn c94) :: rest97, b98)
def m_l_bits (b : Bag) (y_size : Int) : Option (Str × Bag) :=
  bind2 (m_l_draw b (4 : Int)) fun r1 b2 =>
  if (eqI r1 (0 : Int)) then (bind2 (m_l_draw b2 (2 : Int)) fun r10 b11 =>
 Option.bind (codeAt ("01" : Str) r10) fun c19 =>
 bind2 (if (decide ((0 : Int) < y_size)) then (Option.bind (mulS (sgn c19) y_size) fun t26 => bind2 (m_l_draw b11 (2 : Int)) fun r29 b30 => Option.bind (codeAt ("01" : Str) r29) fun c39 => Option.bind (catS t26 (sgn c39)) fun t41 => some ((cutS t41 (some (1 : Int)) (some (y_size + (1 : Int)))), b30)) else ( some (("" : Str), b11))) fun c21 b22 =>
 some (c21, b22)) else (Option.bind (rangeO1 y_size) fun l53 =>
 bind2 (m_l_bits_c1  l53 b2) fun l62 b63 =>
 Option.bind (joinS ("" : Str) l62) fun t118 =>
 some (t118, b63))
abbrev N_l_bits : List Str := ["_law_bag_here", "_law_size", "_law_sign", "_law_k"]
theorem sc_l_bits : FnScope N_l_bits ["_law_bag_here", "_law_size"] (defScope s_l_bits) := ⟨rfl, rfl, rfl, by decide +kernel, rfl, by decide +kernel, by decide +kernel⟩
def sp_l_bits (K : PySem.W.Frag) : Sp := fun vs H Q _ => ∃ (F : Hp) (B C : Addr) (b : Bag) (y_size : Int) (r : Str) (b' : Bag), vs = [.ref B, .int y_size] ∧ Same F H ∧ BagAt F H B C b ∧ m_l_bits b y_size = some (r, b') ∧ (∀ F' H', Gr (Bc B C) F H F' H' → BagAt F' H' B C b' → GS r → Q (.str r) H')
/-! ### l_worth -/
def m_l_worth_l1  : List Nat → Int → (Option (Int))
  | [], y_found => some y_found
  | e13 :: xs_, y_found =>
    Option.bind (some ((y_found * (2 : Int)) + (toI (eqS (sgn e13) ("1" : Str))))) fun y_found15 =>
    m_l_worth_l1  xs_ y_found15
def m_l_worth (y_bits_here : Str) : Option Int :=
  Option.bind (m_l_worth_l1  (y_bits_here).cps.toList (0 : Int)) fun y_found1 =>
  some y_found1
abbrev N_l_worth : List Str := ["_law_bits_here", "_law_found", "_law_sign"]
theorem sc_l_worth : FnScope N_l_worth ["_law_bits_here"] (defScope s_l_worth) := ⟨rfl, rfl, rfl, by decide +kernel, rfl, by decide +kernel, by decide +kernel⟩
def sp_l_worth (K : PySem.W.Frag) : Sp := fun vs H Q _ => ∃ (y_bits_here : Str) (r : Int), vs = [.str y_bits_here] ∧ GS y_bits_here ∧ m_l_worth y_bits_here = some r ∧ (∀ F' H', Gr M0 H H F' H' → Q (.int r) H')
/-! ### l_one -/
def m_l_one (b : Bag) (y_size : Int) (y_some_here : (List Str)) : Option (Str × Bag) :=
  bind2 (m_l_draw b (y_size + (1 : Int))) fun r1 b2 =>
  bind2 (m_l_bits b2 r1) fun r10 b11 =>
  bind2 (m_l_draw b11 (5 : Int)) fun r19 b20 =>
  bind2 (if ((!eqD y_some_here ([] : (List Str))) && (decide (r19 < (3 : Int)))) then (bind2 (m_l_draw b20 (((y_some_here).length : Nat) : Int)) fun r52 b53 =>
 Option.bind (atI y_some_here r52) fun t62 =>
 Option.bind (some (Txt.stripChars t62 ("*" : Str))) fun y_near68 =>
 Option.bind (some (dgetS [(("0" : Str), ("1" : Str)), (("1" : Str), ("0" : Str))] (cutS y_near68 (some (-(1 : Int))) none) ("" : Str))) fun y_turned_here79 =>
 bind2 (m_l_draw b53 (((y_near68.length : Nat) : Int) + (1 : Int))) fun r83 b84 =>
 bind2 (m_l_draw b84 (2 : Int)) fun r93 b94 =>
 Option.bind (codeAt ("01" : Str) r93) fun c103 =>
 Option.bind (catS y_near68 (sgn c103)) fun t105 =>
 Option.bind (catS (cutS y_near68 none (some (-(1 : Int)))) y_turned_here79) fun t108 =>
 Option.bind (atI ([(cutS y_near68 none (some r83)), t105, t108] : List Str) r19) fun t120 =>
 some (t120, b94)) else (some (r10, b20))) fun y_bits_here28 b29 =>
  bind2 (if (eqI r19 (4 : Int)) then (bind2 (m_l_bits b29 (y_size - ((y_bits_here28.length : Nat) : Int))) fun r140 b141 =>
 Option.bind (catS y_bits_here28 r140) fun t149 =>
 some (t149, b141)) else (some (y_bits_here28, b29))) fun y_bits_here137 b138 =>
  Option.bind (some (cutS y_bits_here137 none (some y_size))) fun y_bits_here163 =>
  Option.bind (mulS ("*" : Str) (toI (decide (((y_bits_here163.length : Nat) : Int) < y_size)))) fun t167 =>
  Option.bind (catS y_bits_here163 t167) fun t170 =>
  some (t170, b138)
abbrev N_l_one : List Str := ["_law_bag_here", "_law_size", "_law_some_here", "_law_bits_here", "_law_pick", "_law_near", "_law_turned_here", "_law_cut"]
theorem sc_l_one : FnScope N_l_one ["_law_bag_here", "_law_size", "_law_some_here"] (defScope s_l_one) := ⟨rfl, rfl, rfl, by decide +kernel, rfl, by decide +kernel, by decide +kernel⟩
def sp_l_one (K : PySem.W.Frag) : Sp := fun vs H Q _ => ∃ (F : Hp) (B C : Addr) (b : Bag) (y_size : Int) (p_y_some_here : Addr) (ws_y_some_here : List V) (y_some_here : (List Str)) (r : Str) (b' : Bag), vs = [.ref B, .int y_size, .ref p_y_some_here] ∧ Same F H ∧ BagAt F H B C b ∧ SqL K H p_y_some_here ws_y_some_here ∧ ws_y_some_here.length ≤ sizeLine ∧ RL K F ws_y_some_here y_some_here ∧ ¬ (Bc B C) p_y_some_here ∧ m_l_one b y_size y_some_here = some (r, b') ∧ (∀ F' H', Gr (Bc B C) F H F' H' → BagAt F' H' B C b' → GS r → Q (.str r) H')
/-! ### l_some -/
def m_l_some_l1 (y_size : Int) : List Int → (List Str) → Bag → (Option ((List Str) × Bag))
  | [], y_found, b => some (y_found, b)
  | e75 :: xs_, y_found, b =>
    bind2 (m_l_one b y_size y_found) fun r77 b78 =>
    Option.bind (appL y_found r77) fun t87 =>
    m_l_some_l1 y_size xs_ t87 b78
def m_l_some (b : Bag) (y_size : Int) (y_most : Int) : Option ((List Str) × Bag) :=
  bind2 (m_l_draw b (6 : Int)) fun r8 b9 =>
  bind2 (m_l_draw b9 (y_most + (1 : Int))) fun r18 b19 =>
  bind2 (m_l_draw b19 (2 : Int)) fun r37 b38 =>
  Option.bind (atI ([r8, r18] : List Int) r37) fun t48 =>
  Option.bind (rangeO1 t48) fun l53 =>
  bind2 (m_l_some_l1 y_size l53 ([] : (List Str)) b38) fun y_found56 b57 =>
  some (y_found56, b57)
abbrev N_l_some : List Str := ["_law_bag_here", "_law_size", "_law_most", "_law_found", "_law_k"]
theorem sc_l_some : FnScope N_l_some ["_law_bag_here", "_law_size", "_law_most"] (defScope s_l_some) := ⟨rfl, rfl, rfl, by decide +kernel, rfl, by decide +kernel, by decide +kernel⟩
def sp_l_some (K : PySem.W.Frag) : Sp := fun vs H Q _ => ∃ (F : Hp) (B C : Addr) (b : Bag) (y_size : Int) (y_most : Int) (r : (List Str)) (b' : Bag), vs = [.ref B, .int y_size, .int y_most] ∧ Same F H ∧ BagAt F H B C b ∧ m_l_some b y_size y_most = some (r, b') ∧ (∀ p ws F' H', Gr (Bc B C) F H F' H' → BagAt F' H' B C b' → H p = none → H' p = some (.lst ws) → F' p = none → ws.length ≤ sizeLine → RL K F' ws r → Q (.ref p) H')
/-! ### l_stretches -/
def m_l_stretches_l1 (y_size : Int) : List Int → (List Int) → Bag → (Option ((List Int) × Bag))
  | [], y_edges, b => some (y_edges, b)
  | e82 :: xs_, y_edges, b =>
    bind2 (m_l_draw b (y_size + (1 : Int))) fun r84 b85 =>
    bind2 (m_l_bits b85 r84) fun r94 b95 =>
    Option.bind (mulS ("0" : Str) (y_size - ((r94.length : Nat) : Int))) fun t104 =>
    Option.bind (catS r94 t104) fun t107 =>
    Option.bind (m_l_worth t107) fun r110 =>
    bind2 (m_l_draw b95 (((y_edges).length : Nat) : Int)) fun r119 b120 =>
    Option.bind (atI y_edges r119) fun t129 =>
    bind2 (m_l_draw b120 (4 : Int)) fun r134 b135 =>
    Option.bind (shlI (1 : Int) y_size) fun t144 =>
    bind2 (m_l_draw b135 (5 : Int)) fun r156 b157 =>
    Option.bind (atI ([r110, ((t129 + (1 : Int)) + r134), (if (t129 - (1 : Int)) > (0 : Int) then (t129 - (1 : Int)) else (0 : Int)), t144, (r110 + (1 : Int))] : List Int) r156) fun t167 =>
    Option.bind (appL y_edges t167) fun t172 =>
    m_l_stretches_l1 y_size xs_ t172 b157
def m_l_stretches_c2 (y_size : Int) : List Int → Option (List Int)
  | [] => some []
  | e238 :: xs_ =>
    Option.bind (shlI (1 : Int) y_size) fun t241 =>
    if (decide (e238 ≤ t241)) then (Option.bind (m_l_stretches_c2 y_size xs_) fun rest245 => some (e238 :: rest245)) else m_l_stretches_c2 y_size xs_
def m_l_stretches_l3 (y_edges : (List Int)) : List Int → (List (Int × Int)) → Bag → (Option ((List (Int × Int)) × Bag))
  | [], y_found, b => some (y_found, b)
  | e326 :: xs_, y_found, b =>
    bind2 (m_l_draw b (3 : Int)) fun r328 b329 =>
    if (decide ((0 : Int) < r328)) then (Option.bind (atI y_edges (e326 - (1 : Int))) fun t339 =>
 Option.bind (atI y_edges e326) fun t344 =>
 Option.bind (appL y_found (t339, t344)) fun t360 =>
 m_l_stretches_l3 y_edges xs_ t360 b329) else (m_l_stretches_l3 y_edges xs_ y_found b329)
def m_l_stretches (b : Bag) (y_size : Int) : Option ((List (Int × Int)) × Bag) :=
  Option.bind (some ([(0 : Int)] : List Int)) fun y_edges8 =>
  bind2 (m_l_draw b (6 : Int)) fun r12 b13 =>
  bind2 (m_l_draw b13 (31 : Int)) fun r22 b23 =>
  bind2 (m_l_draw b23 (2 : Int)) fun r41 b42 =>
  Option.bind (atI ([r12, r22] : List Int) r41) fun t52 =>
  Option.bind (rangeO1 t52) fun l57 =>
  bind2 (m_l_stretches_l1 y_size l57 y_edges8 b42) fun y_edges60 b61 =>
  Option.bind (m_l_stretches_c2 y_size y_edges60) fun l206 =>
  Option.bind (ssetO l206) fun t267 =>
  Option.bind (some ([] : (List (Int × Int)))) fun y_found299 =>
  Option.bind (rangeO (1 : Int) (((t267).length : Nat) : Int)) fun l303 =>
  bind2 (m_l_stretches_l3 t267 l303 y_found299 b61) fun y_found306 b307 =>
  some (y_found306, b307)
abbrev N_l_stretches : List Str := ["_law_bag_here", "_law_size", "_law_edges", "_law_k", "_law_bits_here", "_law_first", "_law_near", "_law_found", "_law_edge"]
theorem sc_l_stretches : FnScope N_l_stretches ["_law_bag_here", "_law_size"] (defScope s_l_stretches) := ⟨rfl, rfl, rfl, by decide +kernel, rfl, by decide +kernel, by decide +kernel⟩
def sp_l_stretches (K : PySem.W.Frag) : Sp := fun vs H Q _ => ∃ (F : Hp) (B C : Addr) (b : Bag) (y_size : Int) (r : (List (Int × Int))) (b' : Bag), vs = [.ref B, .int y_size] ∧ Same F H ∧ BagAt F H B C b ∧ m_l_stretches b y_size = some (r, b') ∧ (∀ p ws F' H', Gr (Bc B C) F H F' H' → BagAt F' H' B C b' → H p = none → H' p = some (.lst ws) → F' p = none → ws.length ≤ sizeLine → RL K F' ws r → Q (.ref p) H')
/-! ### l_turned -/
def m_l_turned_c1  : List Nat → Option (List Str)
  | [] => some []
  | e22 :: xs_ =>
    Option.bind (dgetI [(("0" : Str), ("1" : Str)), (("1" : Str), ("0" : Str)), (("*" : Str), ("*" : Str))] (sgn e22)) fun t24 =>
    Option.bind (m_l_turned_c1  xs_) fun rest32 => some (t24 :: rest32)
def m_l_turned (y_one_here : Str) : Option Str :=
  Option.bind (m_l_turned_c1  (y_one_here).cps.toList) fun l5 =>
  Option.bind (joinS ("" : Str) l5) fun t50 =>
  some t50
abbrev N_l_turned : List Str := ["_law_one_here", "_law_sign"]
theorem sc_l_turned : FnScope N_l_turned ["_law_one_here"] (defScope s_l_turned) := ⟨rfl, rfl, rfl, by decide +kernel, rfl, by decide +kernel, by decide +kernel⟩
def sp_l_turned (K : PySem.W.Frag) : Sp := fun vs H Q _ => ∃ (y_one_here : Str) (r : Str), vs = [.str y_one_here] ∧ GS y_one_here ∧ m_l_turned y_one_here = some r ∧ (∀ F' H', Gr M0 H H F' H' → GS r → Q (.str r) H')
/-! ### l_mirrored -/
def m_l_mirrored_c1 (y_size : Int) : List (Int × Int) → Option (List (Int × Int))
  | [] => some []
  | e42 :: xs_ =>
    Option.bind (shlI (1 : Int) y_size) fun t52 =>
    Option.bind (shlI (1 : Int) y_size) fun t55 =>
    Option.bind (m_l_mirrored_c1 y_size xs_) fun rest68 => some (((t52 - e42.2), (t55 - e42.1)) :: rest68)
def m_l_mirrored (y_ends : (List (Int × Int))) (y_size : Int) : Option (List (Int × Int)) :=
  Option.bind (m_l_mirrored_c1 y_size (y_ends.reverse)) fun l12 =>
  some l12
abbrev N_l_mirrored : List Str := ["_law_ends", "_law_size", "_law_first", "_law_behind"]
theorem sc_l_mirrored : FnScope N_l_mirrored ["_law_ends", "_law_size"] (defScope s_l_mirrored) := ⟨rfl, rfl, rfl, by decide +kernel, rfl, by decide +kernel, by decide +kernel⟩
def sp_l_mirrored (K : PySem.W.Frag) : Sp := fun vs H Q _ => ∃ (F : Hp) (p_y_ends : Addr) (ws_y_ends : List V) (y_ends : (List (Int × Int))) (y_size : Int) (r : (List (Int × Int))), vs = [.ref p_y_ends, .int y_size] ∧ Same F H ∧ SqL K H p_y_ends ws_y_ends ∧ ws_y_ends.length ≤ sizeLine ∧ RL K F ws_y_ends y_ends ∧ ¬ M0 p_y_ends ∧ m_l_mirrored y_ends y_size = some r ∧ (∀ p ws F' H', Gr M0 F H F' H' → H p = none → H' p = some (.lst ws) → F' p = none → ws.length ≤ sizeLine → RL K F' ws r → Q (.ref p) H')
/-! ### l_turned_right -/
def m_l_turned_right_c1  : List Str → Option (List Str)
  | [] => some []
  | e33 :: xs_ =>
    Option.bind (m_l_turned e33) fun r37 =>
    Option.bind (m_l_turned_right_c1  xs_) fun rest46 => some (r37 :: rest46)
def m_l_turned_right_c2  : List Str → Option (List Str)
  | [] => some []
  | e217 :: xs_ =>
    Option.bind (m_l_turned e217) fun r221 =>
    Option.bind (m_l_turned_right_c2  xs_) fun rest236 => some (r221 :: rest236)
def m_l_turned_right (y_some_here : (List Str)) (y_ends : (List (Int × Int))) (y_size : Int) : Option Bool :=
  Option.bind (m_l_turned_right_c1  y_some_here) fun l5 =>
  Option.bind (m_parts_of l5 y_size) fun r64 =>
  Option.bind (m_parts_of y_some_here y_size) fun r81 =>
  Option.bind (m_l_mirrored r81 y_size) fun r100 =>
  if (!eqD r64 r100) then (some false) else (Option.bind (m_cover y_ends y_size) fun r123 =>
 Option.bind (m_l_turned_right_c2  (r123.reverse)) fun l177 =>
 Option.bind (m_l_mirrored y_ends y_size) fun r266 =>
 Option.bind (m_cover r266 y_size) fun r295 =>
 some (eqD r295 l177))
abbrev N_l_turned_right : List Str := ["_law_some_here", "_law_ends", "_law_size", "_law_due", "_law_one_here"]
theorem sc_l_turned_right : FnScope N_l_turned_right ["_law_some_here", "_law_ends", "_law_size"] (defScope s_l_turned_right) := ⟨rfl, rfl, rfl, by decide +kernel, rfl, by decide +kernel, by decide +kernel⟩
def sp_l_turned_right (K : PySem.W.Frag) : Sp := fun vs H Q _ => ∃ (p_y_some_here : Addr) (ws_y_some_here : List V) (y_some_here : (List Str)) (p_y_ends : Addr) (ws_y_ends : List V) (y_ends : (List (Int × Int))) (y_size : Int) (r : Bool), vs = [.ref p_y_some_here, .ref p_y_ends, .int y_size] ∧ SqL K H p_y_some_here ws_y_some_here ∧ ws_y_some_here.length ≤ sizeLine ∧ RL K H ws_y_some_here y_some_here ∧ ¬ M0 p_y_some_here ∧ SqL K H p_y_ends ws_y_ends ∧ ws_y_ends.length ≤ sizeLine ∧ RL K H ws_y_ends y_ends ∧ ¬ M0 p_y_ends ∧ m_l_turned_right y_some_here y_ends y_size = some r ∧ (∀ F' H', Gr M0 H H F' H' → Q (.bl r) H')
/-! ### l_ahead_right -/
def m_l_ahead_right_c1  : List Str → Option (List Str)
  | [] => some []
  | e57 :: xs_ =>
    Option.bind (catS ("0" : Str) e57) fun t61 =>
    Option.bind (m_l_ahead_right_c1  xs_) fun rest65 => some (t61 :: rest65)
def m_l_ahead_right_c2  : List Str → Option (List Str)
  | [] => some []
  | e125 :: xs_ =>
    Option.bind (catS ("1" : Str) e125) fun t129 =>
    Option.bind (m_l_ahead_right_c2  xs_) fun rest133 => some (t129 :: rest133)
def m_l_ahead_right_c3 (y_half : Int) : List (Int × Int) → List (Int × Int)
  | [] => []
  | e286 :: xs_ => ((e286.1 + y_half), (e286.2 + y_half)) :: m_l_ahead_right_c3 y_half xs_
def m_l_ahead_right_c4 (y_half : Int) : List (Int × Int) → List (Int × Int)
  | [] => []
  | e437 :: xs_ => ((e437.1 + y_half), (e437.2 + y_half)) :: m_l_ahead_right_c4 y_half xs_
def m_l_ahead_right_c5  : List Str → Option (List Str)
  | [] => some []
  | e661 :: xs_ =>
    Option.bind (catS ("1" : Str) e661) fun t665 =>
    Option.bind (m_l_ahead_right_c5  xs_) fun rest669 => some (t665 :: rest669)
def m_l_ahead_right_c6 (y_size : Int) : List Str → Option (List (Int × Int))
  | [] => some []
  | e797 :: xs_ =>
    Option.bind (m_span_of e797 y_size) fun r801 =>
    Option.bind (m_l_ahead_right_c6 y_size xs_) fun rest824 => some (r801 :: rest824)
def m_l_ahead_right_c7 (y_half : Int) : List (Int × Int) → List (Int × Int)
  | [] => []
  | e951 :: xs_ => ((e951.1 + y_half), (e951.2 + y_half)) :: m_l_ahead_right_c7 y_half xs_
def m_l_ahead_right_c8 (y_size : Int) : List Str → Option (List (Int × Int))
  | [] => some []
  | e1135 :: xs_ =>
    Option.bind (catS ("1" : Str) e1135) fun t1139 =>
    Option.bind (m_span_of t1139 (y_size + (1 : Int))) fun r1142 =>
    Option.bind (m_l_ahead_right_c8 y_size xs_) fun rest1167 => some (r1142 :: rest1167)
def m_l_ahead_right (y_some_here : (List Str)) (y_ends : (List (Int × Int))) (y_size : Int) : Option Bool :=
  Option.bind (shlI (1 : Int) y_size) fun t1 =>
  Option.bind (m_parts_of y_some_here y_size) fun r6 =>
  Option.bind (m_l_ahead_right_c1  y_some_here) fun l27 =>
  Option.bind (m_l_ahead_right_c2  y_some_here) fun l93 =>
  Option.bind (conL l27 l93) fun t155 =>
  Option.bind (conL t155 ([("0*" : Str)] : List Str)) fun t184 =>
  Option.bind (m_parts_of t184 (y_size + (1 : Int))) fun r204 =>
  Option.bind (conL r6 (m_l_ahead_right_c3 t1 r6)) fun t346 =>
  if (!eqD r204 t346) then (some false) else (Option.bind (some (m_l_ahead_right_c4 t1 y_ends)) fun y_far505 =>
 Option.bind (m_cover y_far505 (y_size + (1 : Int))) fun r509 =>
 Option.bind (m_cover y_ends y_size) fun r544 =>
 Option.bind (m_l_ahead_right_c5  r544) fun l609 =>
 if (!eqD r509 l609) then (some false) else (Option.bind (m_l_ahead_right_c6 y_size y_some_here) fun l743 =>
 Option.bind (some (m_l_ahead_right_c7 t1 l743)) fun y_due1039 =>
 Option.bind (m_l_ahead_right_c8 y_size y_some_here) fun l1077 =>
 some (eqD l1077 y_due1039)))
abbrev N_l_ahead_right : List Str := ["_law_some_here", "_law_ends", "_law_size", "_law_half", "_law_told", "_law_twice", "_law_far", "_law_due", "_law_first", "_law_behind", "_law_one_here"]
theorem sc_l_ahead_right : FnScope N_l_ahead_right ["_law_some_here", "_law_ends", "_law_size"] (defScope s_l_ahead_right) := ⟨rfl, rfl, rfl, by decide +kernel, rfl, by decide +kernel, by decide +kernel⟩
def sp_l_ahead_right (K : PySem.W.Frag) : Sp := fun vs H Q _ => ∃ (p_y_some_here : Addr) (ws_y_some_here : List V) (y_some_here : (List Str)) (p_y_ends : Addr) (ws_y_ends : List V) (y_ends : (List (Int × Int))) (y_size : Int) (r : Bool), vs = [.ref p_y_some_here, .ref p_y_ends, .int y_size] ∧ SqL K H p_y_some_here ws_y_some_here ∧ ws_y_some_here.length ≤ sizeLine ∧ RL K H ws_y_some_here y_some_here ∧ ¬ M0 p_y_some_here ∧ SqL K H p_y_ends ws_y_ends ∧ ws_y_ends.length ≤ sizeLine ∧ RL K H ws_y_ends y_ends ∧ ¬ M0 p_y_ends ∧ m_l_ahead_right y_some_here y_ends y_size = some r ∧ (∀ F' H', Gr M0 H H F' H' → Q (.bl r) H')
/-! ### l_behind_right -/
def m_l_behind_right_c1  : List Str → Option (List Str)
  | [] => some []
  | e33 :: xs_ =>
    Option.bind (if (eqS (cutS e33 (some (-(1 : Int))) none) ("*" : Str)) then ( some (e33)) else (Option.bind (catS e33 ("*" : Str)) fun t44 => some (t44))) fun c37 =>
    Option.bind (m_l_behind_right_c1  xs_) fun rest56 => some (c37 :: rest56)
def m_l_behind_right_c2  : List (Int × Int) → List (Int × Int)
  | [] => []
  | e149 :: xs_ => (((2 : Int) * e149.1), ((2 : Int) * e149.2)) :: m_l_behind_right_c2  xs_
def m_l_behind_right_c3  : List Str → Option (List Str)
  | [] => some []
  | e270 :: xs_ =>
    Option.bind (if (eqS (cutS e270 (some (-(1 : Int))) none) ("*" : Str)) then ( some (e270)) else (Option.bind (catS e270 ("*" : Str)) fun t281 => some (t281))) fun c274 =>
    Option.bind (m_l_behind_right_c3  xs_) fun rest298 => some (c274 :: rest298)
def m_l_behind_right_c4  : List (Int × Int) → List (Int × Int)
  | [] => []
  | e377 :: xs_ => (((2 : Int) * e377.1), ((2 : Int) * e377.2)) :: m_l_behind_right_c4  xs_
def m_l_behind_right (y_some_here : (List Str)) (y_ends : (List (Int × Int))) (y_size : Int) : Option Bool :=
  Option.bind (m_l_behind_right_c1  y_some_here) fun l5 =>
  Option.bind (m_parts_of l5 (y_size + (1 : Int))) fun r74 =>
  Option.bind (m_parts_of y_some_here y_size) fun r91 =>
  if (!eqD r74 (m_l_behind_right_c2  r91)) then (some false) else (Option.bind (m_cover y_ends y_size) fun r195 =>
 Option.bind (m_l_behind_right_c3  r195) fun l232 =>
 Option.bind (m_cover (m_l_behind_right_c4  y_ends) (y_size + (1 : Int))) fun r433 =>
 some (eqD r433 l232))
abbrev N_l_behind_right : List Str := ["_law_some_here", "_law_ends", "_law_size", "_law_longer", "_law_due", "_law_one_here", "_law_first", "_law_behind"]
theorem sc_l_behind_right : FnScope N_l_behind_right ["_law_some_here", "_law_ends", "_law_size"] (defScope s_l_behind_right) := ⟨rfl, rfl, rfl, by decide +kernel, rfl, by decide +kernel, by decide +kernel⟩
def sp_l_behind_right (K : PySem.W.Frag) : Sp := fun vs H Q _ => ∃ (p_y_some_here : Addr) (ws_y_some_here : List V) (y_some_here : (List Str)) (p_y_ends : Addr) (ws_y_ends : List V) (y_ends : (List (Int × Int))) (y_size : Int) (r : Bool), vs = [.ref p_y_some_here, .ref p_y_ends, .int y_size] ∧ SqL K H p_y_some_here ws_y_some_here ∧ ws_y_some_here.length ≤ sizeLine ∧ RL K H ws_y_some_here y_some_here ∧ ¬ M0 p_y_some_here ∧ SqL K H p_y_ends ws_y_ends ∧ ws_y_ends.length ≤ sizeLine ∧ RL K H ws_y_ends y_ends ∧ ¬ M0 p_y_ends ∧ m_l_behind_right y_some_here y_ends y_size = some r ∧ (∀ F' H', Gr M0 H H F' H' → Q (.bl r) H')
/-! ### law -/
def m_law_l1 (y_size : Int) : List Int → Bag → (Option (Lp (Bag) (Bool × Bag)))
  | [], b => some (.go b)
  | e57 :: xs_, b =>
    bind2 (m_l_some b y_size (16 : Int)) fun r59 b60 =>
    bind2 (m_l_stretches b60 y_size) fun r77 b78 =>
    Option.bind (m_l_turned_right r59 r77 y_size) fun r97 =>
    Option.bind (if (!r97) then some true else (Option.bind (m_l_ahead_right r59 r77 y_size) fun r112 => some ((!r112)))) fun c107 =>
    if c107 then (some (.ret (false, b78))) else (Option.bind (m_l_behind_right r59 r77 y_size) fun r132 =>
 if (!r132) then (some (.ret (false, b78))) else (m_law_l1 y_size xs_ b78))
def m_law (b : Bag)  : Option (Bool × Bag) :=
  bind2 (m_l_draw b (5 : Int)) fun r1 b2 =>
  bind2 (m_l_draw b2 (29 : Int)) fun r10 b11 =>
  bind2 (m_l_draw b11 (2 : Int)) fun r26 b27 =>
  Option.bind (atI ([((1 : Int) + r1), ((1 : Int) + r10)] : List Int) r26) fun t36 =>
  bindL1 (m_law_l1 t36 (rangeL (0 : Int) 2) b27) (fun b41 => some (true, b41)) (fun r_ => some r_)
abbrev N_law : List Str := ["_law_script", "_law_bag_here", "_law_size", "_law_k", "_law_some_here", "_law_ends"]
theorem sc_law : FnScope N_law ["_law_script"] (defScope s_law) := ⟨rfl, rfl, rfl, by decide +kernel, rfl, by decide +kernel, by decide +kernel⟩
def sp_law (K : PySem.W.Frag) : Sp := fun vs H Q _ => ∃ (a : Addr) (ns : List Int), vs = [.ref a] ∧ SqL K H a (ns.map V.int) ∧ ns.length ≤ 63 ∧ (∀ H', Q (.bl true) H')

end K06
namespace K06
open PySem PySem.Spec PyProof.Rows L2 TL G
theorem ok_bits_of {P : Program} {w : World} {K : PySem.W.Frag} {mg : Str → Option Value} {base : Heap} (T : Txt K mg) : FnOk P w K mg base CX0 1 T.a_bits_of T.d_bits_of ["pattern"] (sp_bits_of K) := by
  refine fd_ok T.F_bits_of sc_bits_of (fun vs H Q E h => ?_) (fun cdv A outer s H0 vs Q E hr h => ?_)
  · obtain ⟨_, rfl, _⟩ := h
    rfl
  · obtain ⟨x_pattern, rfl, gs_x_pattern, hQ⟩ := h
    refine ⟨_, (pss_one (ps_ret (pe_ix (ix_tupK (K := K)) (pe_partition (pv 0) (pe_glob (v := (V.str ("*" : Str))) rfl T.k_STAR ⟨_, rfl⟩)) pe_int (fun _ _ => rfl)))), ?_⟩
    have g0 : Gr M0 H0 H0 H0 H0 := Gr.refl (Same.refl _)
    unfold m_bits_of at hQ
    refine p_ret ?_
    refine ⟨(V.str x_pattern), rfl, ⟨_, rfl⟩, _, _, rfl, rfl, (by decide +kernel), (gs_x_pattern : GS x_pattern).len, fun p1 np2 => ?_⟩
    have sm3 := same_new (o := (.tup [.str (Txt.partition x_pattern ("*" : Str)).1, .str (Txt.partition x_pattern ("*" : Str)).2.1, .str (Txt.partition x_pattern ("*" : Str)).2.2])) (g0.noneF np2)
    have g4 := g0.frz (o := (.tup [.str (Txt.partition x_pattern ("*" : Str)).1, .str (Txt.partition x_pattern ("*" : Str)).2.1, .str (Txt.partition x_pattern ("*" : Str)).2.2])) np2
    have gp6 := GS.part (gs_x_pattern : GS x_pattern) (⟨by decide +kernel, by decide +kernel⟩ : GS ("*" : Str))
    have r5 : R K (upd H0 p1 (.tup [.str (Txt.partition x_pattern ("*" : Str)).1, .str (Txt.partition x_pattern ("*" : Str)).2.1, .str (Txt.partition x_pattern ("*" : Str)).2.2])) (.ref p1) ((partS x_pattern ("*" : Str)) : (T3 Str Str Str)) := R.mk3 fzT (.str _ gp6.1) (.str _ gp6.2.1) (.str _ gp6.2.2)
    obtain ⟨p7, v10, v11, v12, ev8, hS9, r13, r14, r15⟩ := R.p3_v r5
    obtain ⟨rfl, gs16⟩ := R.str_v r13
    obtain ⟨rfl, gs17⟩ := R.str_v r14
    obtain ⟨rfl, gs18⟩ := R.str_v r15
    refine ⟨p7, _, _, (V.str (partS x_pattern ("*" : Str)).a), ev8, rfl, (SqT_mono g4.fh hS9), rfl, (hQ _ _ g4 gs16)⟩
end K06
namespace K06
open PySem PySem.Spec PyProof.Rows L2 TL G
theorem ok_span_of {P : Program} {w : World} {K : PySem.W.Frag} {mg : Str → Option Value} {base : Heap} (T : Txt K mg) : FnOk P w K mg base CX0 2 T.a_span_of T.d_span_of ["pattern", "width"] (sp_span_of K) := by
  have G_bits_of : FnOk P w K mg base CX0 1 T.a_bits_of T.d_bits_of ["pattern"] (sp_bits_of K) := ok_bits_of T
  have b_bits_of := T.F_bits_of.bindsN (ps := ["pattern"]) fun _ _ _ _ _ _ us hl => match us, hl with | [_], _ => rfl
  refine fd_ok T.F_span_of sc_span_of (fun vs H Q E h => ?_) (fun cdv A outer s H0 vs Q E hr h => ?_)
  · obtain ⟨_, _, _, _, rfl, _⟩ := h
    rfl
  · obtain ⟨F0, x_pattern, x_width, r, rfl, hS0, gs_x_pattern, hm, hQ⟩ := h
    refine ⟨_, (pss_cons (ps_set (i := 2) sc_span_of.nd rfl (.inl rfl) (pe_call G_bits_of (hr.mono (by decide)) (by rfl) T.g_bits_of T.F_bits_of.kp b_bits_of .nil pass0 (pa_cons (pv 0) pa_nil))) (pss_cons (ps_set (i := 3) sc_span_of.nd rfl (.inl rfl) pe_int) (pss_cons (ps_for PassesOwn.never rfl (pi_str (pv 2)) (pg_name (i := 4) sc_span_of.nd rfl (Or.inl rfl)) (pss_one (ps_set (i := 3) sc_span_of.nd rfl (.inl rfl) (pe_op op_add (pe_op op_mul pe_int (pv 3)) (pe_callTy call_toI (by rfl) T.n_int (by decide +kernel) (pa_cons (pe_cmpR op_eq (pv 4) pe_str (nomark _)) pa_nil)))))) (pss_cons (ps_set (i := 5) sc_span_of.nd rfl (.inl rfl) (pe_op op_shl pe_int (pe_op op_sub (pv 1) (pe_callB call_len_str (by rfl) T.n_len (by decide +kernel) (pa_cons (pv 2) pa_nil))))) (pss_one (ps_ret (pe_tup (pa_cons (pe_op op_mulW (pv 3) (pv 5)) (pa_cons (pe_op op_mulW (pe_op op_add (pv 3) pe_int) (pv 5)) pa_nil))))))))), ?_⟩
    have g0 : Gr M0 F0 H0 F0 H0 := Gr.refl hS0
    unfold m_span_of at hm
    refine p_seq ?_
    refine p_asg ?_
    refine ⟨(V.str x_pattern), rfl, x_pattern, rfl, gs_x_pattern, fun F2 H3 g4 gs5 => ?_⟩
    have g6 := Gr.apart g0 g4
    obtain ⟨x_bits7, hb8, hm⟩ := bnd hm
    have hx9 : (m_bits_of x_pattern) = x_bits7 := sjoin hb8
    have gs10 : GS x_bits7 := hx9 ▸ (gs5 : GS (m_bits_of x_pattern))
    refine p_nm (v' := (V.str x_bits7)) (congrArg V.str hx9) ?_
    refine p_nx ?_
    refine p_seq ?_
    refine p_asg ?_
    refine p_name ?_
    refine p_nx ?_
    refine p_seq ?_
    refine p_for ?_
    refine ⟨(V.str x_bits7), rfl, x_bits7, rfl, ?_⟩
    obtain ⟨x_number11, ht12, hm⟩ := bnd hm
    refine for_str (z := x_bits7) (fun i σ' H' => ∃ (F' : Hp) (x_number : Int) (o_x_sign : Option V), σ' = [(some (V.str x_pattern)), (some (V.int x_width)), (some (V.str x_bits7)), (some (V.int x_number)), o_x_sign, none] ∧ Gr M0 F0 H0 F' H' ∧ Same F0 F' ∧ m_span_of_l1  ((x_bits7).cps.toList.drop i) x_number = some x_number11) ?_ ?_ ?_
    · exact ⟨F0, (0 : Int), none, rfl, g6, (Same.refl _), ht12⟩
    · intro i13 xv16 σ' H15 hx14 hP
      obtain ⟨F17, x_number18, o_x_sign19, rfl, g20, sm21, hm22⟩ := hP
      have he24 := str_at hx14
      rw [drop_at he24, m_span_of_l1.eq_2] at hm22
      refine p_name ?_
      refine p_asg ?_
      refine ⟨(V.int x_number18), rfl, _, _, rfl, rfl, (.inl ⟨by decide, by decide⟩), (V.str (sgn xv16)), rfl, rfl, _, rfl, _, _, rfl, rfl, ?_⟩
      obtain ⟨x_number25, hb26, hm22⟩ := bnd hm22
      have hx27 : (((2 : Int) * x_number18) + (toI (eqS (sgn xv16) ("1" : Str)))) = x_number25 := sjoin hb26
      refine p_nm (v' := (V.int x_number25)) (congrArg V.int hx27) ?_
      exact ⟨F17, x_number25, (some (V.str (sgn xv16))), rfl, g20, sm21, hm22⟩
    intro σ28 H29 hP
    obtain ⟨F30, x_number31, o_x_sign32, rfl, g33, sm34, hm35⟩ := hP
    rw [drop_end str_size, m_span_of_l1.eq_1] at hm35
    obtain rfl := sjoin hm35
    refine p_nx ?_
    refine p_seq ?_
    refine p_asg ?_
    obtain ⟨t36, hb37, hm⟩ := bnd hm
    obtain ⟨hk38, rfl⟩ := shlI_ok hb37
    refine ⟨(V.int x_width), rfl, (V.str x_bits7), rfl, _, rfl, (gs10 : GS x_bits7).len, _, _, rfl, rfl, _, _, rfl, rfl, hk38, ?_⟩
    obtain ⟨x_size39, hx40⟩ : ∃ z_, ((1 : Int) * 2 ^ ((x_width - ((x_bits7.length : Nat) : Int))).toNat) = z_ := ⟨_, rfl⟩
    try rw [hx40] at hm
    refine p_nm (v' := (V.int x_size39)) (congrArg V.int hx40) ?_
    refine p_nx ?_
    refine p_ret ?_
    obtain ⟨t41, hb42, hm⟩ := bnd hm
    obtain ⟨hk43, rfl⟩ := mulI_ok hb42
    obtain ⟨t44, hb45, hm⟩ := bnd hm
    obtain ⟨hk46, rfl⟩ := mulI_ok hb45
    refine ⟨(V.int x_number31), rfl, (V.int x_size39), rfl, _, _, rfl, rfl, hk43, (V.int x_number31), rfl, _, _, rfl, rfl, (V.int x_size39), rfl, _, _, rfl, rfl, hk46, (by show 2 ≤ sizeLine; decide), fun p47 np48 => ?_⟩
    have sm49 := same_new (o := (.tup [(V.int (x_number31 * x_size39)), (V.int ((x_number31 + (1 : Int)) * x_size39))])) (g33.noneF np48)
    have g50 := g33.frz (o := (.tup [(V.int (x_number31 * x_size39)), (V.int ((x_number31 + (1 : Int)) * x_size39))])) np48
    have r51 : R K (upd F30 p47 (.tup [(V.int (x_number31 * x_size39)), (V.int ((x_number31 + (1 : Int)) * x_size39))])) (.ref p47) (((x_number31 * x_size39), ((x_number31 + (1 : Int)) * x_size39)) : (Int × Int)) := R.mk2 fzT (Rp.int (x_number31 * x_size39)) (Rp.int ((x_number31 + (1 : Int)) * x_size39))
    obtain rfl := sjoin hm
    exact (hQ _ _ _ g50 r51)
end K06
namespace K06
open PySem PySem.Spec PyProof.Rows L2 TL G
theorem ok_parts_of {P : Program} {w : World} {K : PySem.W.Frag} {mg : Str → Option Value} {base : Heap} (T : Txt K mg) : FnOk P w K mg base CX0 3 T.a_parts_of T.d_parts_of ["patterns", "width"] (sp_parts_of K) := by
  have G_span_of : FnOk P w K mg base CX0 2 T.a_span_of T.d_span_of ["pattern", "width"] (sp_span_of K) := ok_span_of T
  have b_span_of := T.F_span_of.bindsN (ps := ["pattern", "width"]) fun _ _ _ _ _ _ us hl => match us, hl with | [_, _], _ => rfl
  refine fd_ok T.F_parts_of sc_parts_of (fun vs H Q E h => ?_) (fun cdv A outer s H0 vs Q E hr h => ?_)
  · obtain ⟨_, _, _, _, _, _, rfl, _⟩ := h
    rfl
  · obtain ⟨F0, p_x_patterns, ws_x_patterns, x_patterns, x_width, r, rfl, hS0, hS_x_patterns, hl_x_patterns, hA_x_patterns, nm_x_patterns, hm, hQ⟩ := h
    refine ⟨_, (pss_cons (ps_set (i := 2) sc_parts_of.nd rfl (.inl rfl) (pe_lst (pa_cons pe_int (pa_cons (pe_op op_shl pe_int (pv 1)) pa_nil)))) (pss_cons (ps_for PassesOwn.never rfl (pi_listK (K := K) (pv 0)) (pg_name (i := 3) sc_parts_of.nd rfl (Or.inl rfl)) (pss_one (ps_expr (pe_bmK (K := K) PySem.F.plainAttrs_list PySem.F.slot_list_extend PySem.F.type_list_extend (mt_extTK (K := K)) (pv 2) (pa_cons (pe_call G_span_of (hr.mono (by decide)) (by rfl) T.g_span_of T.F_span_of.kp b_span_of .nil pass0 (pa_cons (pv 3) (pa_cons (pv 1) pa_nil))) pa_nil))))) (pss_cons (ps_set (i := 4) sc_parts_of.nd rfl (.inl rfl) (pe_ssetK (K := K) rfl (by rfl) T.n_sorted (by rfl) T.n_set (pv 2))) (pss_one (ps_ret (pe_lzipK (K := K) rfl (by rfl) T.n_list (by rfl) T.n_zip (pa_cons (pv 4) (pa_cons (pe_slice (sl_listK (K := K)) (pv 4) (po_some pe_int) po_none) pa_nil)))))))), ?_⟩
    have g0 : Gr M0 F0 H0 F0 H0 := Gr.refl hS0
    unfold m_parts_of at hm
    refine p_seq ?_
    refine p_asg ?_
    obtain ⟨t1, hb2, hm⟩ := bnd hm
    obtain ⟨hk3, rfl⟩ := shlI_ok hb2
    refine ⟨(V.int x_width), rfl, _, _, rfl, rfl, hk3, (by show 2 ≤ sizeLine; decide), fun p4 np5 => ?_⟩
    have g6 := g0.own (o := (.lst [(V.int (0 : Int)), (V.int ((1 : Int) * 2 ^ (x_width).toNat))])) np5
    have ow7 : Ow H0 F0 (upd H0 p4 (.lst [(V.int (0 : Int)), (V.int ((1 : Int) * 2 ^ (x_width).toNat))])) p4 [(V.int (0 : Int)), (V.int ((1 : Int) * 2 ^ (x_width).toNat))] := Ow.new g0 np5
    have hA8 : RL K F0 [(V.int (0 : Int)), (V.int ((1 : Int) * 2 ^ (x_width).toNat))] ([(0 : Int), ((1 : Int) * 2 ^ (x_width).toNat)] : List Int) := (RpA.cons (Rp.int (0 : Int)) (RpA.cons (Rp.int ((1 : Int) * 2 ^ (x_width).toNat)) RpA.nil))
    obtain ⟨x_edges9, hb10, hm⟩ := bnd hm
    have hx11 : ([(0 : Int), ((1 : Int) * 2 ^ (x_width).toNat)] : List Int) = x_edges9 := sjoin hb10
    have hA12 : RL K F0 [(V.int (0 : Int)), (V.int ((1 : Int) * 2 ^ (x_width).toNat))] x_edges9 := RL.re hx11 hA8
    refine p_name ?_
    refine p_nx ?_
    refine p_seq ?_
    refine p_for ?_
    refine ⟨(V.ref p_x_patterns), rfl, p_x_patterns, rfl, ⟨_, (g6.seq nm_x_patterns hS_x_patterns)⟩, ?_⟩
    obtain ⟨x_edges13, ht14, hm⟩ := bnd hm
    refine for_list (K := K) (a := p_x_patterns) (xs := ws_x_patterns) (fun i σ' H' => ∃ (F' : Hp) (o_x_pattern : Option V) (x_edges : (List Int)) (ws_x_edges : List V), σ' = [(some (V.ref p_x_patterns)), (some (V.int x_width)), (some (V.ref p4)), o_x_pattern, none] ∧ Gr M0 F0 H0 F' H' ∧ Same F0 F' ∧ Ow H0 F' H' p4 ws_x_edges ∧ ws_x_edges.length ≤ sizeLine ∧ RL K F' ws_x_edges x_edges ∧ m_parts_of_l1 x_width (x_patterns.drop i) x_edges = some x_edges13) ?_ ?_ ?_ ?_
    · exact ⟨F0, none, x_edges9, [(V.int (0 : Int)), (V.int ((1 : Int) * 2 ^ (x_width).toNat))], rfl, g6, (Same.refl _), ow7, (by show 2 ≤ sizeLine; decide), hA12, ht14⟩
    · intro i σ' H' _ hP
      obtain ⟨F', o_x_pattern, x_edges, ws_x_edges, rfl, g_, sm_, ow_x_edges, hl_x_edges, hA_x_edges, hm_⟩ := hP
      exact (g_.seq nm_x_patterns hS_x_patterns)
    · intro i15 xv18 σ' H17 hx16 hP
      obtain ⟨F19, o_x_pattern20, x_edges21, ws_x_edges22, rfl, g23, sm24, ow_x_edges25, hl_x_edges26, hA_x_edges27, hm28⟩ := hP
      obtain ⟨e29, he30, r31⟩ := RL.get (hA_x_patterns.up sm24) hx16
      obtain ⟨rfl, gs32⟩ := R.str_v r31
      rw [drop_at he30, m_parts_of_l1.eq_2] at hm28
      refine p_name ?_
      refine p_drop ?_
      obtain ⟨r33, hb34, hm28⟩ := bnd hm28
      refine ⟨(V.ref p4), rfl, (.inl ⟨rfl, _, ow_x_edges25.sq⟩), (V.str e29), rfl, (V.int x_width), rfl, F19, e29, x_width, r33, rfl, g23.fh, gs32, hb34, fun v38 F35 H36 g37 r39 => ?_⟩
      have g40 := Gr.trans g23 g37
      have ow41 := ow_x_edges25.gr0 g37
      obtain ⟨p42, v45, v46, ev43, hS44, r47, r48⟩ := R.p2_v r39
      obtain rfl := R.int_v r47
      obtain rfl := R.int_v r48
      have hA49 : RL K F35 [(V.int r33.1), (V.int r33.2)] ([r33.1, r33.2] : List Int) := (RpA.cons (Rp.int r33.1) (RpA.cons (Rp.int r33.2) RpA.nil))
      obtain ⟨t50, hb51, hm28⟩ := bnd hm28
      obtain ⟨hk52, rfl⟩ := conL_ok hb51
      refine ⟨p4, p42, ws_x_edges22, [(V.int r33.1), (V.int r33.2)], rfl, (by rw [ev43]), ow41.h, (SqT_mono g40.fh hS44), (by rw [RL.len (hA_x_edges27.up g37.ff), RL.len hA49]; exact hk52), ?_⟩
      have hA53 := RL.app (hA_x_edges27.up g37.ff) hA49
      have hl54 : (ws_x_edges22 ++ [(V.int r33.1), (V.int r33.2)]).length ≤ sizeLine := by rw [List.length_append, RL.len (hA_x_edges27.up g37.ff), RL.len hA49]; exact hk52
      have g55 := g40.put (o := (.lst (ws_x_edges22 ++ [(V.int r33.1), (V.int r33.2)]))) ow41
      have ow56 := ow41.put (us := (ws_x_edges22 ++ [(V.int r33.1), (V.int r33.2)]))
      exact ⟨F35, (some (V.str e29)), (x_edges21 ++ ([r33.1, r33.2] : List Int)), (ws_x_edges22 ++ [(V.int r33.1), (V.int r33.2)]), rfl, g55, (Same.trans sm24 g37.ff), ow56, hl54, hA53, hm28⟩
    intro σ57 H58 hP
    obtain ⟨F59, o_x_pattern60, x_edges61, ws_x_edges62, rfl, g63, sm64, ow_x_edges65, hl_x_edges66, hA_x_edges67, hm68⟩ := hP
    rw [drop_end (RL.len (hA_x_patterns.up sm64)), m_parts_of_l1.eq_1] at hm68
    obtain rfl := sjoin hm68
    refine p_nx ?_
    refine p_seq ?_
    refine p_asg ?_
    obtain ⟨t69, hb70, hm⟩ := bnd hm
    obtain ⟨hk71, hss_⟩ := ssetO_ok hb70
    subst hss_
    refine ⟨(V.ref p4), rfl, p4, x_edges61, rfl, (by rw [← RL.ints hA_x_edges67]; exact ow_x_edges65.sq), hk71, fun ns72 p76 so73 mm74 ln75 np77 => ?_⟩
    obtain rfl := ssort_uniq so73 mm74
    have hl78 : ((ssort x_edges61).map V.int).length ≤ sizeLine := by rw [List.length_map, sizeLine_eq]; omega
    have hA79 : RL K F59 ((ssort x_edges61).map V.int) (ssort x_edges61) := RL.ofInts _
    have ne80 := ow_x_edges65.ne np77
    have g81 := g63.own (o := (.lst ((ssort x_edges61).map V.int))) np77
    have ow82 := ow_x_edges65.own (o := (.lst ((ssort x_edges61).map V.int))) np77
    have ow83 : Ow H0 F59 (upd H58 p76 (.lst ((ssort x_edges61).map V.int))) p76 ((ssort x_edges61).map V.int) := Ow.new g63 np77
    obtain ⟨x_rising84, hx85⟩ : ∃ z_, (ssort x_edges61) = z_ := ⟨_, rfl⟩
    try rw [hx85] at hm
    have hA86 : RL K F59 ((ssort x_edges61).map V.int) x_rising84 := RL.re hx85 hA79
    refine p_name ?_
    refine p_nx ?_
    refine p_ret ?_
    refine ⟨(V.ref p76), rfl, (V.ref p76), rfl, _, rfl, p76, ((ssort x_edges61).map V.int), rfl, ow83.sq, fun p87 np88 => ?_⟩
    have hA89 := RL.cut (some (1 : Int)) none hA86
    have ne90 := ow82.ne np88
    have ne91 := ow83.ne np88
    have g92 := g81.own (o := (.lst (cutV ((ssort x_edges61).map V.int) (some (1 : Int)) none))) np88
    have ow93 := ow82.own (o := (.lst (cutV ((ssort x_edges61).map V.int) (some (1 : Int)) none))) np88
    have ow94 := ow83.own (o := (.lst (cutV ((ssort x_edges61).map V.int) (some (1 : Int)) none))) np88
    have ow95 : Ow H0 F59 (upd (upd H58 p76 (.lst ((ssort x_edges61).map V.int))) p87 (.lst (cutV ((ssort x_edges61).map V.int) (some (1 : Int)) none))) p87 (cutV ((ssort x_edges61).map V.int) (some (1 : Int)) none) := Ow.new g81 np88
    refine ⟨p76, p87, ((ssort x_edges61).map V.int), (cutV ((ssort x_edges61).map V.int) (some (1 : Int)) none), rfl, ow94.sq, ow95.sq, fun l96 p97 nw98 f99 f100 np101 => ?_⟩
    have g102 : Gr M0 F59 (upd (upd H58 p76 (.lst ((ssort x_edges61).map V.int))) p87 (.lst (cutV ((ssort x_edges61).map V.int) (some (1 : Int)) none))) (tupsU F59 l96) (tupsU (upd (upd H58 p76 (.lst ((ssort x_edges61).map V.int))) p87 (.lst (cutV ((ssort x_edges61).map V.int) (some (1 : Int)) none))) l96) := tupsU_gr (Gr.refl g92.fh) nw98
    have hA103 : RL K (tupsU F59 l96) (l96.map fun q => V.ref q.1) (List.zip x_rising84 (cutL x_rising84 (some (1 : Int)) none)) := lz_RL nw98 g102.ff f99 f100 hA86 hA89
    have hl104 := lz_len f99 hl78
    have g105 := Gr.trans g92 g102
    have ow106 := ow93.gr0 g102
    have ow107 := ow94.gr0 g102
    have ow108 := ow95.gr0 g102
    have ne109 := ow106.ne np101
    have ne110 := ow107.ne np101
    have ne111 := ow108.ne np101
    have g112 := g105.own (o := (.lst (l96.map fun q => V.ref q.1))) np101
    have ow113 := ow106.own (o := (.lst (l96.map fun q => V.ref q.1))) np101
    have ow114 := ow107.own (o := (.lst (l96.map fun q => V.ref q.1))) np101
    have ow115 := ow108.own (o := (.lst (l96.map fun q => V.ref q.1))) np101
    have ow116 : Ow H0 (tupsU F59 l96) (upd (tupsU (upd (upd H58 p76 (.lst ((ssort x_edges61).map V.int))) p87 (.lst (cutV ((ssort x_edges61).map V.int) (some (1 : Int)) none))) l96) p97 (.lst (l96.map fun q => V.ref q.1))) p97 (l96.map fun q => V.ref q.1) := Ow.new g105 np101
    obtain rfl := sjoin hm
    exact (hQ _ _ _ _ g112 ow116.n0 ow116.h ow116.nF hl104 hA103)
end K06
namespace K06
open PySem PySem.Spec PyProof.Rows L2 TL G
theorem ok_joined {P : Program} {w : World} {K : PySem.W.Frag} {mg : Str → Option Value} {base : Heap} (T : Txt K mg) : FnOk P w K mg base CX0 1 T.a_joined T.d_joined ["spans"] (sp_joined K) := by
  refine fd_ok T.F_joined sc_joined (fun vs H Q E h => ?_) (fun cdv A outer s H0 vs Q E hr h => ?_)
  · obtain ⟨_, _, _, _, _, rfl, _⟩ := h
    rfl
  · obtain ⟨F0, p_x_spans, ws_x_spans, x_spans, r, rfl, hS0, hS_x_spans, hl_x_spans, hA_x_spans, nm_x_spans, hm, hQ⟩ := h
    refine ⟨_, (pss_cons (ps_set (i := 1) sc_joined.nd rfl (.inl rfl) (pe_lst pa_nil)) (pss_cons (ps_for PassesOwn.never rfl (pi_listK (K := K) (pv 0)) (pg_tupK (K := K) 2 rfl (pgs_cons (pg_name (i := 2) sc_joined.nd rfl (Or.inl rfl)) (pgs_cons (pg_name (i := 3) sc_joined.nd rfl (Or.inl rfl)) pgs_nil))) (pss_one (ps_if (PW.pt (pw_and (pt_cmpR (op_neDK (K := K) hr.units) (pv 1) (pe_lst pa_nil) (nomark _)) (pw_and1 (pt_cmpR op_eq (pe_ix (ix_tupK (K := K)) (pe_ix (ix_listK (K := K)) (pv 1) (pe_un un_neg pe_int) (fun _ _ => rfl)) pe_int (fun _ _ => rfl)) (pv 2) (nomark _))))) (pss_one (ps_asg (pe_tup (pa_cons (pe_ix (ix_tupK (K := K)) (pe_ix (ix_listK (K := K)) (pv 1) (pe_un un_neg pe_int) (fun _ _ => rfl)) pe_int (fun _ _ => rfl)) (pa_cons (pv 3) pa_nil))) (pg_sub (pv 1) (pe_un un_neg pe_int) set_list))) (pss_one (ps_expr (pe_bmK (K := K) PySem.F.plainAttrs_list PySem.F.slot_list_append PySem.F.type_list_append mt_append (pv 1) (pa_cons (pe_tup (pa_cons (pv 2) (pa_cons (pv 3) pa_nil))) pa_nil))))))) (pss_one (ps_ret (pv 1))))), ?_⟩
    have g0 : Gr M0 F0 H0 F0 H0 := Gr.refl hS0
    unfold m_joined at hm
    refine p_seq ?_
    refine p_asg ?_
    refine ⟨(by show 0 ≤ sizeLine; decide), fun p1 np2 => ?_⟩
    have g3 := g0.own (o := (.lst [])) np2
    have ow4 : Ow H0 F0 (upd H0 p1 (.lst [])) p1 [] := Ow.new g0 np2
    obtain ⟨x_found6, hb7, hm⟩ := bnd hm
    have hx8 : ([] : (List (Int × Int))) = x_found6 := sjoin hb7
    have hA9 : RL K F0 [] x_found6 := RL.re hx8 RpA.nil
    refine p_name ?_
    refine p_nx ?_
    refine p_seq ?_
    refine p_for ?_
    refine ⟨(V.ref p_x_spans), rfl, p_x_spans, rfl, ⟨_, (g3.seq nm_x_spans hS_x_spans)⟩, ?_⟩
    obtain ⟨x_found10, ht11, hm⟩ := bnd hm
    refine for_list (K := K) (a := p_x_spans) (xs := ws_x_spans) (fun i σ' H' => ∃ (F' : Hp) (o_x_first : Option V) (o_x_behind : Option V) (x_found : (List (Int × Int))) (ws_x_found : List V), σ' = [(some (V.ref p_x_spans)), (some (V.ref p1)), o_x_first, o_x_behind] ∧ Gr M0 F0 H0 F' H' ∧ Same F0 F' ∧ Ow H0 F' H' p1 ws_x_found ∧ ws_x_found.length ≤ sizeLine ∧ RL K F' ws_x_found x_found ∧ m_joined_l1  (x_spans.drop i) x_found = some x_found10) ?_ ?_ ?_ ?_
    · exact ⟨F0, none, none, x_found6, [], rfl, g3, (Same.refl _), ow4, (by show 0 ≤ sizeLine; decide), hA9, ht11⟩
    · intro i σ' H' _ hP
      obtain ⟨F', o_x_first, o_x_behind, x_found, ws_x_found, rfl, g_, sm_, ow_x_found, hl_x_found, hA_x_found, hm_⟩ := hP
      exact (g_.seq nm_x_spans hS_x_spans)
    · intro i12 xv15 σ' H14 hx13 hP
      obtain ⟨F16, o_x_first17, o_x_behind18, x_found19, ws_x_found20, rfl, g21, sm22, ow_x_found23, hl_x_found24, hA_x_found25, hm26⟩ := hP
      obtain ⟨e27, he28, r29⟩ := RL.get (hA_x_spans.up sm22) hx13
      rw [drop_at he28, m_joined_l1.eq_2] at hm26
      obtain ⟨p30, v33, v34, ev31, hS32, r35, r36⟩ := R.p2_v r29
      obtain rfl := R.int_v r35
      obtain rfl := R.int_v r36
      refine ⟨p30, [(V.int e27.1), (V.int e27.2)], ev31, (SqT_mono g21.fh hS32), rfl, (V.int e27.1), [(V.int e27.2)], rfl, (V.int e27.2), [], rfl, rfl, ?_⟩
      refine p_if ?_
      refine ⟨(V.ref p1), rfl, (by show 0 ≤ sizeLine; decide), fun p37 np38 => ?_⟩
      have ne39 := ow_x_found23.ne np38
      have g40 := g21.own (o := (.lst [])) np38
      have ow41 := ow_x_found23.own (o := (.lst [])) np38
      have ow42 : Ow H0 F16 (upd H14 p37 (.lst [])) p37 [] := Ow.new g21 np38
      have rH44 : R K (upd H14 p37 (.lst [])) (V.ref p1) x_found19 := (R.mkl ow41.sq hl_x_found24 (RpA.up hA_x_found25 g40.fh))
      have rH45 : R K (upd H14 p37 (.lst [])) (V.ref p37) ([] : (List (Int × Int))) := (R.mkl ow42.sq (by show 0 ≤ sizeLine; decide) (RpA.up RpA.nil g40.fh))
      refine ⟨_, _, (Rp.dp _ _ rH44), (Rp.dp _ _ rH45), (R.shaped rH44), (R.shaped rH45), _, rfl, ?_⟩
      obtain ⟨c46, hc47, hm26⟩ := bnd hm26
      refine andJT (M := M0) (F := F16) (c := c46) (P := fun _ _ => True) (fun ha => ?_) (fun ha => ⟨(sjoin (ifF ha hc47)).symm, trivial⟩) g40.fh ?_
      · intro Q49 q50
        have hc47 := ifT ha hc47
        obtain ⟨t51, hb52, hc47⟩ := bnd hc47
        obtain ⟨v53, ha54, r55⟩ := RL.at hA_x_found25 hb52
        obtain ⟨p56, v59, v60, ev57, hS58, r61, r62⟩ := R.p2_v r55
        obtain rfl := R.int_v r61
        obtain rfl := R.int_v r62
        obtain rfl := sjoin hc47
        refine ⟨(V.ref p1), rfl, _, rfl, p1, ws_x_found20, _, v53, rfl, rfl, ow41.sq, ha54, p56, _, _, (V.int t51.2), ev57, rfl, (SqT_mono g40.fh hS58), rfl, (V.int e27.1), rfl, rfl, _, rfl, (q50 _ _ (Gr.refl (M := M0) g40.fh) trivial)⟩
      intro F63 H64 g65 hB66
      have g67 := Gr.trans g40 g65
      have ow68 := ow41.gr0 g65
      have ow69 := ow42.gr0 g65
      refine (iteB (fun hc => ?_) (fun hc => ?_))
      · have hm26 := ifT hc hm26
        refine p_asg ?_
        obtain ⟨t70, hb71, hm26⟩ := bnd hm26
        obtain ⟨v72, ha73, r74⟩ := RL.at (hA_x_found25.up g65.ff) hb71
        obtain ⟨p75, v78, v79, ev76, hS77, r80, r81⟩ := R.p2_v r74
        obtain rfl := R.int_v r80
        obtain rfl := R.int_v r81
        refine ⟨(V.ref p1), rfl, _, rfl, p1, ws_x_found20, _, v72, rfl, rfl, ow68.sq, ha73, p75, _, _, (V.int t70.1), ev76, rfl, (SqT_mono g67.fh hS77), rfl, (V.int e27.2), rfl, (by show 2 ≤ sizeLine; decide), fun p82 np83 => ?_⟩
        have ne84 := ow68.ne np83
        have ne85 := ow69.ne np83
        have sm86 := same_new (o := (.tup [(V.int t70.1), (V.int e27.2)])) (g67.noneF np83)
        have g87 := g67.frz (o := (.tup [(V.int t70.1), (V.int e27.2)])) np83
        have ow88 := ow68.frz (o := (.tup [(V.int t70.1), (V.int e27.2)])) np83
        have ow89 := ow69.frz (o := (.tup [(V.int t70.1), (V.int e27.2)])) np83
        have r90 : R K (upd F63 p82 (.tup [(V.int t70.1), (V.int e27.2)])) (.ref p82) ((t70.1, e27.2) : (Int × Int)) := R.mk2 fzT (Rp.int t70.1) (Rp.int e27.2)
        obtain ⟨t91, hb92, hm26⟩ := bnd hm26
        obtain ⟨j93, hj94, rfl⟩ := setL_ok hb92
        refine ⟨(V.ref p1), rfl, _, rfl, p1, _, _, j93, rfl, rfl, ow88.h, (by rw [RL.len (hA_x_found25.up (Same.trans g65.ff sm86))]; exact hj94), ?_⟩
        have hA96 := RL.set j93 r90 (hA_x_found25.up (Same.trans g65.ff sm86))
        have g97 := g87.put (o := (.lst (ws_x_found20.set j93 (V.ref p82)))) ow88
        have ow98 := ow89.other (o := (.lst (ws_x_found20.set j93 (V.ref p82)))) (Ne.symm ne39)
        have ow99 := ow88.put (us := (ws_x_found20.set j93 (V.ref p82)))
        exact ⟨(upd F63 p82 (.tup [(V.int t70.1), (V.int e27.2)])), (some (V.int e27.1)), (some (V.int e27.2)), (x_found19.set j93 (t70.1, e27.2)), (ws_x_found20.set j93 (V.ref p82)), rfl, g97, (Same.trans sm22 (Same.trans g65.ff sm86)), ow99, (by rw [List.length_set]; exact hl_x_found24), hA96, hm26⟩
      · have hm26 := ifF hc hm26
        refine p_drop ?_
        refine ⟨(V.ref p1), rfl, (.inl ⟨rfl, _, ow68.sq⟩), (V.int e27.1), rfl, (V.int e27.2), rfl, (by show 2 ≤ sizeLine; decide), fun p100 np101 => ?_⟩
        have ne102 := ow68.ne np101
        have ne103 := ow69.ne np101
        have sm104 := same_new (o := (.tup [(V.int e27.1), (V.int e27.2)])) (g67.noneF np101)
        have g105 := g67.frz (o := (.tup [(V.int e27.1), (V.int e27.2)])) np101
        have ow106 := ow68.frz (o := (.tup [(V.int e27.1), (V.int e27.2)])) np101
        have ow107 := ow69.frz (o := (.tup [(V.int e27.1), (V.int e27.2)])) np101
        have r108 : R K (upd F63 p100 (.tup [(V.int e27.1), (V.int e27.2)])) (.ref p100) ((e27.1, e27.2) : (Int × Int)) := R.mk2 fzT (Rp.int e27.1) (Rp.int e27.2)
        obtain ⟨t109, hb110, hm26⟩ := bnd hm26
        obtain ⟨hk111, rfl⟩ := appL_ok hb110
        refine ⟨p1, ws_x_found20, (V.ref p100), rfl, rfl, ow106.h, (by rw [RL.len (hA_x_found25.up (Same.trans g65.ff sm104))]; exact hk111), ?_⟩
        have hA112 : RL K (upd F63 p100 (.tup [(V.int e27.1), (V.int e27.2)])) (ws_x_found20 ++ [(V.ref p100)]) (x_found19 ++ [((e27.1, e27.2) : (Int × Int))]) := RL.snoc (hA_x_found25.up (Same.trans g65.ff sm104)) r108
        have hl113 : (ws_x_found20 ++ [(V.ref p100)]).length ≤ sizeLine := by rw [List.length_append, RL.len (hA_x_found25.up (Same.trans g65.ff sm104))]; exact hk111
        have g114 := g105.put (o := (.lst (ws_x_found20 ++ [(V.ref p100)]))) ow106
        have ow115 := ow107.other (o := (.lst (ws_x_found20 ++ [(V.ref p100)]))) (Ne.symm ne39)
        have ow116 := ow106.put (us := (ws_x_found20 ++ [(V.ref p100)]))
        exact ⟨(upd F63 p100 (.tup [(V.int e27.1), (V.int e27.2)])), (some (V.int e27.1)), (some (V.int e27.2)), (x_found19 ++ [(e27.1, e27.2)]), (ws_x_found20 ++ [(V.ref p100)]), rfl, g114, (Same.trans sm22 (Same.trans g65.ff sm104)), ow116, hl113, hA112, hm26⟩
    intro σ117 H118 hP
    obtain ⟨F119, o_x_first120, o_x_behind121, x_found122, ws_x_found123, rfl, g124, sm125, ow_x_found126, hl_x_found127, hA_x_found128, hm129⟩ := hP
    rw [drop_end (RL.len (hA_x_spans.up sm125)), m_joined_l1.eq_1] at hm129
    obtain rfl := sjoin hm129
    refine p_nx ?_
    refine p_ret ?_
    obtain rfl := sjoin hm
    refine ⟨(V.ref p1), rfl, (hQ _ _ _ _ g124 ow_x_found126.n0 ow_x_found126.h ow_x_found126.nF hl_x_found127 hA_x_found128)⟩
end K06
namespace K06
open PySem PySem.Spec PyProof.Rows L2 TL G
theorem ok_pattern_at {P : Program} {w : World} {K : PySem.W.Frag} {mg : Str → Option Value} {base : Heap} (T : Txt K mg) : FnOk P w K mg base CX0 1 T.a_pattern_at T.d_pattern_at ["first", "bits", "width"] (sp_pattern_at K) := by
  refine fd_ok T.F_pattern_at sc_pattern_at (fun vs H Q E h => ?_) (fun cdv A outer s H0 vs Q E hr h => ?_)
  · obtain ⟨_, _, _, _, rfl, _⟩ := h
    rfl
  · obtain ⟨x_first, x_bits, x_width, r, rfl, hm, hQ⟩ := h
    refine ⟨_, (pss_cons (ps_set (i := 3) sc_pattern_at.nd rfl (.inl rfl) (pe_op op_shr (pv 0) (pe_op op_sub (pv 2) (pv 1)))) (pss_cons (ps_set (i := 4) sc_pattern_at.nd rfl (.inl rfl) pe_str) (pss_cons (ps_for PassesOwn.never rfl (pi_range1 (by rfl) T.n_range (pa_cons (pv 1) pa_nil)) (pg_name (i := 5) sc_pattern_at.nd rfl (Or.inl rfl)) (pss_cons (ps_set (i := 4) sc_pattern_at.nd rfl (.inl rfl) (pe_op op_add_str (pe_ix ix_str (pe_glob (v := (V.str ("01" : Str))) rfl T.k_BITS ⟨_, rfl⟩) (pe_op op_mod (pv 3) pe_int) (fun _ _ => rfl)) (pv 4))) (pss_one (ps_set (i := 3) sc_pattern_at.nd rfl (.inl rfl) (pe_op op_fdiv (pv 3) pe_int))))) (pss_one (ps_ret (pe_ifExp (pt_cmpR op_eq (pv 1) (pv 2) (nomark _)) (pv 4) (pe_op op_add_str (pv 4) (pe_glob (v := (V.str ("*" : Str))) rfl T.k_STAR ⟨_, rfl⟩)))))))), ?_⟩
    have g0 : Gr M0 H0 H0 H0 H0 := Gr.refl (Same.refl _)
    unfold m_pattern_at at hm
    refine p_seq ?_
    refine p_asg ?_
    obtain ⟨t1, hb2, hm⟩ := bnd hm
    obtain ⟨hk3, rfl⟩ := shrI_ok hb2
    refine ⟨(V.int x_first), rfl, (V.int x_width), rfl, (V.int x_bits), rfl, _, _, rfl, rfl, _, _, rfl, rfl, hk3, ?_⟩
    obtain ⟨x_number4, hx5⟩ : ∃ z_, (x_first / 2 ^ ((x_width - x_bits)).toNat) = z_ := ⟨_, rfl⟩
    try rw [hx5] at hm
    refine p_nm (v' := (V.int x_number4)) (congrArg V.int hx5) ?_
    refine p_nx ?_
    refine p_seq ?_
    refine p_asg ?_
    refine p_name ?_
    refine p_nx ?_
    refine p_seq ?_
    refine p_for ?_
    obtain ⟨l6, hb8, hm⟩ := bnd hm
    obtain ⟨hk7, rfl⟩ := rangeO1_ok hb8
    refine ⟨(V.int x_bits), rfl, _, rfl, hk7.1.1, hk7.1.2, ?_⟩
    obtain ⟨x_signs9, x_number10, ht11, hm⟩ := bnd2 hm
    refine for_range (lo := (0 : Int)) (n := (x_bits).toNat) (fun i σ' H' => ∃ (F' : Hp) (x_signs : Str) (x_number : Int) (o_x_turn : Option V), σ' = [(some (V.int x_first)), (some (V.int x_bits)), (some (V.int x_width)), (some (V.int x_number)), (some (V.str x_signs)), o_x_turn] ∧ Gr M0 H0 H0 F' H' ∧ Same H0 F' ∧ GS x_signs ∧ m_pattern_at_l1  ((rangeL (0 : Int) (x_bits).toNat).drop i) x_signs x_number = some (x_signs9, x_number10)) ?_ ?_ ?_
    · exact ⟨H0, ("" : Str), x_number4, none, rfl, g0, (Same.refl _), ⟨by decide +kernel, by decide +kernel⟩, ht11⟩
    · intro i12 σ' H14 hx13 hP
      obtain ⟨F16, x_signs17, x_number18, o_x_turn19, rfl, g20, sm21, gs_x_signs22, hm23⟩ := hP
      have he25 := rangeL_at (lo := (0 : Int)) hx13
      rw [drop_at he25, m_pattern_at_l1.eq_2] at hm23
      refine p_name ?_
      refine p_seq ?_
      refine p_asg ?_
      obtain ⟨c26, hb27, hm23⟩ := bnd hm23
      obtain ⟨t28, hb29, hm23⟩ := bnd hm23
      obtain ⟨hk30, rfl⟩ := catS_ok hb29
      refine ⟨(V.int x_number18), rfl, _, _, rfl, rfl, (show (0 : Int) < 2 by decide), _, _, c26, rfl, rfl, (⟨by decide +kernel, by decide +kernel⟩ : GS ("01" : Str)).len, hb27, (V.str x_signs17), rfl, _, _, rfl, rfl, hk30, ?_⟩
      obtain ⟨x_signs31, hx32⟩ : ∃ z_, ((sgn c26) ++ x_signs17) = z_ := ⟨_, rfl⟩
      try rw [hx32] at hm23
      have gs33 : GS x_signs31 := hx32 ▸ ((GS.cat (GS.sg ⟨by decide +kernel, by decide +kernel⟩ (codeAt_mem hb27)) gs_x_signs22 hb29) : GS ((sgn c26) ++ x_signs17))
      refine p_nm (v' := (V.str x_signs31)) (congrArg V.str hx32) ?_
      refine p_nx ?_
      refine p_asg ?_
      refine ⟨(V.int x_number18), rfl, _, _, rfl, rfl, ⟨by decide, by decide⟩, ?_⟩
      obtain ⟨x_number34, hb35, hm23⟩ := bnd hm23
      have hx36 : (x_number18 / (2 : Int)) = x_number34 := sjoin hb35
      refine p_nm (v' := (V.int x_number34)) (congrArg V.int hx36) ?_
      exact ⟨F16, x_signs31, x_number34, (some (V.int ((0 : Int) + ((i12 : Nat) : Int)))), rfl, g20, sm21, gs33, hm23⟩
    intro σ37 H38 hP
    obtain ⟨F39, x_signs40, x_number41, o_x_turn42, rfl, g43, sm44, gs_x_signs45, hm46⟩ := hP
    rw [drop_end (rangeL_len _ _).symm, m_pattern_at_l1.eq_1] at hm46
    obtain ⟨rfl, rfl⟩ := pjoin hm46
    refine p_nx ?_
    refine p_ret ?_
    refine ⟨(V.int x_bits), rfl, (V.int x_width), rfl, rfl, _, rfl, ?_⟩
    obtain ⟨c47, hc49, hm⟩ := bnd hm
    refine ifJ (M := M0) (F := F39) (P := fun v' F' H' => v' = V.str (c47 : Str) ∧ GS (c47 : Str)) (fun ha => ?_) (fun ha => ?_) ?_
    · intro Q50 q51
      have hc49 := ifT ha hc49
      obtain rfl := sjoin hc49
      refine ⟨(V.str x_signs40), rfl, (q51 _ _ _ (Gr.refl (M := M0) g43.fh) ⟨rfl, gs_x_signs45⟩)⟩
    · intro Q52 q53
      have hc49 := ifF ha hc49
      obtain ⟨t54, hb55, hc49⟩ := bnd hc49
      obtain ⟨hk56, rfl⟩ := catS_ok hb55
      obtain rfl := sjoin hc49
      refine ⟨(V.str x_signs40), rfl, _, _, rfl, rfl, hk56, (q53 _ _ _ (Gr.refl (M := M0) g43.fh) ⟨rfl, (GS.cat gs_x_signs45 ⟨by decide +kernel, by decide +kernel⟩ hb55)⟩)⟩
    intro v60 F57 H58 g59 hp61
    obtain ⟨hp61, hp61g⟩ := hp61
    have g63 := Gr.trans g43 g59
    obtain rfl := hp61
    obtain rfl := sjoin hm
    exact (hQ _ _ g63 hp61g)
end K06
namespace K06
open PySem PySem.Spec PyProof.Rows L2 TL G
theorem ok_cover {P : Program} {w : World} {K : PySem.W.Frag} {mg : Str → Option Value} {base : Heap} (T : Txt K mg) : FnOk P w K mg base CX0 2 T.a_cover T.d_cover ["spans", "width"] (sp_cover K) := by
  have G_joined : FnOk P w K mg base CX0 1 T.a_joined T.d_joined ["spans"] (sp_joined K) := ok_joined T
  have b_joined := T.F_joined.bindsN (ps := ["spans"]) fun _ _ _ _ _ _ us hl => match us, hl with | [_], _ => rfl
  have G_pattern_at : FnOk P w K mg base CX0 1 T.a_pattern_at T.d_pattern_at ["first", "bits", "width"] (sp_pattern_at K) := ok_pattern_at T
  have b_pattern_at := T.F_pattern_at.bindsN (ps := ["first", "bits", "width"]) fun _ _ _ _ _ _ us hl => match us, hl with | [_, _, _], _ => rfl
  refine fd_ok T.F_cover sc_cover (fun vs H Q E h => ?_) (fun cdv A outer s H0 vs Q E hr h => ?_)
  · obtain ⟨_, _, _, _, _, _, rfl, _⟩ := h
    rfl
  · obtain ⟨F0, p_x_spans, ws_x_spans, x_spans, x_width, r, rfl, hS0, hS_x_spans, hl_x_spans, hA_x_spans, nm_x_spans, hm, hQ⟩ := h
    refine ⟨_, (pss_cons (ps_set (i := 2) sc_cover.nd rfl (.inl rfl) (pe_lst pa_nil)) (pss_cons (ps_for PassesOwn.never rfl (pi_listK (K := K) (pe_call G_joined (hr.mono (by decide)) (by rfl) T.g_joined T.F_joined.kp b_joined .nil pass0 (pa_cons (pv 0) pa_nil))) (pg_tupK (K := K) 2 rfl (pgs_cons (pg_name (i := 3) sc_cover.nd rfl (Or.inl rfl)) (pgs_cons (pg_name (i := 4) sc_cover.nd rfl (Or.inl rfl)) pgs_nil))) (pss_cons (ps_set (i := 5) sc_cover.nd rfl (.inl rfl) (pv 3)) (pss_one (ps_while PassesOwn.never (pt_cmpR op_lt (pv 5) (pv 4) (nomark _)) (pss_cons (ps_set (i := 6) sc_cover.nd rfl (.inl rfl) pe_int) (pss_cons (ps_while PassesOwn.never (PW.pt (pw_or (pt_cmpR op_ne (pe_op op_mod (pv 5) (pe_op op_shl pe_int (pe_op op_sub (pv 1) (pv 6)))) pe_int (nomark _)) (pw_or1 (pt_cmpR op_gt (pe_op op_add (pv 5) (pe_op op_shl pe_int (pe_op op_sub (pv 1) (pv 6)))) (pv 4) (nomark _))))) (pss_one (ps_aug (i := 6) sc_cover.nd rfl (.inl rfl) pe_int ip_add))) (pss_cons (ps_expr (pe_bmK (K := K) PySem.F.plainAttrs_list PySem.F.slot_list_append PySem.F.type_list_append mt_append (pv 2) (pa_cons (pe_call G_pattern_at (hr.mono (by decide)) (by rfl) T.g_pattern_at T.F_pattern_at.kp b_pattern_at .nil pass0 (pa_cons (pv 5) (pa_cons (pv 6) (pa_cons (pv 1) pa_nil)))) pa_nil))) (pss_one (ps_aug (i := 5) sc_cover.nd rfl (.inl rfl) (pe_op op_shl pe_int (pe_op op_sub (pv 1) (pv 6))) ip_add))))))))) (pss_one (ps_ret (pv 2))))), ?_⟩
    have g0 : Gr M0 F0 H0 F0 H0 := Gr.refl hS0
    unfold m_cover at hm
    refine p_seq ?_
    refine p_asg ?_
    refine ⟨(by show 0 ≤ sizeLine; decide), fun p1 np2 => ?_⟩
    have g3 := g0.own (o := (.lst [])) np2
    have ow4 : Ow H0 F0 (upd H0 p1 (.lst [])) p1 [] := Ow.new g0 np2
    obtain ⟨x_found6, hb7, hm⟩ := bnd hm
    have hx8 : ([] : (List Str)) = x_found6 := sjoin hb7
    have hA9 : RL K F0 [] x_found6 := RL.re hx8 RpA.nil
    refine p_name ?_
    refine p_nx ?_
    refine p_seq ?_
    refine p_for ?_
    obtain ⟨r10, hb11, hm⟩ := bnd hm
    refine ⟨(V.ref p_x_spans), rfl, F0, p_x_spans, ws_x_spans, x_spans, r10, rfl, g3.fh, (g3.seq nm_x_spans hS_x_spans), hl_x_spans, hA_x_spans, id, hb11, fun p15 ws16 F12 H13 g14 np17 h18 nF19 hl20 hA21 => ?_⟩
    have ne22 := ow4.ne np17
    have n023 := g3.none0 np17
    have g24 := Gr.trans g3 g14
    have ow25 := ow4.gr0 g14
    have ow26 : Ow H0 F12 H13 p15 ws16 := ⟨h18, nF19, n023⟩
    refine ⟨p15, rfl, ⟨_, ow26.sq⟩, ?_⟩
    obtain ⟨x_found27, ht28, hm⟩ := bnd hm
    refine for_list (K := K) (a := p15) (xs := ws16) (fun i σ' H' => ∃ (F' : Hp) (o_x_first : Option V) (o_x_behind : Option V) (o_x_at : Option V) (o_x_bits : Option V) (x_found : (List Str)) (ws_x_found : List V), σ' = [(some (V.ref p_x_spans)), (some (V.int x_width)), (some (V.ref p1)), o_x_first, o_x_behind, o_x_at, o_x_bits] ∧ Gr M0 F0 H0 F' H' ∧ Same F12 F' ∧ Ow H0 F' H' p1 ws_x_found ∧ ws_x_found.length ≤ sizeLine ∧ RL K F' ws_x_found x_found ∧ Ow H0 F' H' p15 ws16 ∧ m_cover_l1 x_width (r10.drop i) x_found = some x_found27) ?_ ?_ ?_ ?_
    · exact ⟨F12, none, none, none, none, x_found6, [], rfl, g24, (Same.refl _), ow25, (by show 0 ≤ sizeLine; decide), (hA9.up g14.ff), ow26, ht28⟩
    · intro i σ' H' _ hP
      obtain ⟨F', o_x_first, o_x_behind, o_x_at, o_x_bits, x_found, ws_x_found, rfl, g_, sm_, ow_x_found, hl_x_found, hA_x_found, owk0_, hm_⟩ := hP
      exact owk0_.sq
    · intro i29 xv32 σ' H31 hx30 hP
      obtain ⟨F33, o_x_first34, o_x_behind35, o_x_at36, o_x_bits37, x_found38, ws_x_found39, rfl, g40, sm41, ow_x_found42, hl_x_found43, hA_x_found44, owk045, hm46⟩ := hP
      obtain ⟨e47, he48, r49⟩ := RL.get (hA21.up sm41) hx30
      rw [drop_at he48, m_cover_l1.eq_2] at hm46
      obtain ⟨p50, v53, v54, ev51, hS52, r55, r56⟩ := R.p2_v r49
      obtain rfl := R.int_v r55
      obtain rfl := R.int_v r56
      refine ⟨p50, [(V.int e47.1), (V.int e47.2)], ev51, (SqT_mono g40.fh hS52), rfl, (V.int e47.1), [(V.int e47.2)], rfl, (V.int e47.2), [], rfl, rfl, ?_⟩
      refine p_seq ?_
      refine p_asg ?_
      refine ⟨(V.int e47.1), rfl, ?_⟩
      refine p_name ?_
      refine p_nx ?_
      obtain ⟨x_at57, x_found58, ht59, hm46⟩ := bnd2 hm46
      refine ⟨fun i σ' H' => ∃ (F' : Hp) (x_at : Int) (o_x_bits : Option V) (x_found : (List Str)) (ws_x_found : List V), σ' = [(some (V.ref p_x_spans)), (some (V.int x_width)), (some (V.ref p1)), (some (V.int e47.1)), (some (V.int e47.2)), (some (V.int x_at)), o_x_bits] ∧ Gr M0 F0 H0 F' H' ∧ Same F33 F' ∧ Ow H0 F' H' p1 ws_x_found ∧ ws_x_found.length ≤ sizeLine ∧ RL K F' ws_x_found x_found ∧ Ow H0 F' H' p15 ws16 ∧ m_cover_l2 x_width e47.2 i x_at x_found = some (x_at57, x_found58), ⟨70, ⟨F33, e47.1, o_x_bits37, x_found38, ws_x_found39, rfl, g40, (Same.refl _), ow_x_found42, hl_x_found43, hA_x_found44, owk045, ht59⟩⟩, ?_⟩
      intro i σ60 H61 hP
      obtain ⟨F62, x_at63, o_x_bits64, x_found65, ws_x_found66, rfl, g67, sm68, ow_x_found69, hl_x_found70, hA_x_found71, owk072, hm73⟩ := hP
      cases i with | zero => exact absurd hm73 (by rw [m_cover_l2.eq_1]; exact nofun) | succ i => ?_
      rw [m_cover_l2.eq_2] at hm73
      refine ⟨(V.int x_at63), rfl, (V.int e47.2), rfl, _, _, rfl, rfl, _, rfl, (iteB (fun hc => ?_) (fun hc => ?_))⟩
      · have hm73 := ifT hc hm73
        refine ⟨fun σ' H' => ∃ (F' : Hp) (x_at : Int) (o_x_bits : Option V) (x_found : (List Str)) (ws_x_found : List V), σ' = [(some (V.ref p_x_spans)), (some (V.int x_width)), (some (V.ref p1)), (some (V.int e47.1)), (some (V.int e47.2)), (some (V.int x_at)), o_x_bits] ∧ Gr M0 F0 H0 F' H' ∧ Same F33 F' ∧ Ow H0 F' H' p1 ws_x_found ∧ ws_x_found.length ≤ sizeLine ∧ RL K F' ws_x_found x_found ∧ Ow H0 F' H' p15 ws16 ∧ m_cover_l2 x_width e47.2 i x_at x_found = some (x_at57, x_found58), fun _ _ n => ⟨i, Nat.lt_succ_self i, n⟩, ?_⟩
        refine p_id ?_
        refine p_seq ?_
        refine p_asg ?_
        refine p_name ?_
        refine p_nx ?_
        refine p_seq ?_
        obtain ⟨x_bits74, ht75, hm73⟩ := bnd hm73
        refine ⟨fun i σ' H' => ∃ (F' : Hp) (x_bits : Int), σ' = [(some (V.ref p_x_spans)), (some (V.int x_width)), (some (V.ref p1)), (some (V.int e47.1)), (some (V.int e47.2)), (some (V.int x_at63)), (some (V.int x_bits))] ∧ Gr M0 F0 H0 F' H' ∧ Same F62 F' ∧ Ow H0 F' H' p1 ws_x_found66 ∧ Ow H0 F' H' p15 ws16 ∧ m_cover_l3 x_width e47.2 x_at63 i x_bits = some x_bits74, ⟨70, ⟨F62, (0 : Int), rfl, g67, (Same.refl _), ow_x_found69, owk072, ht75⟩⟩, ?_⟩
        intro i σ76 H77 hP
        obtain ⟨F78, x_bits79, rfl, g80, sm81, owk082, owk183, hm84⟩ := hP
        cases i with | zero => exact absurd hm84 (by rw [m_cover_l3.eq_1]; exact nofun) | succ i => ?_
        rw [m_cover_l3.eq_2] at hm84
        obtain ⟨t85, hb86, hm84⟩ := bnd hm84
        obtain ⟨hk87, rfl⟩ := shlI_ok hb86
        obtain ⟨t88, hb89, hm84⟩ := bnd hm84
        obtain ⟨hk90, rfl⟩ := modI_ok hb89
        refine ⟨(V.int x_at63), rfl, (V.int x_width), rfl, (V.int x_bits79), rfl, _, _, rfl, rfl, _, _, rfl, rfl, hk87, _, _, rfl, rfl, hk90, rfl, _, rfl, ?_⟩
        obtain ⟨c91, hc92, hm84⟩ := bnd hm84
        refine orJT (M := M0) (F := F78) (c := c91) (P := fun _ _ => True) (fun ha => ?_) (fun ha => ⟨(sjoin (ifT ha hc92)).symm, trivial⟩) g80.fh ?_
        · intro Q94 q95
          have hc92 := ifF ha hc92
          obtain ⟨t96, hb97, hc92⟩ := bnd hc92
          obtain ⟨hk98, rfl⟩ := shlI_ok hb97
          obtain rfl := sjoin hc92
          refine ⟨(V.int x_at63), rfl, (V.int x_width), rfl, (V.int x_bits79), rfl, _, _, rfl, rfl, _, _, rfl, rfl, hk98, _, _, rfl, rfl, (V.int e47.2), rfl, _, _, rfl, rfl, _, rfl, (q95 _ _ (Gr.refl (M := M0) g80.fh) trivial)⟩
        intro F99 H100 g101 hB102
        have g103 := Gr.trans g80 g101
        have ow104 := owk082.gr0 g101
        have ow105 := owk183.gr0 g101
        refine (iteB (fun hc => ?_) (fun hc => ?_))
        · have hm84 := ifT hc hm84
          refine ⟨fun σ' H' => ∃ (F' : Hp) (x_bits : Int), σ' = [(some (V.ref p_x_spans)), (some (V.int x_width)), (some (V.ref p1)), (some (V.int e47.1)), (some (V.int e47.2)), (some (V.int x_at63)), (some (V.int x_bits))] ∧ Gr M0 F0 H0 F' H' ∧ Same F62 F' ∧ Ow H0 F' H' p1 ws_x_found66 ∧ Ow H0 F' H' p15 ws16 ∧ m_cover_l3 x_width e47.2 x_at63 i x_bits = some x_bits74, fun _ _ n => ⟨i, Nat.lt_succ_self i, n⟩, ?_⟩
          refine p_id ?_
          refine ⟨(V.int x_bits79), rfl, _, _, rfl, rfl, ?_⟩
          exact ⟨F99, (x_bits79 + (1 : Int)), rfl, g103, (Same.trans sm81 g101.ff), ow104, ow105, hm84⟩
        have hm84 := ifF hc hm84
        obtain rfl := sjoin hm84
        refine p_nx ?_
        refine p_seq ?_
        refine p_drop ?_
        obtain ⟨r106, hb107, hm73⟩ := bnd hm73
        refine ⟨(V.ref p1), rfl, (.inl ⟨rfl, _, ow104.sq⟩), (V.int x_at63), rfl, (V.int x_bits79), rfl, (V.int x_width), rfl, x_at63, x_bits79, x_width, r106, rfl, hb107, fun F108 H109 g110 gs111 => ?_⟩
        have g112 := Gr.apart g103 g110
        have ow113 := ow104.apart g110
        have ow114 := ow105.apart g110
        obtain ⟨t115, hb116, hm73⟩ := bnd hm73
        obtain ⟨hk117, rfl⟩ := appL_ok hb116
        refine ⟨p1, ws_x_found66, (V.str r106), rfl, rfl, ow113.h, (by rw [RL.len (hA_x_found71.up (Same.trans sm81 g101.ff))]; exact hk117), ?_⟩
        have hA118 : RL K F99 (ws_x_found66 ++ [(V.str r106)]) (x_found65 ++ [(r106 : Str)]) := RL.snoc (hA_x_found71.up (Same.trans sm81 g101.ff)) (Rp.str r106 gs111)
        have hl119 : (ws_x_found66 ++ [(V.str r106)]).length ≤ sizeLine := by rw [List.length_append, RL.len (hA_x_found71.up (Same.trans sm81 g101.ff))]; exact hk117
        have g120 := g112.put (o := (.lst (ws_x_found66 ++ [(V.str r106)]))) ow113
        have ow121 := ow114.other (o := (.lst (ws_x_found66 ++ [(V.str r106)]))) (Ne.symm ne22)
        have ow122 := ow113.put (us := (ws_x_found66 ++ [(V.str r106)]))
        refine p_nx ?_
        obtain ⟨t123, hb124, hm73⟩ := bnd hm73
        obtain ⟨hk125, rfl⟩ := shlI_ok hb124
        refine ⟨(V.int x_at63), rfl, (V.int x_width), rfl, (V.int x_bits79), rfl, _, _, rfl, rfl, _, _, rfl, rfl, hk125, _, _, rfl, rfl, ?_⟩
        exact ⟨F99, (x_at63 + ((1 : Int) * 2 ^ ((x_width - x_bits79)).toNat)), (some (V.int x_bits79)), (x_found65 ++ [r106]), (ws_x_found66 ++ [(V.str r106)]), rfl, g120, (Same.trans sm68 (Same.trans sm81 g101.ff)), ow122, hl119, hA118, ow121, hm73⟩
      have hm73 := ifF hc hm73
      obtain ⟨rfl, rfl⟩ := pjoin hm73
      exact ⟨F62, (some (V.int e47.1)), (some (V.int e47.2)), (some (V.int x_at63)), o_x_bits64, x_found65, ws_x_found66, rfl, g67, (Same.trans sm41 sm68), ow_x_found69, hl_x_found70, hA_x_found71, owk072, hm46⟩
    intro σ126 H127 hP
    obtain ⟨F128, o_x_first129, o_x_behind130, o_x_at131, o_x_bits132, x_found133, ws_x_found134, rfl, g135, sm136, ow_x_found137, hl_x_found138, hA_x_found139, owk0140, hm141⟩ := hP
    rw [drop_end (RL.len (hA21.up sm136)), m_cover_l1.eq_1] at hm141
    obtain rfl := sjoin hm141
    refine p_nx ?_
    refine p_ret ?_
    obtain rfl := sjoin hm
    refine ⟨(V.ref p1), rfl, (hQ _ _ _ _ g135 ow_x_found137.n0 ow_x_found137.h ow_x_found137.nF hl_x_found138 hA_x_found139)⟩
end K06
namespace K06
open PySem PySem.Spec PyProof.Rows L2 TL G
theorem ok_l_bag {P : Program} {w : World} {K : PySem.W.Frag} {mg : Str → Option Value} {base : Heap} (T : Txt K mg) : FnOk P w K mg base CX0 1 T.a_l_bag T.d_l_bag ["_law_script"] (sp_l_bag K) := by
  refine fd_ok T.F_l_bag sc_l_bag (fun vs H Q E h => ?_) (fun cdv A outer s H0 vs Q E hr h => ?_)
  · obtain ⟨_, _, rfl, _⟩ := h
    rfl
  · obtain ⟨a, ns, rfl, hS, hl, hQ⟩ := h
    refine ⟨_, (pss_cons (ps_set (i := 1) sc_l_bag.nd rfl (.inl rfl) pe_int)
      (pss_cons (ps_for PassesOwn.never rfl (pi_list (pe_slice sl_list (pv 0) po_none (po_some pe_int))) (pg_name (i := 2) sc_l_bag.nd rfl (Or.inl rfl))
          (pss_one (ps_set (i := 1) sc_l_bag.nd rfl (.inl rfl) (pe_op op_mod (pe_op op_add (pe_op op_add (pe_op op_mul (pv 1) pe_int) (pe_op op_mod (pv 2) pe_int)) pe_int) pe_int))))
      (pss_one (ps_ret (pe_lst (pa_cons (pe_lc (own := [("_law_cell", 2)]) rfl sc_l_bag.nd (pi_list (pe_slice sl_list (pv 0) po_none (po_some pe_int)))
          (blkOk_by (own := [("_law_cell", 2)]) (N := N_l_bag) (sc := defScope s_l_bag) (by decide +kernel)) (fun _ _ _ _ _ => pg_name (i := 2) sc_l_bag.nd rfl (Or.inl rfl)) (fun _ _ _ _ _ => pts_nil)
          (fun _ _ _ _ _ => pe_op op_mod (pe_callB call_abs (by rfl) T.n_abs (by decide +kernel) (pa_cons (pv 2) pa_nil)) (pe_op op_powW (pe_op op_pow pe_int pe_int) pe_int)))
        (pa_cons pe_int (pa_cons (pv 1) (pa_cons pe_int pa_nil))))))))), ?_⟩
    have g0 : Gr M0 (fun _ => none) H0 (fun _ => none) H0 := Gr.refl (fun _ _ h => nomatch h)
    have hcut : ∀ (lo hi : Option Int), cutV (ns.map V.int) lo hi = (cutL ns lo hi).map V.int := fun lo hi => by
      unfold cutV cutL
      rw [List.length_map, List.map_take, List.map_drop]
    have hcl : ∀ (lo hi : Option Int), (cutL ns lo hi).length ≤ 63 := fun lo hi => by
      unfold cutL
      rw [List.length_take, List.length_drop]
      omega
    refine p_seq ?_
    refine p_asg ?_
    refine p_name ?_
    refine p_nx ?_
    refine p_seq ?_
    refine p_for ?_
    refine ⟨.ref a, rfl, 60, rfl, a, ns.map V.int, rfl, hS, fun p np => ?_⟩
    rw [hcut]
    generalize hcs : cutL ns none (some 60) = cs
    have hc1 : cs.length ≤ 63 := by rw [← hcs]; exact hcl _ _
    have hc2 : (cs.map V.int).length = cs.length := List.length_map ..
    have g1 := g0.own (o := .lst (cs.map V.int)) np
    have ow1 : Ow H0 (fun _ => none) _ p (cs.map V.int) := Ow.new g0 np
    generalize hH1 : upd H0 p (.lst (cs.map V.int)) = H1 at g1 ow1 ⊢
    refine ⟨p, rfl, ⟨_, ow1.sq⟩, ?_⟩
    refine for_list (xs := cs.map V.int) (fun i σ' H' => ∃ (z : Int) (c : Option V), σ' = [some (.ref a), some (.int z), c] ∧ 0 ≤ z ∧ z < 2147483648 ∧ H' = H1) ⟨29, none, rfl, by decide, by decide, rfl⟩ (fun i σ' H' _ hP => ?_) (fun i x σ' H' hx hP => ?_) (fun σ' H' hP => ?_)
    · obtain ⟨z, c, _, _, _, rfl⟩ := hP
      exact ow1.sq
    · obtain ⟨z, c, rfl, h1, h2, rfl⟩ := hP
      obtain ⟨x, rfl⟩ : ∃ x', x = V.int x' := by
        rw [List.getElem?_map] at hx
        obtain ⟨y, _, e⟩ := Option.map_eq_some_iff.mp hx
        exact ⟨y, e.symm⟩
      refine p_asg ?_
      refine ⟨.int z, rfl, _, _, rfl, rfl, (.inr ⟨by decide, by decide⟩), .int x, rfl, _, _, rfl, rfl, (show (0 : Int) < 2147483629 by decide), _, _, rfl, rfl, _, _, rfl, rfl, _, _, rfl, rfl, (show (0 : Int) < 2147483647 by decide), ?_⟩
      refine ⟨_, _, rfl, Int.emod_nonneg _ (by decide), ?_, rfl⟩
      have := Int.emod_lt_of_pos (z * 69621 + x % 2147483629 + 1) (show (0 : Int) < 2147483647 by decide)
      omega
    · obtain ⟨z, c, rfl, h1, h2, rfl⟩ := hP
      refine p_nx ?_
      refine p_ret ?_
      have hS1 : SqL K H' a (ns.map V.int) := g1.seq id hS
      refine ⟨.ref a, rfl, 60, rfl, a, ns.map V.int, rfl, hS1, fun p2 np2 => ?_⟩
      rw [hcut, hcs]
      have g2 := g1.own (o := .lst (cs.map V.int)) np2
      have ow2 : Ow H0 (fun _ => none) _ p2 (cs.map V.int) := Ow.new g1 np2
      generalize hH2 : upd H' p2 (.lst (cs.map V.int)) = H2 at g2 ow2 ⊢
      refine ⟨p2, rfl, ⟨_, ow2.sq⟩, fun D nD => ?_⟩
      refine lc_list (xs := cs.map V.int) (fun i H' => ∃ ds : List Int, ds.length = i ∧ H' = upd H2 D (.lst (ds.map V.int))) ⟨[], rfl, rfl⟩ (fun i H' _ hP => ?_) (fun i x H' hx hP => ?_) (fun H' hP => ?_)
      · obtain ⟨ds, _, rfl⟩ := hP
        exact (ow2.own nD).sq
      · obtain ⟨ds, hds, rfl⟩ := hP
        have hi : i < cs.length := by rw [← hc2]; exact (List.getElem?_eq_some_iff.mp hx).1
        obtain ⟨x, rfl⟩ : ∃ x', x = V.int x' := by
          rw [List.getElem?_map] at hx
          obtain ⟨y, _, e⟩ := Option.map_eq_some_iff.mp hx
          exact ⟨y, e.symm⟩
        refine ⟨rfl, p_yes ?_⟩
        refine ⟨.int x, rfl, x, rfl, _, _, rfl, rfl, ⟨by decide, by decide, by decide⟩, _, _, rfl, rfl, ⟨by decide, by decide +kernel⟩, _, _, rfl, rfl, (show (0 : Int) < ((10 : Int) ^ (60 : Int).toNat) ^ (10 : Int).toNat by decide +kernel), ?_⟩
        refine ⟨_, upd_same, ?_, ds ++ [(if x < 0 then -x else x) % ((10 : Int) ^ (60 : Int).toNat) ^ (10 : Int).toNat], ?_, ?_⟩
        · rw [List.length_map, sizeLine_eq]; omega
        · rw [List.length_append, hds]; rfl
        · rw [upd_upd, List.map_append]; rfl
      · obtain ⟨ds, hds, rfl⟩ := hP
        rw [hc2] at hds
        refine ⟨.int z, rfl, (by show 4 ≤ sizeLine; decide), fun B nB => ?_⟩
        have hne : D ≠ B := fun e => by rw [← e, upd_same] at nB; cases nB
        exact hQ B D ⟨ds, 0, z, 0⟩ (fun _ => none) _ (fun _ _ h => nomatch h) ⟨upd_same, by rw [upd_ne hne, upd_same], hne.symm, rfl, rfl⟩ ⟨h1, h2, by show ds.length ≤ 63; omega⟩

end K06
namespace K06
open PySem PySem.Spec PyProof.Rows L2 TL G
theorem ok_l_draw {P : Program} {w : World} {K : PySem.W.Frag} {mg : Str → Option Value} {base : Heap} (T : Txt K mg) : FnOk P w K mg base CX0 1 T.a_l_draw T.d_l_draw ["_law_bag_here", "_law_many"] (sp_l_draw K) := by
  refine fd_ok T.F_l_draw sc_l_draw (fun vs H Q E h => ?_) (fun cdv A outer s H0 vs Q E hr h => ?_)
  · obtain ⟨_, _, _, _, _, _, _, rfl, _⟩ := h
    rfl
  · obtain ⟨F0, B, C, b, n, r, b', rfl, hS0, hB, hm, hQ⟩ := h
    refine ⟨_, (pss_cons (ps_while PassesOwn.never (PW.pt (pw_and (pt_cmpR op_lt (pe_ix ix_list (pv 0) pe_int (fun _ _ => rfl)) (pe_callB call_lenL (by rfl) T.n_len (by decide +kernel) (pa_cons (pe_ix ix_list (pv 0) pe_int (fun _ _ => rfl)) pa_nil)) (nomark _))
        (pw_and1 (pt_cmpR op_eq (pe_ix ix_list (pe_ix ix_list (pv 0) pe_int (fun _ _ => rfl)) (pe_ix ix_list (pv 0) pe_int (fun _ _ => rfl)) (fun _ _ => rfl)) pe_int (nomark _)))))
        (pss_one (ps_asg (pe_op op_add (pe_ix ix_list (pv 0) pe_int (fun _ _ => rfl)) pe_int) (pg_sub (pv 0) pe_int set_list))))
      (pss_cons (ps_if (pt_cmpR op_lt (pe_ix ix_list (pv 0) pe_int (fun _ _ => rfl)) (pe_callB call_lenL (by rfl) T.n_len (by decide +kernel) (pa_cons (pe_ix ix_list (pv 0) pe_int (fun _ _ => rfl)) pa_nil)) (nomark _))
          (pss_cons (ps_set (i := 2) sc_l_draw.nd rfl (.inl rfl) (pe_ix ix_list (pe_ix ix_list (pv 0) pe_int (fun _ _ => rfl)) (pe_ix ix_list (pv 0) pe_int (fun _ _ => rfl)) (fun _ _ => rfl)))
            (pss_cons (ps_asg (pe_op op_fdivW (pv 2) (pv 1)) (pg_sub (pe_ix ix_list (pv 0) pe_int (fun _ _ => rfl)) (pe_ix ix_list (pv 0) pe_int (fun _ _ => rfl)) set_list))
              (pss_one (ps_ret (pe_op op_mod (pv 2) (pv 1)))))) pss_nil)
      (pss_cons (ps_asg (pe_op op_add (pe_ix ix_list (pv 0) pe_int (fun _ _ => rfl)) pe_int) (pg_sub (pv 0) pe_int set_list))
      (pss_cons (ps_asg (pe_op op_mod (pe_op op_add (pe_op op_add (pe_op op_add (pe_op op_pow (pe_ix ix_list (pv 0) pe_int (fun _ _ => rfl)) pe_int) (pe_op op_mul pe_int (pe_ix ix_list (pv 0) pe_int (fun _ _ => rfl)))) (pe_op op_mul pe_int (pe_ix ix_list (pv 0) pe_int (fun _ _ => rfl)))) pe_int) pe_int) (pg_sub (pv 0) pe_int set_list))
      (pss_one (ps_ret (pe_op op_mod (pe_op op_fdiv (pe_ix ix_list (pv 0) pe_int (fun _ _ => rfl)) pe_int) (pv 1)))))))), ?_⟩
    have g0 : Gr (Bc B C) F0 H0 F0 H0 := Gr.refl hS0
    unfold m_l_draw at hm
    have hc : (0 < n ∧ n.natAbs.log2 < 9000) ∧ (0 ≤ b.seed ∧ b.seed < 2147483648 ∧ b.cells.length ≤ sizeLine) := by
      by_cases hc : (0 < n ∧ n.natAbs.log2 < 9000) ∧ (0 ≤ b.seed ∧ b.seed < 2147483648 ∧ b.cells.length ≤ sizeLine)
      · exact hc
      · rw [if_neg hc] at hm; cases hm
    rw [if_pos hc] at hm
    obtain ⟨⟨hn, hn2⟩, hs0, hs1, hsz⟩ := hc
    obtain ⟨cs, a0, sd, ct⟩ := b
    simp only at hm hs0 hs1 hsz
    generalize hK : skip0 (cs.drop a0) a0 = k at hm
    have hpow : CPow sd 3 := ⟨by decide, by decide, by omega⟩
    have lB : ∀ {H : Hp} {a : Nat} {z c : Int}, BagAt F0 H B C ⟨cs, a, z, c⟩ → SqL K H B [V.ref C, .int (a : Nat), .int z, .int c] := fun h => .inl (.inl h.hB)
    have lC : ∀ {H : Hp} {b1 : Bag}, BagAt F0 H B C b1 → SqL K H C (b1.cells.map V.int) := fun h => .inl (.inl h.hC)
    have hz : (cs.map V.int).length = cs.length := List.length_map ..
    refine p_seq ?_
    refine ⟨fun i σ' H' => ∃ a : Nat, σ' = [some (.ref B), some (.int n), none] ∧ Gr (Bc B C) F0 H0 F0 H' ∧ BagAt F0 H' B C ⟨cs, a, sd, ct⟩ ∧ skip0 (cs.drop a) a = k ∧ cs.length - a ≤ i, ⟨cs.length, a0, rfl, g0, hB, hK, Nat.sub_le _ _⟩, ?_⟩
    intro i σ1 H1 hP
    obtain ⟨a, rfl, g, hB, hK, hi⟩ := hP
    refine ⟨_, rfl, _, _, 1, .int (a : Nat), rfl, rfl, lB hB, rfl, _, rfl, _, _, 0, .ref C, rfl, rfl, lB hB, rfl, C, _, _, rfl, .inl (lC hB), hz, _, _, rfl, rfl, _, rfl, ?_⟩
    by_cases hl : a < cs.length
    · obtain ⟨x, hx⟩ : ∃ x, cs[a]? = some x := ⟨_, List.getElem?_eq_getElem hl⟩
      rw [drop_at hx] at hK
      refine ifTr (decide_eq_true (Int.ofNat_lt.mpr hl)) ?_
      refine ⟨_, rfl, _, _, 0, .ref C, rfl, rfl, lB hB, rfl, _, rfl, _, _, 1, .int (a : Nat), rfl, rfl, lB hB, rfl, _, _, (a : Nat), .int x, rfl, rfl, lC hB, atI_map hx, rfl, _, rfl, ?_⟩
      by_cases h0 : x = 0
      · subst h0
        refine ifTr (decide_eq_true rfl) ?_
        refine ⟨fun σ' H' => ∃ a : Nat, σ' = [some (.ref B), some (.int n), none] ∧ Gr (Bc B C) F0 H0 F0 H' ∧ BagAt F0 H' B C ⟨cs, a, sd, ct⟩ ∧ skip0 (cs.drop a) a = k ∧ cs.length - a ≤ i - 1, fun _ _ ⟨z1, z2, z3, z4, z5, z6⟩ => ⟨i - 1, by omega, z1, z2, z3, z4, z5, z6⟩, ?_⟩
        refine p_asg ?_
        refine ⟨_, rfl, _, _, 1, .int (a : Nat), rfl, rfl, lB hB, rfl, _, _, rfl, rfl, _, rfl, B, _, 1, 1, rfl, rfl, hB.hB, rfl, ?_⟩
        exact ⟨a + 1, rfl, g.mut hB.fB (.inr (.inl rfl)), BagAt.put (b' := ⟨cs, a + 1, sd, ct⟩) hB rfl, by rw [skip0, if_pos rfl] at hK; exact hK, by omega⟩
      · refine ifFr (decide_eq_false fun e => h0 (V.int.inj e)) ?_
        rw [skip0, if_neg h0] at hK
        subst hK
        rw [hx] at hm
        obtain ⟨rfl, rfl⟩ := pjoin hm
        refine p_nx ?_
        refine p_seq ?_
        refine p_if ?_
        refine ⟨_, rfl, _, _, 1, .int (a : Nat), rfl, rfl, lB hB, rfl, _, rfl, _, _, 0, .ref C, rfl, rfl, lB hB, rfl, C, _, _, rfl, .inl (lC hB), hz, _, _, rfl, rfl, _, rfl, ?_⟩
        refine ifTr (decide_eq_true (Int.ofNat_lt.mpr hl)) ?_
        refine p_seq ?_
        refine p_asg ?_
        refine ⟨_, rfl, _, _, 0, .ref C, rfl, rfl, lB hB, rfl, _, rfl, _, _, 1, .int (a : Nat), rfl, rfl, lB hB, rfl, _, _, (a : Nat), .int x, rfl, rfl, lC hB, atI_map hx, ?_⟩
        refine p_name ?_
        refine p_nx ?_
        refine p_seq ?_
        refine p_asg ?_
        refine ⟨.int x, rfl, .int n, rfl, x, n, rfl, rfl, ⟨hn, hn2⟩, _, rfl, _, _, 0, .ref C, rfl, rfl, lB hB, rfl, _, rfl, _, _, 1, .int (a : Nat), rfl, rfl, lB hB, rfl, C, _, (a : Nat), a, rfl, rfl, hB.hC, ixN_nat (by rw [hz]; exact hl), ?_⟩
        refine p_nx ?_
        refine p_ret ?_
        refine ⟨.int x, rfl, .int n, rfl, x, n, rfl, rfl, hn, ?_⟩
        have e : (cs.map V.int).set a (V.int (x / n)) = (cs.set a (x / n)).map V.int := List.map_set.symm
        rw [e]
        exact hQ _ _ (g.mut hB.fC (.inr (.inr rfl))) (BagAt.cell hB _)
    · refine ifFr (decide_eq_false fun e => hl (Int.ofNat_lt.mp e)) ?_
      have hd : cs.drop a = [] := List.drop_eq_nil_of_le (by omega)
      rw [hd, skip0] at hK
      subst hK
      rw [List.getElem?_eq_none (by omega)] at hm
      obtain ⟨rfl, rfl⟩ := pjoin hm
      refine p_nx ?_
      refine p_seq ?_
      refine p_if ?_
      refine ⟨_, rfl, _, _, 1, .int (a : Nat), rfl, rfl, lB hB, rfl, _, rfl, _, _, 0, .ref C, rfl, rfl, lB hB, rfl, C, _, _, rfl, .inl (lC hB), hz, _, _, rfl, rfl, _, rfl, ?_⟩
      refine ifFr (decide_eq_false fun e => hl (Int.ofNat_lt.mp e)) ?_
      refine p_next ?_
      refine p_nx ?_
      refine p_seq ?_
      refine p_asg ?_
      refine ⟨_, rfl, _, _, 3, .int ct, rfl, rfl, lB hB, rfl, _, _, rfl, rfl, _, rfl, B, _, 3, 3, rfl, rfl, hB.hB, rfl, ?_⟩
      have hB2 := BagAt.put (b' := ⟨cs, a, sd, ct + 1⟩) hB rfl
      have g2 := g.mut (o := .lst [.ref C, .int (a : Nat), .int sd, .int (ct + 1)]) hB.fB (.inr (.inl rfl))
      refine p_nx ?_
      refine p_seq ?_
      refine p_asg ?_
      refine ⟨_, rfl, _, _, 2, .int sd, rfl, rfl, lB hB2, rfl, _, _, rfl, rfl, hpow, _, rfl, _, _, 2, .int sd, rfl, rfl, lB hB2, rfl, _, _, rfl, rfl, (.inl ⟨by decide, by decide⟩), _, _, rfl, rfl, _, rfl, _, _, 3, .int (ct + 1), rfl, rfl, lB hB2, rfl, _, _, rfl, rfl, (.inl ⟨by decide, by decide⟩), _, _, rfl, rfl, _, _, rfl, rfl, _, _, rfl, rfl, (show (0 : Int) < 2147483647 by decide), _, rfl, B, _, 2, 2, rfl, rfl, hB2.hB, rfl, ?_⟩
      have hB3 := BagAt.put (b' := ⟨cs, a, stir sd (ct + 1), ct + 1⟩) hB2 rfl
      have g3 := g2.mut (o := .lst [.ref C, .int (a : Nat), .int (stir sd (ct + 1)), .int (ct + 1)]) hB2.fB (.inr (.inl rfl))
      refine p_nx ?_
      refine p_ret ?_
      refine ⟨_, rfl, _, _, 2, .int (stir sd (ct + 1)), rfl, rfl, lB hB3, rfl, _, _, rfl, rfl, ⟨by decide, by decide⟩, .int n, rfl, _, _, rfl, rfl, hn, ?_⟩
      exact hQ _ _ g3 hB3

end K06
namespace K06
open PySem PySem.Spec PyProof.Rows L2 TL G
theorem ok_l_bits {P : Program} {w : World} {K : PySem.W.Frag} {mg : Str → Option Value} {base : Heap} (T : Txt K mg) : FnOk P w K mg base CX0 2 T.a_l_bits T.d_l_bits ["_law_bag_here", "_law_size"] (sp_l_bits K) := by
  have G_l_draw : FnOk P w K mg base CX0 1 T.a_l_draw T.d_l_draw ["_law_bag_here", "_law_many"] (sp_l_draw K) := ok_l_draw T
  have b_l_draw := T.F_l_draw.bindsN (ps := ["_law_bag_here", "_law_many"]) fun _ _ _ _ _ _ us hl => match us, hl with | [_, _], _ => rfl
  refine fd_ok T.F_l_bits sc_l_bits (fun vs H Q E h => ?_) (fun cdv A outer s H0 vs Q E hr h => ?_)
  · obtain ⟨_, _, _, _, _, _, _, rfl, _⟩ := h
    rfl
  · obtain ⟨F0, B, C, b, y_size, r, b', rfl, hS0, hB, hm, hQ⟩ := h
    refine ⟨_, (pss_cons (ps_if (pt_cmpR op_eq (pe_call G_l_draw (hr.mono (by decide)) (by rfl) T.g_l_draw T.F_l_draw.kp b_l_draw .nil pass0 (pa_cons (pv 0) (pa_cons pe_int pa_nil))) pe_int (nomark _)) (pss_cons (ps_set (i := 2) sc_l_bits.nd rfl (.inl rfl) (pe_ix ix_str pe_str (pe_call G_l_draw (hr.mono (by decide)) (by rfl) T.g_l_draw T.F_l_draw.kp b_l_draw .nil pass0 (pa_cons (pv 0) (pa_cons pe_int pa_nil))) (fun _ _ => rfl))) (pss_one (ps_ret (pe_ifExp (pt_cmpR op_gt (pv 1) pe_int (nomark _)) (pe_slice sl_str (pe_op op_add_str (pe_op op_mulS (pv 2) (pv 1)) (pe_ix ix_str pe_str (pe_call G_l_draw (hr.mono (by decide)) (by rfl) T.g_l_draw T.F_l_draw.kp b_l_draw .nil pass0 (pa_cons (pv 0) (pa_cons pe_int pa_nil))) (fun _ _ => rfl))) (po_some pe_int) (po_some (pe_op op_add (pv 1) pe_int))) pe_str)))) pss_nil) (pss_one (ps_ret (pe_joinK (K := K) pe_str (pe_lc (own := [("_law_k", 3)]) rfl sc_l_bits.nd (pi_range1 (by rfl) T.n_range (pa_cons (pv 1) pa_nil)) (blkOk_by (own := [("_law_k", 3)]) (N := N_l_bits) (sc := defScope s_l_bits) (by decide +kernel)) (fun _ _ _ _ _ => (pg_name (i := 3) sc_l_bits.nd rfl (Or.inl rfl) (.inr rfl))) (fun _ _ _ _ _ => pts_nil) (fun _ _ _ _ _ => (pe_ix ix_str pe_str (pe_call G_l_draw (hr.mono (by decide)) (by rfl) T.g_l_draw T.F_l_draw.kp b_l_draw .nil pass0 (pa_cons (pv 0) (pa_cons pe_int pa_nil))) (fun _ _ => rfl)))))))), ?_⟩
    have g0 : Gr (Bc B C) F0 H0 F0 H0 := Gr.refl hS0
    unfold m_l_bits at hm
    refine p_seq ?_
    refine p_if ?_
    obtain ⟨r1, b2, hb3, hm⟩ := bnd2 hm
    refine ⟨(V.ref B), rfl, F0, B, C, b, (4 : Int), r1, b2, rfl, g0.fh, hB, hb3, fun F4 H5 g6 hB7 => ?_⟩
    have g9 := Gr.trans g0 g6
    refine ⟨rfl, _, rfl, (iteB (fun hc => ?_) (fun hc => ?_))⟩
    · have hm := ifT hc hm
      refine p_seq ?_
      refine p_asg ?_
      obtain ⟨r10, b11, hb12, hm⟩ := bnd2 hm
      refine ⟨(V.ref B), rfl, F4, B, C, b2, (2 : Int), r10, b11, rfl, g9.fh, hB7, hb12, fun F13 H14 g15 hB16 => ?_⟩
      have g18 := Gr.trans g9 g15
      obtain ⟨c19, hb20, hm⟩ := bnd hm
      refine ⟨_, _, c19, rfl, rfl, (⟨by decide +kernel, by decide +kernel⟩ : GS ("01" : Str)).len, hb20, ?_⟩
      refine p_name ?_
      refine p_nx ?_
      refine p_ret ?_
      refine ⟨(V.int y_size), rfl, _, _, rfl, rfl, _, rfl, ?_⟩
      obtain ⟨c21, b22, hc23, hm⟩ := bnd2 hm
      refine ifJ (M := (Bc B C)) (F := F13) (P := fun v' F' H' => v' = V.str (c21 : Str) ∧ GS (c21 : Str) ∧ BagAt F' H' B C b22) (fun ha => ?_) (fun ha => ?_) ?_
      · intro Q24 q25
        have hc23 := ifT ha hc23
        obtain ⟨t26, hb27, hc23⟩ := bnd hc23
        obtain ⟨hk28, rfl⟩ := mulS_ok hb27
        obtain ⟨r29, b30, hb31, hc23⟩ := bnd2 hc23
        refine ⟨(V.str (sgn c19)), rfl, (V.int y_size), rfl, _, _, rfl, rfl, hk28, (V.ref B), rfl, F13, B, C, b11, (2 : Int), r29, b30, rfl, g18.fh, hB16, hb31, fun F32 H33 g34 hB35 => ?_⟩
        have g37 := Gr.trans g18 g34
        have g38 := Gr.trans (Gr.refl (M := (Bc B C)) g18.fh) g34
        obtain ⟨c39, hb40, hc23⟩ := bnd hc23
        obtain ⟨t41, hb42, hc23⟩ := bnd hc23
        obtain ⟨hk43, rfl⟩ := catS_ok hb42
        obtain ⟨rfl, rfl⟩ := pjoin hc23
        refine ⟨_, _, c39, rfl, rfl, (⟨by decide +kernel, by decide +kernel⟩ : GS ("01" : Str)).len, hb40, _, _, rfl, rfl, hk43, _, rfl, (V.int y_size), rfl, _, _, rfl, rfl, _, rfl, _, rfl, ((GS.cat (GS.mul (GS.sg ⟨by decide +kernel, by decide +kernel⟩ (codeAt_mem hb20)) hb27) (GS.sg ⟨by decide +kernel, by decide +kernel⟩ (codeAt_mem hb40)) hb42) : GS ((Txt.mul (sgn c19) y_size) ++ (sgn c39))).len, (q25 _ _ _ g38 ⟨rfl, (GS.cut (GS.cat (GS.mul (GS.sg ⟨by decide +kernel, by decide +kernel⟩ (codeAt_mem hb20)) hb27) (GS.sg ⟨by decide +kernel, by decide +kernel⟩ (codeAt_mem hb40)) hb42) (some (1 : Int)) (some (y_size + (1 : Int)))), hB35⟩)⟩
      · intro Q44 q45
        have hc23 := ifF ha hc23
        obtain ⟨rfl, rfl⟩ := pjoin hc23
        exact (q45 _ _ _ (Gr.refl (M := (Bc B C)) g18.fh) ⟨rfl, ⟨by decide +kernel, by decide +kernel⟩, hB16⟩)
      intro v49 F46 H47 g48 hp50
      obtain ⟨hp50, hp50g, hB51⟩ := hp50
      have g52 := Gr.trans g18 g48
      obtain rfl := hp50
      obtain ⟨rfl, rfl⟩ := pjoin hm
      exact (hQ _ _ g52 hB51 hp50g)
    · have hm := ifF hc hm
      refine p_next ?_
      refine p_nx ?_
      refine p_ret ?_
      obtain ⟨l53, hb55, hm⟩ := bnd hm
      obtain ⟨hk54, rfl⟩ := rangeO1_ok hb55
      refine ⟨⟨_, rfl⟩, (V.int y_size), rfl, _, rfl, hk54.1.1, hk54.1.2, fun D56 nD57 => ?_⟩
      have nb58 := hB7.nb nD57
      have g59 := g9.own (o := (.lst [])) nD57
      have hB60 := hB7.own (o := (.lst [])) nD57
      have ow61 : Ow H0 F4 (upd H5 D56 (.lst [])) D56 [] := Ow.new g9 nD57
      obtain ⟨l62, b63, hb64, hm⟩ := bnd2 hm
      refine lc_range (lo := (0 : Int)) (n := (y_size).toNat) (fun i H' => ∃ (F' : Hp) (acc : List V) (ds : List Str) (rest : List Str) (b : Bag), Gr (Bc B C) F0 H0 F' H' ∧ Same F4 F' ∧ Ow H0 F' H' D56 acc ∧ RL K F' acc ds ∧ acc.length ≤ i ∧ BagAt F' H' B C b ∧ m_l_bits_c1  ((rangeL (0 : Int) (y_size).toNat).drop i) b = some (rest, b63) ∧ ds ++ rest = l62) ?_ ?_ ?_
      · exact ⟨F4, [], [], l62, b2, g59, Same.refl _, ow61, RpA.nil, Nat.le_refl _, hB60, hb64, rfl⟩
      · intro i66 H68 hx67 hP
        obtain ⟨F69, acc70, ds71, rest72, b73, g074, sm75, owD76, hA77, hi78, hB79, hm80, hr81⟩ := hP
        have he83 := rangeL_at (lo := (0 : Int)) hx67
        rw [drop_at he83, m_l_bits_c1.eq_2] at hm80
        refine ⟨rfl, (p_yes ?_)⟩
        obtain ⟨r84, b85, hb86, hm80⟩ := bnd2 hm80
        refine ⟨(V.ref B), rfl, F69, B, C, b73, (2 : Int), r84, b85, rfl, g074.fh, hB79, hb86, fun F87 H88 g89 hB90 => ?_⟩
        have g92 := Gr.trans g074 g89
        have ow93 := owD76.gr g89 nb58
        obtain ⟨c94, hb95, hm80⟩ := bnd hm80
        have hA96 : RL K F87 (acc70 ++ [(V.str (sgn c94))]) (ds71 ++ [((sgn c94) : Str)]) := RL.snoc (hA77.up g89.ff) (Rp.str (sgn c94) (GS.sg ⟨by decide +kernel, by decide +kernel⟩ (codeAt_mem hb95)))
        obtain ⟨rest97, b98, h99, h100⟩ := bnd2 hm80
        obtain ⟨rfl, rfl⟩ := pjoin h100
        refine ⟨_, _, c94, rfl, rfl, (⟨by decide +kernel, by decide +kernel⟩ : GS ("01" : Str)).len, hb95, acc70, ow93.h, (lt_line hi78 hx67 hk54.2), ?_⟩
        have g101 := g92.put (o := (.lst (acc70 ++ [(V.str (sgn c94))]))) ow93
        have hB102 := hB90.other (o := (.lst (acc70 ++ [(V.str (sgn c94))]))) nb58
        have ow103 := ow93.put (us := (acc70 ++ [(V.str (sgn c94))]))
        exact ⟨F87, (acc70 ++ [(V.str (sgn c94))]), (ds71 ++ [(sgn c94)]), rest97, b85, g101, (Same.trans sm75 g89.ff), ow103, hA96, (by rw [List.length_append]; exact Nat.succ_le_succ hi78), hB102, h99, (snoc_rest hr81)⟩
      intro H104 hP
      obtain ⟨F105, acc106, ds107, _rest, b108, g0109, sm110, owD111, hA112, hi113, hB114, hm115, hr116⟩ := hP
      rw [drop_end (rangeL_len _ _).symm] at hm115
      rw [m_l_bits_c1.eq_1] at hm115
      obtain ⟨rfl, rfl⟩ := pjoin hm115
      rw [List.append_nil] at hr116
      obtain rfl := hr116
      have hl117 : acc106.length ≤ sizeLine := Nat.le_trans hi113 hk54.2
      obtain ⟨t118, hb119, hm⟩ := bnd hm
      obtain ⟨hk120, rfl⟩ := joinS_ok hb119
      obtain ⟨rfl, rfl⟩ := pjoin hm
      refine ⟨_, D56, ds107, rfl, rfl, (.inl (by rw [← (RL.strs hA112).1]; exact owD111.sq)), hk120, (hQ _ _ g0109 hB114 (GS.join ⟨by decide +kernel, by decide +kernel⟩ (RL.strs hA112).2 hb119))⟩
end K06
namespace K06
open PySem PySem.Spec PyProof.Rows L2 TL G
theorem ok_l_worth {P : Program} {w : World} {K : PySem.W.Frag} {mg : Str → Option Value} {base : Heap} (T : Txt K mg) : FnOk P w K mg base CX0 1 T.a_l_worth T.d_l_worth ["_law_bits_here"] (sp_l_worth K) := by
  refine fd_ok T.F_l_worth sc_l_worth (fun vs H Q E h => ?_) (fun cdv A outer s H0 vs Q E hr h => ?_)
  · obtain ⟨_, _, rfl, _⟩ := h
    rfl
  · obtain ⟨y_bits_here, r, rfl, gs_y_bits_here, hm, hQ⟩ := h
    refine ⟨_, (pss_cons (ps_set (i := 1) sc_l_worth.nd rfl (.inl rfl) pe_int) (pss_cons (ps_for PassesOwn.never rfl (pi_str (pv 0)) (pg_name (i := 2) sc_l_worth.nd rfl (Or.inl rfl)) (pss_one (ps_set (i := 1) sc_l_worth.nd rfl (.inl rfl) (pe_op op_add (pe_op op_mul (pv 1) pe_int) (pe_callTy call_toI (by rfl) T.n_int (by decide +kernel) (pa_cons (pe_cmpR op_eq (pv 2) pe_str (nomark _)) pa_nil)))))) (pss_one (ps_ret (pv 1))))), ?_⟩
    have g0 : Gr M0 H0 H0 H0 H0 := Gr.refl (Same.refl _)
    unfold m_l_worth at hm
    refine p_seq ?_
    refine p_asg ?_
    refine p_name ?_
    refine p_nx ?_
    refine p_seq ?_
    refine p_for ?_
    refine ⟨(V.str y_bits_here), rfl, y_bits_here, rfl, ?_⟩
    obtain ⟨y_found1, ht2, hm⟩ := bnd hm
    refine for_str (z := y_bits_here) (fun i σ' H' => ∃ (F' : Hp) (y_found : Int) (o_y_sign : Option V), σ' = [(some (V.str y_bits_here)), (some (V.int y_found)), o_y_sign] ∧ Gr M0 H0 H0 F' H' ∧ Same H0 F' ∧ m_l_worth_l1  ((y_bits_here).cps.toList.drop i) y_found = some y_found1) ?_ ?_ ?_
    · exact ⟨H0, (0 : Int), none, rfl, g0, (Same.refl _), ht2⟩
    · intro i3 xv6 σ' H5 hx4 hP
      obtain ⟨F7, y_found8, o_y_sign9, rfl, g10, sm11, hm12⟩ := hP
      have he14 := str_at hx4
      rw [drop_at he14, m_l_worth_l1.eq_2] at hm12
      refine p_name ?_
      refine p_asg ?_
      refine ⟨(V.int y_found8), rfl, _, _, rfl, rfl, (.inr ⟨by decide, by decide⟩), (V.str (sgn xv6)), rfl, rfl, _, rfl, _, _, rfl, rfl, ?_⟩
      obtain ⟨y_found15, hb16, hm12⟩ := bnd hm12
      have hx17 : ((y_found8 * (2 : Int)) + (toI (eqS (sgn xv6) ("1" : Str)))) = y_found15 := sjoin hb16
      refine p_nm (v' := (V.int y_found15)) (congrArg V.int hx17) ?_
      exact ⟨F7, y_found15, (some (V.str (sgn xv6))), rfl, g10, sm11, hm12⟩
    intro σ18 H19 hP
    obtain ⟨F20, y_found21, o_y_sign22, rfl, g23, sm24, hm25⟩ := hP
    rw [drop_end str_size, m_l_worth_l1.eq_1] at hm25
    obtain rfl := sjoin hm25
    refine p_nx ?_
    refine p_ret ?_
    obtain rfl := sjoin hm
    refine ⟨(V.int y_found21), rfl, (hQ _ _ g23)⟩
end K06
namespace K06
open PySem PySem.Spec PyProof.Rows L2 TL G
theorem ok_l_one {P : Program} {w : World} {K : PySem.W.Frag} {mg : Str → Option Value} {base : Heap} (T : Txt K mg) : FnOk P w K mg base CX0 3 T.a_l_one T.d_l_one ["_law_bag_here", "_law_size", "_law_some_here"] (sp_l_one K) := by
  have G_l_bits : FnOk P w K mg base CX0 2 T.a_l_bits T.d_l_bits ["_law_bag_here", "_law_size"] (sp_l_bits K) := ok_l_bits T
  have b_l_bits := T.F_l_bits.bindsN (ps := ["_law_bag_here", "_law_size"]) fun _ _ _ _ _ _ us hl => match us, hl with | [_, _], _ => rfl
  have G_l_draw : FnOk P w K mg base CX0 1 T.a_l_draw T.d_l_draw ["_law_bag_here", "_law_many"] (sp_l_draw K) := ok_l_draw T
  have b_l_draw := T.F_l_draw.bindsN (ps := ["_law_bag_here", "_law_many"]) fun _ _ _ _ _ _ us hl => match us, hl with | [_, _], _ => rfl
  refine fd_ok T.F_l_one sc_l_one (fun vs H Q E h => ?_) (fun cdv A outer s H0 vs Q E hr h => ?_)
  · obtain ⟨_, _, _, _, _, _, _, _, _, _, rfl, _⟩ := h
    rfl
  · obtain ⟨F0, B, C, b, y_size, p_y_some_here, ws_y_some_here, y_some_here, r, b', rfl, hS0, hB, hS_y_some_here, hl_y_some_here, hA_y_some_here, nm_y_some_here, hm, hQ⟩ := h
    refine ⟨_, (pss_cons (ps_set (i := 3) sc_l_one.nd rfl (.inl rfl) (pe_call G_l_bits (hr.mono (by decide)) (by rfl) T.g_l_bits T.F_l_bits.kp b_l_bits .nil pass0 (pa_cons (pv 0) (pa_cons (pe_call G_l_draw (hr.mono (by decide)) (by rfl) T.g_l_draw T.F_l_draw.kp b_l_draw .nil pass0 (pa_cons (pv 0) (pa_cons (pe_op op_add (pv 1) pe_int) pa_nil))) pa_nil)))) (pss_cons (ps_set (i := 4) sc_l_one.nd rfl (.inl rfl) (pe_call G_l_draw (hr.mono (by decide)) (by rfl) T.g_l_draw T.F_l_draw.kp b_l_draw .nil pass0 (pa_cons (pv 0) (pa_cons pe_int pa_nil)))) (pss_cut (ps_if (PW.pt (pw_and (pt_cmpR (op_neDK (K := K) hr.units) (pv 2) (pe_lst pa_nil) (nomark _)) (pw_and1 (pt_cmpR op_lt (pv 4) pe_int (nomark _))))) (pss_cons (ps_set (i := 5) sc_l_one.nd rfl (.inl rfl) (pe_bmK (K := K) PySem.F.plainAttrs_str PySem.F.slot_str_strip PySem.F.type_str_strip mt_stripChars (pe_ix (ix_listK (K := K)) (pv 2) (pe_call G_l_draw (hr.mono (by decide)) (by rfl) T.g_l_draw T.F_l_draw.kp b_l_draw .nil pass0 (pa_cons (pv 0) (pa_cons (pe_callB (call_lenLK (K := K)) (by rfl) T.n_len (by decide +kernel) (pa_cons (pv 2) pa_nil)) pa_nil))) (fun _ _ => rfl)) (pa_cons pe_str pa_nil))) (pss_cons (ps_set (i := 6) sc_l_one.nd rfl (.inl rfl) (pe_dget2 (hu_of hr) (pe_disp (pps_cons pe_str pe_str (pps_cons pe_str pe_str pps_nil)) (by rfl) (by rfl) (fun z => by cases z) (by decide)) (pe_slice sl_str (pv 5) (po_some (pe_un un_neg pe_int)) po_none) pe_str ⟨by rfl, by rfl, by rfl, by rfl⟩)) (pss_cons (ps_set (i := 7) sc_l_one.nd rfl (.inl rfl) (pe_call G_l_draw (hr.mono (by decide)) (by rfl) T.g_l_draw T.F_l_draw.kp b_l_draw .nil pass0 (pa_cons (pv 0) (pa_cons (pe_op op_add (pe_callB call_len_str (by rfl) T.n_len (by decide +kernel) (pa_cons (pv 5) pa_nil)) pe_int) pa_nil)))) (pss_one (ps_set (i := 3) sc_l_one.nd rfl (.inl rfl) (pe_ix (ix_listK (K := K)) (pe_lst (pa_cons (pe_slice sl_str (pv 5) po_none (po_some (pv 7))) (pa_cons (pe_op op_add_str (pv 5) (pe_ix ix_str pe_str (pe_call G_l_draw (hr.mono (by decide)) (by rfl) T.g_l_draw T.F_l_draw.kp b_l_draw .nil pass0 (pa_cons (pv 0) (pa_cons pe_int pa_nil))) (fun _ _ => rfl))) (pa_cons (pe_op op_add_str (pe_slice sl_str (pv 5) po_none (po_some (pe_un un_neg pe_int))) (pv 6)) pa_nil)))) (pv 4) (fun _ _ => rfl))))))) pss_nil) (pss_cut (ps_if (pt_cmpR op_eq (pv 4) pe_int (nomark _)) (pss_one (ps_set (i := 3) sc_l_one.nd rfl (.inl rfl) (pe_op op_add_str (pv 3) (pe_call G_l_bits (hr.mono (by decide)) (by rfl) T.g_l_bits T.F_l_bits.kp b_l_bits .nil pass0 (pa_cons (pv 0) (pa_cons (pe_op op_sub (pv 1) (pe_callB call_len_str (by rfl) T.n_len (by decide +kernel) (pa_cons (pv 3) pa_nil))) pa_nil)))))) pss_nil) (pss_cons (ps_set (i := 3) sc_l_one.nd rfl (.inl rfl) (pe_slice sl_str (pv 3) po_none (po_some (pv 1)))) (pss_one (ps_ret (pe_op op_add_str (pv 3) (pe_op op_mulS pe_str (pe_callTy call_toI (by rfl) T.n_int (by decide +kernel) (pa_cons (pe_cmpR op_lt (pe_callB call_len_str (by rfl) T.n_len (by decide +kernel) (pa_cons (pv 3) pa_nil)) (pv 1) (nomark _)) pa_nil))))))))))), ?_⟩
    have g0 : Gr (Bc B C) F0 H0 F0 H0 := Gr.refl hS0
    unfold m_l_one at hm
    refine p_seq ?_
    refine p_asg ?_
    obtain ⟨r1, b2, hb3, hm⟩ := bnd2 hm
    refine ⟨(V.ref B), rfl, (V.ref B), rfl, (V.int y_size), rfl, _, _, rfl, rfl, F0, B, C, b, (y_size + (1 : Int)), r1, b2, rfl, g0.fh, hB, hb3, fun F4 H5 g6 hB7 => ?_⟩
    have g9 := Gr.trans g0 g6
    obtain ⟨r10, b11, hb12, hm⟩ := bnd2 hm
    refine ⟨F4, B, C, b2, r1, r10, b11, rfl, g9.fh, hB7, hb12, fun F13 H14 g15 hB16 gs17 => ?_⟩
    have g18 := Gr.trans g9 g15
    refine p_name ?_
    refine p_nx ?_
    refine p_seq ?_
    refine p_asg ?_
    obtain ⟨r19, b20, hb21, hm⟩ := bnd2 hm
    refine ⟨(V.ref B), rfl, F13, B, C, b11, (5 : Int), r19, b20, rfl, g18.fh, hB16, hb21, fun F22 H23 g24 hB25 => ?_⟩
    have g27 := Gr.trans g18 g24
    refine p_name ?_
    refine p_nx ?_
    obtain ⟨y_bits_here28, b29, hj30, hm⟩ := bnd2 hm
    refine ⟨fun σ' H' => ∃ (F' : Hp) (o_y_near : Option V) (o_y_turned_here : Option V) (o_y_cut : Option V), σ' = [(some (V.ref B)), (some (V.int y_size)), (some (V.ref p_y_some_here)), (some (V.str y_bits_here28)), (some (V.int r19)), o_y_near, o_y_turned_here, o_y_cut] ∧ Gr (Bc B C) F0 H0 F' H' ∧ Same F22 F' ∧ GS y_bits_here28 ∧ BagAt F' H' B C b29, ?_, ?_⟩
    · refine p_if ?_
      refine ⟨(V.ref p_y_some_here), rfl, (by show 0 ≤ sizeLine; decide), fun p31 np32 => ?_⟩
      have nb33 := hB25.nb np32
      have g34 := g27.own (o := (.lst [])) np32
      have hB35 := hB25.own (o := (.lst [])) np32
      have ow36 : Ow H0 F22 (upd H23 p31 (.lst [])) p31 [] := Ow.new g27 np32
      have rH38 : R K (upd H23 p31 (.lst [])) (V.ref p_y_some_here) y_some_here := (R.mkl (g34.seq nm_y_some_here hS_y_some_here) hl_y_some_here (RpA.up (hA_y_some_here.up (Same.trans g6.ff (Same.trans g15.ff g24.ff))) g34.fh))
      have rH39 : R K (upd H23 p31 (.lst [])) (V.ref p31) ([] : (List Str)) := (R.mkl ow36.sq (by show 0 ≤ sizeLine; decide) (RpA.up RpA.nil g34.fh))
      refine ⟨_, _, (Rp.dp _ _ rH38), (Rp.dp _ _ rH39), (R.shaped rH38), (R.shaped rH39), _, rfl, ?_⟩
      refine andJT (M := M0) (F := F22) (c := ((!eqD y_some_here ([] : (List Str))) && (decide (r19 < (3 : Int))))) (P := fun _ _ => True) (fun ha => ?_) (fun ha => ⟨(anF ha), trivial⟩) g34.fh ?_
      · intro Q43 q44
        refine ⟨(V.int r19), rfl, _, _, rfl, rfl, _, rfl, (qTb ha (q44 _ _ (Gr.refl (M := M0) g34.fh) trivial))⟩
      intro F45 H46 g47 hB48
      have g49 := Gr.trans g34 (Gr.of0 g47)
      have ow50 := ow36.gr0 g47
      have hB51 := hB35.gr0 g47
      refine (iteB (fun hc => ?_) (fun hc => ?_))
      · have hj30 := ifT hc hj30
        refine p_seq ?_
        refine p_asg ?_
        obtain ⟨r52, b53, hb54, hj30⟩ := bnd2 hj30
        refine ⟨(V.ref p_y_some_here), rfl, (V.ref B), rfl, (V.ref p_y_some_here), rfl, p_y_some_here, ws_y_some_here, _, rfl, (.inl (g49.seq nm_y_some_here hS_y_some_here)), (RL.len (hA_y_some_here.up (Same.trans g6.ff (Same.trans g15.ff (Same.trans g24.ff g47.ff))))), F45, B, C, b20, (((y_some_here).length : Nat) : Int), r52, b53, rfl, g49.fh, hB51, hb54, fun F55 H56 g57 hB58 => ?_⟩
        have g60 := Gr.trans g49 g57
        have ow61 := ow50.gr g57 nb33
        obtain ⟨t62, hb63, hj30⟩ := bnd hj30
        obtain ⟨v64, ha65, r66⟩ := RL.at (hA_y_some_here.up (Same.trans g6.ff (Same.trans g15.ff (Same.trans g24.ff (Same.trans g47.ff g57.ff))))) hb63
        obtain ⟨rfl, gs67⟩ := R.str_v r66
        refine ⟨p_y_some_here, ws_y_some_here, _, (V.str t62), rfl, rfl, (g60.seq nm_y_some_here hS_y_some_here), ha65, rfl, _, _, rfl, rfl, (gs67 : GS t62).len, ?_⟩
        obtain ⟨y_near68, hb69, hj30⟩ := bnd hj30
        have hx70 : (Txt.stripChars t62 ("*" : Str)) = y_near68 := sjoin hb69
        have gs71 : GS y_near68 := hx70 ▸ ((GS.strip (gs67 : GS t62) ("*" : Str)) : GS (Txt.stripChars t62 ("*" : Str)))
        refine p_nm (v' := (V.str y_near68)) (congrArg V.str hx70) ?_
        refine p_nx ?_
        refine p_seq ?_
        refine p_asg ?_
        refine rd_dgets (k := (cutS y_near68 (some (-(1 : Int))) none)) (d := ("" : Str)) _ [(("0" : Str), ("1" : Str)), (("1" : Str), ("0" : Str))] rfl (by decide) (by decide +kernel) (fun H1 Q q => ⟨(V.str y_near68), rfl, _, rfl, _, rfl, _, rfl, (gs71 : GS y_near68).len, q⟩) (fun H1 Q q => q) (fun p72 np73 => ?_)
        have ne74 := ow61.ne np73
        have nb75 := hB58.nb np73
        have g76 := g60.own (o := (.dK (kvS [(("0" : Str), ("1" : Str)), (("1" : Str), ("0" : Str))]))) np73
        have ow77 := ow61.own (o := (.dK (kvS [(("0" : Str), ("1" : Str)), (("1" : Str), ("0" : Str))]))) np73
        have hB78 := hB58.own (o := (.dK (kvS [(("0" : Str), ("1" : Str)), (("1" : Str), ("0" : Str))]))) np73
        obtain ⟨y_turned_here79, hb80, hj30⟩ := bnd hj30
        have hx81 : (dgetS [(("0" : Str), ("1" : Str)), (("1" : Str), ("0" : Str))] (cutS y_near68 (some (-(1 : Int))) none) ("" : Str)) = y_turned_here79 := sjoin hb80
        have gs82 : GS y_turned_here79 := hx81 ▸ ((GS.dg (fun kv h => by simp only [List.mem_cons, List.not_mem_nil, or_false] at h; rcases h with rfl | rfl <;> exact ⟨by decide +kernel, by decide +kernel⟩) ⟨by decide +kernel, by decide +kernel⟩) : GS (dgetS [(("0" : Str), ("1" : Str)), (("1" : Str), ("0" : Str))] (cutS y_near68 (some (-(1 : Int))) none) ("" : Str)))
        refine p_nm (v' := (V.str y_turned_here79)) (congrArg V.str hx81) ?_
        refine p_nx ?_
        refine p_seq ?_
        refine p_asg ?_
        obtain ⟨r83, b84, hb85, hj30⟩ := bnd2 hj30
        refine ⟨(V.ref B), rfl, (V.str y_near68), rfl, _, rfl, (gs71 : GS y_near68).len, _, _, rfl, rfl, F55, B, C, b53, (((y_near68.length : Nat) : Int) + (1 : Int)), r83, b84, rfl, g76.fh, hB78, hb85, fun F86 H87 g88 hB89 => ?_⟩
        have g91 := Gr.trans g76 g88
        have ow92 := ow77.gr g88 nb33
        refine p_name ?_
        refine p_nx ?_
        refine p_asg ?_
        obtain ⟨r93, b94, hb95, hj30⟩ := bnd2 hj30
        refine ⟨(V.str y_near68), rfl, (V.int r83), rfl, _, rfl, _, rfl, (gs71 : GS y_near68).len, (V.str y_near68), rfl, (V.ref B), rfl, F86, B, C, b84, (2 : Int), r93, b94, rfl, g91.fh, hB89, hb95, fun F96 H97 g98 hB99 => ?_⟩
        have g101 := Gr.trans g91 g98
        have ow102 := ow92.gr g98 nb33
        obtain ⟨c103, hb104, hj30⟩ := bnd hj30
        obtain ⟨t105, hb106, hj30⟩ := bnd hj30
        obtain ⟨hk107, rfl⟩ := catS_ok hb106
        obtain ⟨t108, hb109, hj30⟩ := bnd hj30
        obtain ⟨hk110, rfl⟩ := catS_ok hb109
        refine ⟨_, _, c103, rfl, rfl, (⟨by decide +kernel, by decide +kernel⟩ : GS ("01" : Str)).len, hb104, _, _, rfl, rfl, hk107, (V.str y_near68), rfl, _, rfl, _, rfl, _, rfl, (gs71 : GS y_near68).len, (V.str y_turned_here79), rfl, _, _, rfl, rfl, hk110, (by show 3 ≤ sizeLine; decide), fun p111 np112 => ?_⟩
        have ne113 := ow102.ne np112
        have nb114 := hB99.nb np112
        have g115 := g101.own (o := (.lst [(V.str (cutS y_near68 none (some r83))), (V.str (y_near68 ++ (sgn c103))), (V.str ((cutS y_near68 none (some (-(1 : Int)))) ++ y_turned_here79))])) np112
        have ow116 := ow102.own (o := (.lst [(V.str (cutS y_near68 none (some r83))), (V.str (y_near68 ++ (sgn c103))), (V.str ((cutS y_near68 none (some (-(1 : Int)))) ++ y_turned_here79))])) np112
        have hB117 := hB99.own (o := (.lst [(V.str (cutS y_near68 none (some r83))), (V.str (y_near68 ++ (sgn c103))), (V.str ((cutS y_near68 none (some (-(1 : Int)))) ++ y_turned_here79))])) np112
        have ow118 : Ow H0 F96 (upd H97 p111 (.lst [(V.str (cutS y_near68 none (some r83))), (V.str (y_near68 ++ (sgn c103))), (V.str ((cutS y_near68 none (some (-(1 : Int)))) ++ y_turned_here79))])) p111 [(V.str (cutS y_near68 none (some r83))), (V.str (y_near68 ++ (sgn c103))), (V.str ((cutS y_near68 none (some (-(1 : Int)))) ++ y_turned_here79))] := Ow.new g101 np112
        have hA119 : RL K F96 [(V.str (cutS y_near68 none (some r83))), (V.str (y_near68 ++ (sgn c103))), (V.str ((cutS y_near68 none (some (-(1 : Int)))) ++ y_turned_here79))] ([(cutS y_near68 none (some r83)), (y_near68 ++ (sgn c103)), ((cutS y_near68 none (some (-(1 : Int)))) ++ y_turned_here79)] : List Str) := (RpA.cons (Rp.str (cutS y_near68 none (some r83)) (GS.cut gs71 none (some r83))) (RpA.cons (Rp.str (y_near68 ++ (sgn c103)) (GS.cat gs71 (GS.sg ⟨by decide +kernel, by decide +kernel⟩ (codeAt_mem hb104)) hb106)) (RpA.cons (Rp.str ((cutS y_near68 none (some (-(1 : Int)))) ++ y_turned_here79) (GS.cat (GS.cut gs71 none (some (-(1 : Int)))) gs82 hb109)) RpA.nil)))
        obtain ⟨t120, hb121, hj30⟩ := bnd hj30
        obtain ⟨v122, ha123, r124⟩ := RL.at hA119 hb121
        obtain ⟨rfl, gs125⟩ := R.str_v r124
        refine ⟨(V.int r19), rfl, p111, [(V.str (cutS y_near68 none (some r83))), (V.str (y_near68 ++ (sgn c103))), (V.str ((cutS y_near68 none (some (-(1 : Int)))) ++ y_turned_here79))], _, (V.str t120), rfl, rfl, ow118.sq, ha123, ?_⟩
        refine p_name ?_
        obtain ⟨rfl, rfl⟩ := pjoin hj30
        exact ⟨F96, (some (V.str y_near68)), (some (V.str y_turned_here79)), (some (V.int r83)), rfl, g115, (Same.trans g47.ff (Same.trans g57.ff (Same.trans g88.ff g98.ff))), gs125, hB117⟩
      · have hj30 := ifF hc hj30
        refine p_next ?_
        obtain ⟨rfl, rfl⟩ := pjoin hj30
        exact ⟨F45, none, none, none, rfl, g49, g47.ff, gs17, hB51⟩
    intro σ126 H127 hMid
    obtain ⟨F128, o_y_near134, o_y_turned_here135, o_y_cut136, rfl, g129, sm130, gs_y_bits_here28131, hB132⟩ := hMid
    obtain ⟨y_bits_here137, b138, hj139, hm⟩ := bnd2 hm
    refine ⟨fun σ' H' => ∃ (F' : Hp), σ' = [(some (V.ref B)), (some (V.int y_size)), (some (V.ref p_y_some_here)), (some (V.str y_bits_here137)), (some (V.int r19)), o_y_near134, o_y_turned_here135, o_y_cut136] ∧ Gr (Bc B C) F0 H0 F' H' ∧ Same F128 F' ∧ GS y_bits_here137 ∧ BagAt F' H' B C b138, ?_, ?_⟩
    · refine p_if ?_
      refine ⟨(V.int r19), rfl, rfl, _, rfl, (iteB (fun hc => ?_) (fun hc => ?_))⟩
      · have hj139 := ifT hc hj139
        refine p_asg ?_
        obtain ⟨r140, b141, hb142, hj139⟩ := bnd2 hj139
        refine ⟨(V.str y_bits_here28), rfl, (V.ref B), rfl, (V.int y_size), rfl, (V.str y_bits_here28), rfl, _, rfl, (gs_y_bits_here28131 : GS y_bits_here28).len, _, _, rfl, rfl, F128, B, C, b29, (y_size - ((y_bits_here28.length : Nat) : Int)), r140, b141, rfl, g129.fh, hB132, hb142, fun F143 H144 g145 hB146 gs147 => ?_⟩
        have g148 := Gr.trans g129 g145
        obtain ⟨t149, hb150, hj139⟩ := bnd hj139
        obtain ⟨hk151, rfl⟩ := catS_ok hb150
        refine ⟨_, _, rfl, rfl, hk151, ?_⟩
        obtain ⟨y_bits_here152, hx153⟩ : ∃ z_, (y_bits_here28 ++ r140) = z_ := ⟨_, rfl⟩
        try rw [hx153] at hj139
        have gs154 : GS y_bits_here152 := hx153 ▸ ((GS.cat gs_y_bits_here28131 gs147 hb150) : GS (y_bits_here28 ++ r140))
        refine p_nm (v' := (V.str y_bits_here152)) (congrArg V.str hx153) ?_
        obtain ⟨rfl, rfl⟩ := pjoin hj139
        exact ⟨F143, rfl, g148, g145.ff, gs154, hB146⟩
      · have hj139 := ifF hc hj139
        refine p_next ?_
        obtain ⟨rfl, rfl⟩ := pjoin hj139
        exact ⟨F128, rfl, g129, (Same.refl _), gs_y_bits_here28131, hB132⟩
    intro σ155 H156 hMid
    obtain ⟨F157, rfl, g158, sm159, gs_y_bits_here137160, hB161⟩ := hMid
    refine p_seq ?_
    refine p_asg ?_
    refine ⟨(V.str y_bits_here137), rfl, (V.int y_size), rfl, _, rfl, _, rfl, (gs_y_bits_here137160 : GS y_bits_here137).len, ?_⟩
    obtain ⟨y_bits_here163, hb164, hm⟩ := bnd hm
    have hx165 : (cutS y_bits_here137 none (some y_size)) = y_bits_here163 := sjoin hb164
    have gs166 : GS y_bits_here163 := hx165 ▸ ((GS.cut gs_y_bits_here137160 none (some y_size)) : GS (cutS y_bits_here137 none (some y_size)))
    refine p_nm (v' := (V.str y_bits_here163)) (congrArg V.str hx165) ?_
    refine p_nx ?_
    refine p_ret ?_
    obtain ⟨t167, hb168, hm⟩ := bnd hm
    obtain ⟨hk169, rfl⟩ := mulS_ok hb168
    obtain ⟨t170, hb171, hm⟩ := bnd hm
    obtain ⟨hk172, rfl⟩ := catS_ok hb171
    obtain ⟨rfl, rfl⟩ := pjoin hm
    refine ⟨(V.str y_bits_here163), rfl, (V.str y_bits_here163), rfl, _, rfl, (gs166 : GS y_bits_here163).len, (V.int y_size), rfl, _, _, rfl, rfl, _, rfl, _, _, rfl, rfl, hk169, _, _, rfl, rfl, hk172, (hQ _ _ g158 hB161 (GS.cat gs166 (GS.mul ⟨by decide +kernel, by decide +kernel⟩ hb168) hb171))⟩
end K06
namespace K06
open PySem PySem.Spec PyProof.Rows L2 TL G
theorem ok_l_some {P : Program} {w : World} {K : PySem.W.Frag} {mg : Str → Option Value} {base : Heap} (T : Txt K mg) : FnOk P w K mg base CX0 4 T.a_l_some T.d_l_some ["_law_bag_here", "_law_size", "_law_most"] (sp_l_some K) := by
  have G_l_draw : FnOk P w K mg base CX0 1 T.a_l_draw T.d_l_draw ["_law_bag_here", "_law_many"] (sp_l_draw K) := ok_l_draw T
  have b_l_draw := T.F_l_draw.bindsN (ps := ["_law_bag_here", "_law_many"]) fun _ _ _ _ _ _ us hl => match us, hl with | [_, _], _ => rfl
  have G_l_one : FnOk P w K mg base CX0 3 T.a_l_one T.d_l_one ["_law_bag_here", "_law_size", "_law_some_here"] (sp_l_one K) := ok_l_one T
  have b_l_one := T.F_l_one.bindsN (ps := ["_law_bag_here", "_law_size", "_law_some_here"]) fun _ _ _ _ _ _ us hl => match us, hl with | [_, _, _], _ => rfl
  refine fd_ok T.F_l_some sc_l_some (fun vs H Q E h => ?_) (fun cdv A outer s H0 vs Q E hr h => ?_)
  · obtain ⟨_, _, _, _, _, _, _, _, rfl, _⟩ := h
    rfl
  · obtain ⟨F0, B, C, b, y_size, y_most, r, b', rfl, hS0, hB, hm, hQ⟩ := h
    refine ⟨_, (pss_cons (ps_set (i := 3) sc_l_some.nd rfl (.inl rfl) (pe_lst pa_nil)) (pss_cons (ps_for PassesOwn.never rfl (pi_range1 (by rfl) T.n_range (pa_cons (pe_ix (ix_listK (K := K)) (pe_lst (pa_cons (pe_call G_l_draw (hr.mono (by decide)) (by rfl) T.g_l_draw T.F_l_draw.kp b_l_draw .nil pass0 (pa_cons (pv 0) (pa_cons pe_int pa_nil))) (pa_cons (pe_call G_l_draw (hr.mono (by decide)) (by rfl) T.g_l_draw T.F_l_draw.kp b_l_draw .nil pass0 (pa_cons (pv 0) (pa_cons (pe_op op_add (pv 2) pe_int) pa_nil))) pa_nil))) (pe_call G_l_draw (hr.mono (by decide)) (by rfl) T.g_l_draw T.F_l_draw.kp b_l_draw .nil pass0 (pa_cons (pv 0) (pa_cons pe_int pa_nil))) (fun _ _ => rfl)) pa_nil)) (pg_name (i := 4) sc_l_some.nd rfl (Or.inl rfl)) (pss_one (ps_expr (pe_bmK (K := K) PySem.F.plainAttrs_list PySem.F.slot_list_append PySem.F.type_list_append mt_append (pv 3) (pa_cons (pe_call G_l_one (hr.mono (by decide)) (by rfl) T.g_l_one T.F_l_one.kp b_l_one .nil pass0 (pa_cons (pv 0) (pa_cons (pv 1) (pa_cons (pv 3) pa_nil)))) pa_nil))))) (pss_one (ps_ret (pv 3))))), ?_⟩
    have g0 : Gr (Bc B C) F0 H0 F0 H0 := Gr.refl hS0
    unfold m_l_some at hm
    refine p_seq ?_
    refine p_asg ?_
    refine ⟨(by show 0 ≤ sizeLine; decide), fun p1 np2 => ?_⟩
    have nb3 := hB.nb np2
    have g4 := g0.own (o := (.lst [])) np2
    have hB5 := hB.own (o := (.lst [])) np2
    have ow6 : Ow H0 F0 (upd H0 p1 (.lst [])) p1 [] := Ow.new g0 np2
    refine p_name ?_
    refine p_nx ?_
    refine p_seq ?_
    refine p_for ?_
    obtain ⟨r8, b9, hb10, hm⟩ := bnd2 hm
    refine ⟨(V.ref B), rfl, F0, B, C, b, (6 : Int), r8, b9, rfl, g4.fh, hB5, hb10, fun F11 H12 g13 hB14 => ?_⟩
    have g16 := Gr.trans g4 g13
    have ow17 := ow6.gr g13 nb3
    obtain ⟨r18, b19, hb20, hm⟩ := bnd2 hm
    refine ⟨(V.ref B), rfl, (V.int y_most), rfl, _, _, rfl, rfl, F11, B, C, b9, (y_most + (1 : Int)), r18, b19, rfl, g16.fh, hB14, hb20, fun F21 H22 g23 hB24 => ?_⟩
    have g26 := Gr.trans g16 g23
    have ow27 := ow17.gr g23 nb3
    refine ⟨(by show 2 ≤ sizeLine; decide), fun p28 np29 => ?_⟩
    have ne30 := ow27.ne np29
    have nb31 := hB24.nb np29
    have g32 := g26.own (o := (.lst [(V.int r8), (V.int r18)])) np29
    have ow33 := ow27.own (o := (.lst [(V.int r8), (V.int r18)])) np29
    have hB34 := hB24.own (o := (.lst [(V.int r8), (V.int r18)])) np29
    have ow35 : Ow H0 F21 (upd H22 p28 (.lst [(V.int r8), (V.int r18)])) p28 [(V.int r8), (V.int r18)] := Ow.new g26 np29
    have hA36 : RL K F21 [(V.int r8), (V.int r18)] ([r8, r18] : List Int) := (RpA.cons (Rp.int r8) (RpA.cons (Rp.int r18) RpA.nil))
    obtain ⟨r37, b38, hb39, hm⟩ := bnd2 hm
    refine ⟨(V.ref B), rfl, F21, B, C, b19, (2 : Int), r37, b38, rfl, g32.fh, hB34, hb39, fun F40 H41 g42 hB43 => ?_⟩
    have g45 := Gr.trans g32 g42
    have ow46 := ow33.gr g42 nb3
    have ow47 := ow35.gr g42 nb31
    obtain ⟨t48, hb49, hm⟩ := bnd hm
    obtain ⟨v50, ha51, r52⟩ := RL.at (hA36.up g42.ff) hb49
    obtain rfl := R.int_v r52
    obtain ⟨l53, hb55, hm⟩ := bnd hm
    obtain ⟨hk54, rfl⟩ := rangeO1_ok hb55
    refine ⟨p28, [(V.int r8), (V.int r18)], _, (V.int t48), rfl, rfl, ow47.sq, ha51, _, rfl, hk54.1.1, hk54.1.2, ?_⟩
    obtain ⟨y_found56, b57, ht58, hm⟩ := bnd2 hm
    refine for_range (lo := (0 : Int)) (n := (t48).toNat) (fun i σ' H' => ∃ (F' : Hp) (o_y_k : Option V) (y_found : (List Str)) (ws_y_found : List V) (b : Bag), σ' = [(some (V.ref B)), (some (V.int y_size)), (some (V.int y_most)), (some (V.ref p1)), o_y_k] ∧ Gr (Bc B C) F0 H0 F' H' ∧ Same F40 F' ∧ Ow H0 F' H' p1 ws_y_found ∧ ws_y_found.length ≤ sizeLine ∧ RL K F' ws_y_found y_found ∧ BagAt F' H' B C b ∧ m_l_some_l1 y_size ((rangeL (0 : Int) (t48).toNat).drop i) y_found b = some (y_found56, b57)) ?_ ?_ ?_
    · exact ⟨F40, none, ([] : (List Str)), [], b38, rfl, g45, (Same.refl _), ow46, (by show 0 ≤ sizeLine; decide), (RpA.nil.up (Same.trans g13.ff (Same.trans g23.ff g42.ff))), hB43, ht58⟩
    · intro i59 σ' H61 hx60 hP
      obtain ⟨F63, o_y_k64, y_found65, ws_y_found66, b67, rfl, g68, sm69, ow_y_found70, hl_y_found71, hA_y_found72, hB73, hm74⟩ := hP
      have he76 := rangeL_at (lo := (0 : Int)) hx60
      rw [drop_at he76, m_l_some_l1.eq_2] at hm74
      refine p_name ?_
      refine p_drop ?_
      obtain ⟨r77, b78, hb79, hm74⟩ := bnd2 hm74
      refine ⟨(V.ref p1), rfl, (.inl ⟨rfl, _, ow_y_found70.sq⟩), (V.ref B), rfl, (V.int y_size), rfl, (V.ref p1), rfl, F63, B, C, b67, y_size, p1, ws_y_found66, y_found65, r77, b78, rfl, g68.fh, hB73, ow_y_found70.sq, hl_y_found71, hA_y_found72, nb3, hb79, fun F80 H81 g82 hB83 gs84 => ?_⟩
      have g85 := Gr.trans g68 g82
      have ow86 := ow_y_found70.gr g82 nb3
      obtain ⟨t87, hb88, hm74⟩ := bnd hm74
      obtain ⟨hk89, rfl⟩ := appL_ok hb88
      refine ⟨p1, ws_y_found66, (V.str r77), rfl, rfl, ow86.h, (by rw [RL.len (hA_y_found72.up g82.ff)]; exact hk89), ?_⟩
      have hA90 : RL K F80 (ws_y_found66 ++ [(V.str r77)]) (y_found65 ++ [(r77 : Str)]) := RL.snoc (hA_y_found72.up g82.ff) (Rp.str r77 gs84)
      have hl91 : (ws_y_found66 ++ [(V.str r77)]).length ≤ sizeLine := by rw [List.length_append, RL.len (hA_y_found72.up g82.ff)]; exact hk89
      have g92 := g85.put (o := (.lst (ws_y_found66 ++ [(V.str r77)]))) ow86
      have hB93 := hB83.other (o := (.lst (ws_y_found66 ++ [(V.str r77)]))) nb3
      have ow94 := ow86.put (us := (ws_y_found66 ++ [(V.str r77)]))
      exact ⟨F80, (some (V.int ((0 : Int) + ((i59 : Nat) : Int)))), (y_found65 ++ [r77]), (ws_y_found66 ++ [(V.str r77)]), b78, rfl, g92, (Same.trans sm69 g82.ff), ow94, hl91, hA90, hB93, hm74⟩
    intro σ95 H96 hP
    obtain ⟨F97, o_y_k98, y_found99, ws_y_found100, b101, rfl, g102, sm103, ow_y_found104, hl_y_found105, hA_y_found106, hB107, hm108⟩ := hP
    rw [drop_end (rangeL_len _ _).symm, m_l_some_l1.eq_1] at hm108
    obtain ⟨rfl, rfl⟩ := pjoin hm108
    refine p_nx ?_
    refine p_ret ?_
    obtain ⟨rfl, rfl⟩ := pjoin hm
    refine ⟨(V.ref p1), rfl, (hQ _ _ _ _ g102 hB107 ow_y_found104.n0 ow_y_found104.h ow_y_found104.nF hl_y_found105 hA_y_found106)⟩
end K06
namespace K06
open PySem PySem.Spec PyProof.Rows L2 TL G
theorem ok_l_stretches {P : Program} {w : World} {K : PySem.W.Frag} {mg : Str → Option Value} {base : Heap} (T : Txt K mg) : FnOk P w K mg base CX0 3 T.a_l_stretches T.d_l_stretches ["_law_bag_here", "_law_size"] (sp_l_stretches K) := by
  have G_l_draw : FnOk P w K mg base CX0 1 T.a_l_draw T.d_l_draw ["_law_bag_here", "_law_many"] (sp_l_draw K) := ok_l_draw T
  have b_l_draw := T.F_l_draw.bindsN (ps := ["_law_bag_here", "_law_many"]) fun _ _ _ _ _ _ us hl => match us, hl with | [_, _], _ => rfl
  have G_l_bits : FnOk P w K mg base CX0 2 T.a_l_bits T.d_l_bits ["_law_bag_here", "_law_size"] (sp_l_bits K) := ok_l_bits T
  have b_l_bits := T.F_l_bits.bindsN (ps := ["_law_bag_here", "_law_size"]) fun _ _ _ _ _ _ us hl => match us, hl with | [_, _], _ => rfl
  have G_l_worth : FnOk P w K mg base CX0 1 T.a_l_worth T.d_l_worth ["_law_bits_here"] (sp_l_worth K) := ok_l_worth T
  have b_l_worth := T.F_l_worth.bindsN (ps := ["_law_bits_here"]) fun _ _ _ _ _ _ us hl => match us, hl with | [_], _ => rfl
  refine fd_ok T.F_l_stretches sc_l_stretches (fun vs H Q E h => ?_) (fun cdv A outer s H0 vs Q E hr h => ?_)
  · obtain ⟨_, _, _, _, _, _, _, rfl, _⟩ := h
    rfl
  · obtain ⟨F0, B, C, b, y_size, r, b', rfl, hS0, hB, hm, hQ⟩ := h
    refine ⟨_, (pss_cons (ps_set (i := 2) sc_l_stretches.nd rfl (.inl rfl) (pe_lst (pa_cons pe_int pa_nil))) (pss_cons (ps_for PassesOwn.never rfl (pi_range1 (by rfl) T.n_range (pa_cons (pe_ix (ix_listK (K := K)) (pe_lst (pa_cons (pe_call G_l_draw (hr.mono (by decide)) (by rfl) T.g_l_draw T.F_l_draw.kp b_l_draw .nil pass0 (pa_cons (pv 0) (pa_cons pe_int pa_nil))) (pa_cons (pe_call G_l_draw (hr.mono (by decide)) (by rfl) T.g_l_draw T.F_l_draw.kp b_l_draw .nil pass0 (pa_cons (pv 0) (pa_cons pe_int pa_nil))) pa_nil))) (pe_call G_l_draw (hr.mono (by decide)) (by rfl) T.g_l_draw T.F_l_draw.kp b_l_draw .nil pass0 (pa_cons (pv 0) (pa_cons pe_int pa_nil))) (fun _ _ => rfl)) pa_nil)) (pg_name (i := 3) sc_l_stretches.nd rfl (Or.inl rfl)) (pss_cons (ps_set (i := 4) sc_l_stretches.nd rfl (.inl rfl) (pe_call G_l_bits (hr.mono (by decide)) (by rfl) T.g_l_bits T.F_l_bits.kp b_l_bits .nil pass0 (pa_cons (pv 0) (pa_cons (pe_call G_l_draw (hr.mono (by decide)) (by rfl) T.g_l_draw T.F_l_draw.kp b_l_draw .nil pass0 (pa_cons (pv 0) (pa_cons (pe_op op_add (pv 1) pe_int) pa_nil))) pa_nil)))) (pss_cons (ps_set (i := 5) sc_l_stretches.nd rfl (.inl rfl) (pe_call G_l_worth (hr.mono (by decide)) (by rfl) T.g_l_worth T.F_l_worth.kp b_l_worth .nil pass0 (pa_cons (pe_op op_add_str (pv 4) (pe_op op_mulS pe_str (pe_op op_sub (pv 1) (pe_callB call_len_str (by rfl) T.n_len (by decide +kernel) (pa_cons (pv 4) pa_nil))))) pa_nil))) (pss_cons (ps_set (i := 6) sc_l_stretches.nd rfl (.inl rfl) (pe_ix (ix_listK (K := K)) (pv 2) (pe_call G_l_draw (hr.mono (by decide)) (by rfl) T.g_l_draw T.F_l_draw.kp b_l_draw .nil pass0 (pa_cons (pv 0) (pa_cons (pe_callB (call_lenLK (K := K)) (by rfl) T.n_len (by decide +kernel) (pa_cons (pv 2) pa_nil)) pa_nil))) (fun _ _ => rfl))) (pss_one (ps_expr (pe_bmK (K := K) PySem.F.plainAttrs_list PySem.F.slot_list_append PySem.F.type_list_append mt_append (pv 2) (pa_cons (pe_ix (ix_listK (K := K)) (pe_lst (pa_cons (pv 5) (pa_cons (pe_op op_add (pe_op op_add (pv 6) pe_int) (pe_call G_l_draw (hr.mono (by decide)) (by rfl) T.g_l_draw T.F_l_draw.kp b_l_draw .nil pass0 (pa_cons (pv 0) (pa_cons pe_int pa_nil)))) (pa_cons (pe_callB (call_max2 rfl) (by rfl) T.n_max (by decide +kernel) (pa_cons pe_int (pa_cons (pe_op op_sub (pv 6) pe_int) pa_nil))) (pa_cons (pe_op op_shl pe_int (pv 1)) (pa_cons (pe_op op_add (pv 5) pe_int) pa_nil)))))) (pe_call G_l_draw (hr.mono (by decide)) (by rfl) T.g_l_draw T.F_l_draw.kp b_l_draw .nil pass0 (pa_cons (pv 0) (pa_cons pe_int pa_nil))) (fun _ _ => rfl)) pa_nil)))))))) (pss_cons (ps_set (i := 2) sc_l_stretches.nd rfl (.inl rfl) (pe_ssetK (K := K) rfl (by rfl) T.n_sorted (by rfl) T.n_set (pe_lc (own := [("_law_edge", 8)]) rfl sc_l_stretches.nd (pi_listK (K := K) (pv 2)) (blkOk_by (own := [("_law_edge", 8)]) (N := N_l_stretches) (sc := defScope s_l_stretches) (by decide +kernel)) (fun _ _ _ _ _ => (pg_name (i := 8) sc_l_stretches.nd rfl (Or.inl rfl) (.inr rfl))) (fun _ _ _ _ _ => (pts_one (pt_cmpR op_le (pv 8) (pe_op op_shl pe_int (pv 1)) (nomark _)))) (fun _ _ _ _ _ => (pv 8))))) (pss_cons (ps_set (i := 7) sc_l_stretches.nd rfl (.inl rfl) (pe_lst pa_nil)) (pss_cons (ps_for PassesOwn.never rfl (pi_range2 (by rfl) T.n_range (pa_cons pe_int (pa_cons (pe_callB (call_lenLK (K := K)) (by rfl) T.n_len (by decide +kernel) (pa_cons (pv 2) pa_nil)) pa_nil))) (pg_name (i := 3) sc_l_stretches.nd rfl (Or.inl rfl)) (pss_one (ps_if (pt_cmpR op_gt (pe_call G_l_draw (hr.mono (by decide)) (by rfl) T.g_l_draw T.F_l_draw.kp b_l_draw .nil pass0 (pa_cons (pv 0) (pa_cons pe_int pa_nil))) pe_int (nomark _)) (pss_one (ps_expr (pe_bmK (K := K) PySem.F.plainAttrs_list PySem.F.slot_list_append PySem.F.type_list_append mt_append (pv 7) (pa_cons (pe_tup (pa_cons (pe_ix (ix_listK (K := K)) (pv 2) (pe_op op_sub (pv 3) pe_int) (fun _ _ => rfl)) (pa_cons (pe_ix (ix_listK (K := K)) (pv 2) (pv 3) (fun _ _ => rfl)) pa_nil))) pa_nil)))) pss_nil))) (pss_one (ps_ret (pv 7)))))))), ?_⟩
    have g0 : Gr (Bc B C) F0 H0 F0 H0 := Gr.refl hS0
    unfold m_l_stretches at hm
    refine p_seq ?_
    refine p_asg ?_
    refine ⟨(by show 1 ≤ sizeLine; decide), fun p1 np2 => ?_⟩
    have nb3 := hB.nb np2
    have g4 := g0.own (o := (.lst [(V.int (0 : Int))])) np2
    have hB5 := hB.own (o := (.lst [(V.int (0 : Int))])) np2
    have ow6 : Ow H0 F0 (upd H0 p1 (.lst [(V.int (0 : Int))])) p1 [(V.int (0 : Int))] := Ow.new g0 np2
    have hA7 : RL K F0 [(V.int (0 : Int))] ([(0 : Int)] : List Int) := (RpA.cons (Rp.int (0 : Int)) RpA.nil)
    obtain ⟨y_edges8, hb9, hm⟩ := bnd hm
    have hx10 : ([(0 : Int)] : List Int) = y_edges8 := sjoin hb9
    have hA11 : RL K F0 [(V.int (0 : Int))] y_edges8 := RL.re hx10 hA7
    refine p_name ?_
    refine p_nx ?_
    refine p_seq ?_
    refine p_for ?_
    obtain ⟨r12, b13, hb14, hm⟩ := bnd2 hm
    refine ⟨(V.ref B), rfl, F0, B, C, b, (6 : Int), r12, b13, rfl, g4.fh, hB5, hb14, fun F15 H16 g17 hB18 => ?_⟩
    have g20 := Gr.trans g4 g17
    have ow21 := ow6.gr g17 nb3
    obtain ⟨r22, b23, hb24, hm⟩ := bnd2 hm
    refine ⟨(V.ref B), rfl, F15, B, C, b13, (31 : Int), r22, b23, rfl, g20.fh, hB18, hb24, fun F25 H26 g27 hB28 => ?_⟩
    have g30 := Gr.trans g20 g27
    have ow31 := ow21.gr g27 nb3
    refine ⟨(by show 2 ≤ sizeLine; decide), fun p32 np33 => ?_⟩
    have ne34 := ow31.ne np33
    have nb35 := hB28.nb np33
    have g36 := g30.own (o := (.lst [(V.int r12), (V.int r22)])) np33
    have ow37 := ow31.own (o := (.lst [(V.int r12), (V.int r22)])) np33
    have hB38 := hB28.own (o := (.lst [(V.int r12), (V.int r22)])) np33
    have ow39 : Ow H0 F25 (upd H26 p32 (.lst [(V.int r12), (V.int r22)])) p32 [(V.int r12), (V.int r22)] := Ow.new g30 np33
    have hA40 : RL K F25 [(V.int r12), (V.int r22)] ([r12, r22] : List Int) := (RpA.cons (Rp.int r12) (RpA.cons (Rp.int r22) RpA.nil))
    obtain ⟨r41, b42, hb43, hm⟩ := bnd2 hm
    refine ⟨(V.ref B), rfl, F25, B, C, b23, (2 : Int), r41, b42, rfl, g36.fh, hB38, hb43, fun F44 H45 g46 hB47 => ?_⟩
    have g49 := Gr.trans g36 g46
    have ow50 := ow37.gr g46 nb3
    have ow51 := ow39.gr g46 nb35
    obtain ⟨t52, hb53, hm⟩ := bnd hm
    obtain ⟨v54, ha55, r56⟩ := RL.at (hA40.up g46.ff) hb53
    obtain rfl := R.int_v r56
    obtain ⟨l57, hb59, hm⟩ := bnd hm
    obtain ⟨hk58, rfl⟩ := rangeO1_ok hb59
    refine ⟨p32, [(V.int r12), (V.int r22)], _, (V.int t52), rfl, rfl, ow51.sq, ha55, _, rfl, hk58.1.1, hk58.1.2, ?_⟩
    obtain ⟨y_edges60, b61, ht62, hm⟩ := bnd2 hm
    refine for_range (lo := (0 : Int)) (n := (t52).toNat) (fun i σ' H' => ∃ (F' : Hp) (o_y_k : Option V) (o_y_bits_here : Option V) (o_y_first : Option V) (o_y_near : Option V) (y_edges : (List Int)) (ws_y_edges : List V) (b : Bag), σ' = [(some (V.ref B)), (some (V.int y_size)), (some (V.ref p1)), o_y_k, o_y_bits_here, o_y_first, o_y_near, none, none] ∧ Gr (Bc B C) F0 H0 F' H' ∧ Same F44 F' ∧ Ow H0 F' H' p1 ws_y_edges ∧ ws_y_edges.length ≤ sizeLine ∧ RL K F' ws_y_edges y_edges ∧ BagAt F' H' B C b ∧ m_l_stretches_l1 y_size ((rangeL (0 : Int) (t52).toNat).drop i) y_edges b = some (y_edges60, b61)) ?_ ?_ ?_
    · exact ⟨F44, none, none, none, none, y_edges8, [(V.int (0 : Int))], b42, rfl, g49, (Same.refl _), ow50, (by show 1 ≤ sizeLine; decide), (hA11.up (Same.trans g17.ff (Same.trans g27.ff g46.ff))), hB47, ht62⟩
    · intro i63 σ' H65 hx64 hP
      obtain ⟨F67, o_y_k68, o_y_bits_here69, o_y_first70, o_y_near71, y_edges72, ws_y_edges73, b74, rfl, g75, sm76, ow_y_edges77, hl_y_edges78, hA_y_edges79, hB80, hm81⟩ := hP
      have he83 := rangeL_at (lo := (0 : Int)) hx64
      rw [drop_at he83, m_l_stretches_l1.eq_2] at hm81
      refine p_name ?_
      refine p_seq ?_
      refine p_asg ?_
      obtain ⟨r84, b85, hb86, hm81⟩ := bnd2 hm81
      refine ⟨(V.ref B), rfl, (V.ref B), rfl, (V.int y_size), rfl, _, _, rfl, rfl, F67, B, C, b74, (y_size + (1 : Int)), r84, b85, rfl, g75.fh, hB80, hb86, fun F87 H88 g89 hB90 => ?_⟩
      have g92 := Gr.trans g75 g89
      have ow93 := ow_y_edges77.gr g89 nb3
      obtain ⟨r94, b95, hb96, hm81⟩ := bnd2 hm81
      refine ⟨F87, B, C, b85, r84, r94, b95, rfl, g92.fh, hB90, hb96, fun F97 H98 g99 hB100 gs101 => ?_⟩
      have g102 := Gr.trans g92 g99
      have ow103 := ow93.gr g99 nb3
      refine p_name ?_
      refine p_nx ?_
      refine p_seq ?_
      refine p_asg ?_
      obtain ⟨t104, hb105, hm81⟩ := bnd hm81
      obtain ⟨hk106, rfl⟩ := mulS_ok hb105
      obtain ⟨t107, hb108, hm81⟩ := bnd hm81
      obtain ⟨hk109, rfl⟩ := catS_ok hb108
      obtain ⟨r110, hb111, hm81⟩ := bnd hm81
      refine ⟨(V.str r94), rfl, (V.int y_size), rfl, (V.str r94), rfl, _, rfl, (gs101 : GS r94).len, _, _, rfl, rfl, _, _, rfl, rfl, hk106, _, _, rfl, rfl, hk109, (r94 ++ (Txt.mul ("0" : Str) (y_size - ((r94.length : Nat) : Int)))), r110, rfl, (GS.cat gs101 (GS.mul ⟨by decide +kernel, by decide +kernel⟩ hb105) hb108), hb111, fun F112 H113 g114 => ?_⟩
      have g116 := Gr.apart g102 g114
      have ow117 := ow103.apart g114
      have hB118 := hB100.apart g114
      refine p_name ?_
      refine p_nx ?_
      refine p_seq ?_
      refine p_asg ?_
      obtain ⟨r119, b120, hb121, hm81⟩ := bnd2 hm81
      refine ⟨(V.ref p1), rfl, (V.ref B), rfl, (V.ref p1), rfl, p1, ws_y_edges73, _, rfl, (.inl ow117.sq), (RL.len (hA_y_edges79.up (Same.trans g89.ff g99.ff))), F97, B, C, b95, (((y_edges72).length : Nat) : Int), r119, b120, rfl, g116.fh, hB118, hb121, fun F122 H123 g124 hB125 => ?_⟩
      have g127 := Gr.trans g116 g124
      have ow128 := ow117.gr g124 nb3
      obtain ⟨t129, hb130, hm81⟩ := bnd hm81
      obtain ⟨v131, ha132, r133⟩ := RL.at (hA_y_edges79.up (Same.trans g89.ff (Same.trans g99.ff g124.ff))) hb130
      obtain rfl := R.int_v r133
      refine ⟨p1, ws_y_edges73, _, (V.int t129), rfl, rfl, ow128.sq, ha132, ?_⟩
      refine p_name ?_
      refine p_nx ?_
      refine p_drop ?_
      obtain ⟨r134, b135, hb136, hm81⟩ := bnd2 hm81
      refine ⟨(V.ref p1), rfl, (.inl ⟨rfl, _, ow128.sq⟩), (V.int r110), rfl, (V.int t129), rfl, _, _, rfl, rfl, (V.ref B), rfl, F122, B, C, b120, (4 : Int), r134, b135, rfl, g127.fh, hB125, hb136, fun F137 H138 g139 hB140 => ?_⟩
      have g142 := Gr.trans g127 g139
      have ow143 := ow128.gr g139 nb3
      obtain ⟨t144, hb145, hm81⟩ := bnd hm81
      obtain ⟨hk146, rfl⟩ := shlI_ok hb145
      refine ⟨_, _, rfl, rfl, (V.int t129), rfl, _, _, rfl, rfl, _, _, rfl, (V.int y_size), rfl, _, _, rfl, rfl, hk146, (V.int r110), rfl, _, _, rfl, rfl, (by show 5 ≤ sizeLine; decide), fun p147 np148 => ?_⟩
      have ne149 := ow143.ne np148
      have nb150 := hB140.nb np148
      have g151 := g142.own (o := (.lst [(V.int r110), (V.int ((t129 + (1 : Int)) + r134)), (V.int (if (t129 - (1 : Int)) > (0 : Int) then (t129 - (1 : Int)) else (0 : Int))), (V.int ((1 : Int) * 2 ^ (y_size).toNat)), (V.int (r110 + (1 : Int)))])) np148
      have ow152 := ow143.own (o := (.lst [(V.int r110), (V.int ((t129 + (1 : Int)) + r134)), (V.int (if (t129 - (1 : Int)) > (0 : Int) then (t129 - (1 : Int)) else (0 : Int))), (V.int ((1 : Int) * 2 ^ (y_size).toNat)), (V.int (r110 + (1 : Int)))])) np148
      have hB153 := hB140.own (o := (.lst [(V.int r110), (V.int ((t129 + (1 : Int)) + r134)), (V.int (if (t129 - (1 : Int)) > (0 : Int) then (t129 - (1 : Int)) else (0 : Int))), (V.int ((1 : Int) * 2 ^ (y_size).toNat)), (V.int (r110 + (1 : Int)))])) np148
      have ow154 : Ow H0 F137 (upd H138 p147 (.lst [(V.int r110), (V.int ((t129 + (1 : Int)) + r134)), (V.int (if (t129 - (1 : Int)) > (0 : Int) then (t129 - (1 : Int)) else (0 : Int))), (V.int ((1 : Int) * 2 ^ (y_size).toNat)), (V.int (r110 + (1 : Int)))])) p147 [(V.int r110), (V.int ((t129 + (1 : Int)) + r134)), (V.int (if (t129 - (1 : Int)) > (0 : Int) then (t129 - (1 : Int)) else (0 : Int))), (V.int ((1 : Int) * 2 ^ (y_size).toNat)), (V.int (r110 + (1 : Int)))] := Ow.new g142 np148
      have hA155 : RL K F137 [(V.int r110), (V.int ((t129 + (1 : Int)) + r134)), (V.int (if (t129 - (1 : Int)) > (0 : Int) then (t129 - (1 : Int)) else (0 : Int))), (V.int ((1 : Int) * 2 ^ (y_size).toNat)), (V.int (r110 + (1 : Int)))] ([r110, ((t129 + (1 : Int)) + r134), (if (t129 - (1 : Int)) > (0 : Int) then (t129 - (1 : Int)) else (0 : Int)), ((1 : Int) * 2 ^ (y_size).toNat), (r110 + (1 : Int))] : List Int) := (RpA.cons (Rp.int r110) (RpA.cons (Rp.int ((t129 + (1 : Int)) + r134)) (RpA.cons (Rp.int (if (t129 - (1 : Int)) > (0 : Int) then (t129 - (1 : Int)) else (0 : Int))) (RpA.cons (Rp.int ((1 : Int) * 2 ^ (y_size).toNat)) (RpA.cons (Rp.int (r110 + (1 : Int))) RpA.nil)))))
      obtain ⟨r156, b157, hb158, hm81⟩ := bnd2 hm81
      refine ⟨(V.ref B), rfl, F137, B, C, b135, (5 : Int), r156, b157, rfl, g151.fh, hB153, hb158, fun F159 H160 g161 hB162 => ?_⟩
      have g164 := Gr.trans g151 g161
      have ow165 := ow152.gr g161 nb3
      have ow166 := ow154.gr g161 nb150
      obtain ⟨t167, hb168, hm81⟩ := bnd hm81
      obtain ⟨v169, ha170, r171⟩ := RL.at (hA155.up g161.ff) hb168
      obtain rfl := R.int_v r171
      obtain ⟨t172, hb173, hm81⟩ := bnd hm81
      obtain ⟨hk174, rfl⟩ := appL_ok hb173
      refine ⟨p147, [(V.int r110), (V.int ((t129 + (1 : Int)) + r134)), (V.int (if (t129 - (1 : Int)) > (0 : Int) then (t129 - (1 : Int)) else (0 : Int))), (V.int ((1 : Int) * 2 ^ (y_size).toNat)), (V.int (r110 + (1 : Int)))], _, (V.int t167), rfl, rfl, ow166.sq, ha170, p1, ws_y_edges73, (V.int t167), rfl, rfl, ow165.h, (by rw [RL.len (hA_y_edges79.up (Same.trans g89.ff (Same.trans g99.ff (Same.trans g124.ff (Same.trans g139.ff g161.ff)))))]; exact hk174), ?_⟩
      have hA175 : RL K F159 (ws_y_edges73 ++ [(V.int t167)]) (y_edges72 ++ [(t167 : Int)]) := RL.snoc (hA_y_edges79.up (Same.trans g89.ff (Same.trans g99.ff (Same.trans g124.ff (Same.trans g139.ff g161.ff))))) (Rp.int t167)
      have hl176 : (ws_y_edges73 ++ [(V.int t167)]).length ≤ sizeLine := by rw [List.length_append, RL.len (hA_y_edges79.up (Same.trans g89.ff (Same.trans g99.ff (Same.trans g124.ff (Same.trans g139.ff g161.ff)))))]; exact hk174
      have g177 := g164.put (o := (.lst (ws_y_edges73 ++ [(V.int t167)]))) ow165
      have ow178 := ow166.other (o := (.lst (ws_y_edges73 ++ [(V.int t167)]))) (Ne.symm ne149)
      have hB179 := hB162.other (o := (.lst (ws_y_edges73 ++ [(V.int t167)]))) nb3
      have ow180 := ow165.put (us := (ws_y_edges73 ++ [(V.int t167)]))
      exact ⟨F159, (some (V.int ((0 : Int) + ((i63 : Nat) : Int)))), (some (V.str r94)), (some (V.int r110)), (some (V.int t129)), (y_edges72 ++ [t167]), (ws_y_edges73 ++ [(V.int t167)]), b157, rfl, g177, (Same.trans sm76 (Same.trans g89.ff (Same.trans g99.ff (Same.trans g124.ff (Same.trans g139.ff g161.ff))))), ow180, hl176, hA175, hB179, hm81⟩
    intro σ181 H182 hP
    obtain ⟨F183, o_y_k184, o_y_bits_here185, o_y_first186, o_y_near187, y_edges188, ws_y_edges189, b190, rfl, g191, sm192, ow_y_edges193, hl_y_edges194, hA_y_edges195, hB196, hm197⟩ := hP
    rw [drop_end (rangeL_len _ _).symm, m_l_stretches_l1.eq_1] at hm197
    obtain ⟨rfl, rfl⟩ := pjoin hm197
    refine p_nx ?_
    refine p_seq ?_
    refine p_asg ?_
    refine ⟨(V.ref p1), rfl, p1, rfl, ⟨_, ow_y_edges193.sq⟩, fun D198 nD199 => ?_⟩
    have ne200 := ow_y_edges193.ne nD199
    have nb201 := hB196.nb nD199
    have g202 := g191.own (o := (.lst [])) nD199
    have ow203 := ow_y_edges193.own (o := (.lst [])) nD199
    have hB204 := hB196.own (o := (.lst [])) nD199
    have ow205 : Ow H0 F183 (upd H182 D198 (.lst [])) D198 [] := Ow.new g191 nD199
    obtain ⟨l206, hb207, hm⟩ := bnd hm
    refine lc_list (K := K) (a := p1) (xs := ws_y_edges189) (fun i H' => ∃ (F' : Hp) (acc : List V) (ds : List Int) (rest : List Int), Gr (Bc B C) F0 H0 F' H' ∧ Same F183 F' ∧ Ow H0 F' H' D198 acc ∧ RL K F' acc ds ∧ acc.length ≤ i ∧ Ow H0 F' H' p1 ws_y_edges189 ∧ BagAt F' H' B C b190 ∧ m_l_stretches_c2 y_size (y_edges188.drop i) = some rest ∧ ds ++ rest = l206) ?_ ?_ ?_ ?_
    · exact ⟨F183, [], [], l206, g202, Same.refl _, ow205, RpA.nil, Nat.le_refl _, ow203, hB204, hb207, rfl⟩
    · intro i H' _ hP
      obtain ⟨F208, acc209, ds210, rest211, g0212, sm213, owD214, hA215, hi216, ow0217, hB218, hm219, hr220⟩ := hP
      exact ow0217.sq
    · intro i222 xv221 H224 hx223 hP
      obtain ⟨F225, acc226, ds227, rest228, g0229, sm230, owD231, hA232, hi233, ow0234, hB235, hm236, hr237⟩ := hP
      obtain ⟨e238, he239, r240⟩ := RL.get (hA_y_edges195.up sm230) hx223
      obtain rfl := R.int_v r240
      rw [drop_at he239, m_l_stretches_c2.eq_2] at hm236
      obtain ⟨t241, hb242, hm236⟩ := bnd hm236
      obtain ⟨hk243, rfl⟩ := shlI_ok hb242
      refine ⟨rfl, (V.int e238), rfl, (V.int y_size), rfl, _, _, rfl, rfl, hk243, _, _, rfl, rfl, _, rfl, (iteB (fun hc => ?_) (fun hc => ?_))⟩
      · have hm236 := ifT hc hm236
        have hA244 : RL K F225 (acc226 ++ [(V.int e238)]) (ds227 ++ [(e238 : Int)]) := RL.snoc hA232 (Rp.int e238)
        obtain ⟨rest245, h246, h247⟩ := bnd hm236
        obtain rfl := sjoin h247
        refine ⟨(V.int e238), rfl, acc226, owD231.h, (lt_line hi233 (List.getElem?_eq_some_iff.mp hx223).1 hl_y_edges194), ?_⟩
        have g248 := g0229.put (o := (.lst (acc226 ++ [(V.int e238)]))) owD231
        have ow249 := ow0234.other (o := (.lst (acc226 ++ [(V.int e238)]))) ne200
        have hB250 := hB235.other (o := (.lst (acc226 ++ [(V.int e238)]))) nb201
        have ow251 := owD231.put (us := (acc226 ++ [(V.int e238)]))
        exact ⟨F225, (acc226 ++ [(V.int e238)]), (ds227 ++ [e238]), rest245, g248, sm230, ow251, hA244, (by rw [List.length_append]; exact Nat.succ_le_succ hi233), ow249, hB250, h246, (snoc_rest hr237)⟩
      · have hm236 := ifF hc hm236
        exact ⟨F225, acc226, ds227, rest228, g0229, sm230, owD231, hA232, (Nat.le_succ_of_le hi233), ow0234, hB235, hm236, hr237⟩
    intro H252 hP
    obtain ⟨F253, acc254, ds255, _rest, g0257, sm258, owD259, hA260, hi261, ow0262, hB263, hm264, hr265⟩ := hP
    rw [drop_end (RL.len hA_y_edges195)] at hm264
    rw [m_l_stretches_c2.eq_1] at hm264
    obtain rfl := sjoin hm264
    rw [List.append_nil] at hr265
    obtain rfl := hr265
    have hl266 : acc254.length ≤ sizeLine := Nat.le_trans hi261 hl_y_edges194
    obtain ⟨t267, hb268, hm⟩ := bnd hm
    obtain ⟨hk269, hss_⟩ := ssetO_ok hb268
    subst hss_
    refine ⟨D198, ds255, rfl, (by rw [← RL.ints hA260]; exact owD259.sq), hk269, fun ns270 p274 so271 mm272 ln273 np275 => ?_⟩
    obtain rfl := ssort_uniq so271 mm272
    have hl276 : ((ssort ds255).map V.int).length ≤ sizeLine := by rw [List.length_map, sizeLine_eq]; omega
    have hA277 : RL K F253 ((ssort ds255).map V.int) (ssort ds255) := RL.ofInts _
    have ne278 := ow0262.ne np275
    have ne279 := owD259.ne np275
    have nb280 := hB263.nb np275
    have g281 := g0257.own (o := (.lst ((ssort ds255).map V.int))) np275
    have ow282 := ow0262.own (o := (.lst ((ssort ds255).map V.int))) np275
    have ow283 := owD259.own (o := (.lst ((ssort ds255).map V.int))) np275
    have hB284 := hB263.own (o := (.lst ((ssort ds255).map V.int))) np275
    have ow285 : Ow H0 F253 (upd H252 p274 (.lst ((ssort ds255).map V.int))) p274 ((ssort ds255).map V.int) := Ow.new g0257 np275
    refine p_name ?_
    refine p_nx ?_
    refine p_seq ?_
    refine p_asg ?_
    refine ⟨(by show 0 ≤ sizeLine; decide), fun p286 np287 => ?_⟩
    have ne288 := ow282.ne np287
    have ne289 := ow283.ne np287
    have ne290 := ow285.ne np287
    have nb291 := hB284.nb np287
    have g292 := g281.own (o := (.lst [])) np287
    have ow293 := ow282.own (o := (.lst [])) np287
    have ow294 := ow283.own (o := (.lst [])) np287
    have ow295 := ow285.own (o := (.lst [])) np287
    have hB296 := hB284.own (o := (.lst [])) np287
    have ow297 : Ow H0 F253 (upd (upd H252 p274 (.lst ((ssort ds255).map V.int))) p286 (.lst [])) p286 [] := Ow.new g281 np287
    obtain ⟨y_found299, hb300, hm⟩ := bnd hm
    have hx301 : ([] : (List (Int × Int))) = y_found299 := sjoin hb300
    have hA302 : RL K F253 [] y_found299 := RL.re hx301 RpA.nil
    refine p_name ?_
    refine p_nx ?_
    refine p_seq ?_
    refine p_for ?_
    obtain ⟨l303, hb305, hm⟩ := bnd hm
    obtain ⟨hk304, rfl⟩ := rangeO_ok hb305
    refine ⟨(V.ref p274), rfl, p274, ((ssort ds255).map V.int), _, rfl, (.inl ow295.sq), (RL.len hA277), _, _, rfl, hk304.1, ?_⟩
    obtain ⟨y_found306, b307, ht308, hm⟩ := bnd2 hm
    refine for_range (lo := (1 : Int)) (n := (((((ssort ds255)).length : Nat) : Int) - (1 : Int)).toNat) (fun i σ' H' => ∃ (F' : Hp) (o_y_k : Option V) (y_found : (List (Int × Int))) (ws_y_found : List V) (b : Bag), σ' = [(some (V.ref B)), (some (V.int y_size)), (some (V.ref p274)), o_y_k, o_y_bits_here185, o_y_first186, o_y_near187, (some (V.ref p286)), none] ∧ Gr (Bc B C) F0 H0 F' H' ∧ Same F253 F' ∧ Ow H0 F' H' p286 ws_y_found ∧ ws_y_found.length ≤ sizeLine ∧ RL K F' ws_y_found y_found ∧ Ow H0 F' H' p274 ((ssort ds255).map V.int) ∧ BagAt F' H' B C b ∧ m_l_stretches_l3 (ssort ds255) ((rangeL (1 : Int) (((((ssort ds255)).length : Nat) : Int) - (1 : Int)).toNat).drop i) y_found b = some (y_found306, b307)) ?_ ?_ ?_
    · exact ⟨F253, o_y_k184, y_found299, [], b190, rfl, g292, (Same.refl _), ow297, (by show 0 ≤ sizeLine; decide), hA302, ow295, hB296, ht308⟩
    · intro i309 σ' H311 hx310 hP
      obtain ⟨F313, o_y_k314, y_found315, ws_y_found316, b317, rfl, g318, sm319, ow_y_found320, hl_y_found321, hA_y_found322, owk0323, hB324, hm325⟩ := hP
      have he327 := rangeL_at (lo := (1 : Int)) hx310
      rw [drop_at he327, m_l_stretches_l3.eq_2] at hm325
      refine p_name ?_
      refine p_if ?_
      obtain ⟨r328, b329, hb330, hm325⟩ := bnd2 hm325
      refine ⟨(V.ref B), rfl, F313, B, C, b317, (3 : Int), r328, b329, rfl, g318.fh, hB324, hb330, fun F331 H332 g333 hB334 => ?_⟩
      have g336 := Gr.trans g318 g333
      have ow337 := owk0323.gr g333 nb280
      have ow338 := ow_y_found320.gr g333 nb291
      refine ⟨_, _, rfl, rfl, _, rfl, (iteB (fun hc => ?_) (fun hc => ?_))⟩
      · have hm325 := ifT hc hm325
        refine p_drop ?_
        obtain ⟨t339, hb340, hm325⟩ := bnd hm325
        obtain ⟨v341, ha342, r343⟩ := RL.at (hA277.up (Same.trans sm319 g333.ff)) hb340
        obtain rfl := R.int_v r343
        obtain ⟨t344, hb345, hm325⟩ := bnd hm325
        obtain ⟨v346, ha347, r348⟩ := RL.at (hA277.up (Same.trans sm319 g333.ff)) hb345
        obtain rfl := R.int_v r348
        refine ⟨(V.ref p286), rfl, (.inl ⟨rfl, _, ow338.sq⟩), (V.ref p274), rfl, (V.int ((1 : Int) + ((i309 : Nat) : Int))), rfl, _, _, rfl, rfl, p274, ((ssort ds255).map V.int), _, (V.int t339), rfl, rfl, ow337.sq, ha342, (V.ref p274), rfl, (V.int ((1 : Int) + ((i309 : Nat) : Int))), rfl, p274, ((ssort ds255).map V.int), _, (V.int t344), rfl, rfl, ow337.sq, ha347, (by show 2 ≤ sizeLine; decide), fun p349 np350 => ?_⟩
        have ne351 := ow337.ne np350
        have ne352 := ow338.ne np350
        have nb353 := hB334.nb np350
        have sm354 := same_new (o := (.tup [(V.int t339), (V.int t344)])) (g336.noneF np350)
        have g355 := g336.frz (o := (.tup [(V.int t339), (V.int t344)])) np350
        have ow356 := ow337.frz (o := (.tup [(V.int t339), (V.int t344)])) np350
        have ow357 := ow338.frz (o := (.tup [(V.int t339), (V.int t344)])) np350
        have hB358 := hB334.frz (o := (.tup [(V.int t339), (V.int t344)])) np350
        have r359 : R K (upd F331 p349 (.tup [(V.int t339), (V.int t344)])) (.ref p349) ((t339, t344) : (Int × Int)) := R.mk2 fzT (Rp.int t339) (Rp.int t344)
        obtain ⟨t360, hb361, hm325⟩ := bnd hm325
        obtain ⟨hk362, rfl⟩ := appL_ok hb361
        refine ⟨p286, ws_y_found316, (V.ref p349), rfl, rfl, ow357.h, (by rw [RL.len (hA_y_found322.up (Same.trans g333.ff sm354))]; exact hk362), ?_⟩
        have hA363 : RL K (upd F331 p349 (.tup [(V.int t339), (V.int t344)])) (ws_y_found316 ++ [(V.ref p349)]) (y_found315 ++ [((t339, t344) : (Int × Int))]) := RL.snoc (hA_y_found322.up (Same.trans g333.ff sm354)) r359
        have hl364 : (ws_y_found316 ++ [(V.ref p349)]).length ≤ sizeLine := by rw [List.length_append, RL.len (hA_y_found322.up (Same.trans g333.ff sm354))]; exact hk362
        have g365 := g355.put (o := (.lst (ws_y_found316 ++ [(V.ref p349)]))) ow357
        have ow366 := ow356.other (o := (.lst (ws_y_found316 ++ [(V.ref p349)]))) ne290
        have hB367 := hB358.other (o := (.lst (ws_y_found316 ++ [(V.ref p349)]))) nb291
        have ow368 := ow357.put (us := (ws_y_found316 ++ [(V.ref p349)]))
        exact ⟨(upd F331 p349 (.tup [(V.int t339), (V.int t344)])), (some (V.int ((1 : Int) + ((i309 : Nat) : Int)))), (y_found315 ++ [(t339, t344)]), (ws_y_found316 ++ [(V.ref p349)]), b329, rfl, g365, (Same.trans sm319 (Same.trans g333.ff sm354)), ow368, hl364, hA363, ow366, hB367, hm325⟩
      · have hm325 := ifF hc hm325
        refine p_next ?_
        exact ⟨F331, (some (V.int ((1 : Int) + ((i309 : Nat) : Int)))), y_found315, ws_y_found316, b329, rfl, g336, (Same.trans sm319 g333.ff), ow338, hl_y_found321, (hA_y_found322.up g333.ff), ow337, hB334, hm325⟩
    intro σ369 H370 hP
    obtain ⟨F371, o_y_k372, y_found373, ws_y_found374, b375, rfl, g376, sm377, ow_y_found378, hl_y_found379, hA_y_found380, owk0381, hB382, hm383⟩ := hP
    rw [drop_end (rangeL_len _ _).symm, m_l_stretches_l3.eq_1] at hm383
    obtain ⟨rfl, rfl⟩ := pjoin hm383
    refine p_nx ?_
    refine p_ret ?_
    obtain ⟨rfl, rfl⟩ := pjoin hm
    refine ⟨(V.ref p286), rfl, (hQ _ _ _ _ g376 hB382 ow_y_found378.n0 ow_y_found378.h ow_y_found378.nF hl_y_found379 hA_y_found380)⟩
end K06
namespace K06
open PySem PySem.Spec PyProof.Rows L2 TL G
theorem ok_l_turned {P : Program} {w : World} {K : PySem.W.Frag} {mg : Str → Option Value} {base : Heap} (T : Txt K mg) : FnOk P w K mg base CX0 1 T.a_l_turned T.d_l_turned ["_law_one_here"] (sp_l_turned K) := by
  refine fd_ok T.F_l_turned sc_l_turned (fun vs H Q E h => ?_) (fun cdv A outer s H0 vs Q E hr h => ?_)
  · obtain ⟨_, _, rfl, _⟩ := h
    rfl
  · obtain ⟨y_one_here, r, rfl, gs_y_one_here, hm, hQ⟩ := h
    refine ⟨_, (pss_one (ps_ret (pe_joinK (K := K) pe_str (pe_lc (own := [("_law_sign", 1)]) rfl sc_l_turned.nd (pi_str (pv 0)) (blkOk_by (own := [("_law_sign", 1)]) (N := N_l_turned) (sc := defScope s_l_turned) (by decide +kernel)) (fun _ _ _ _ _ => (pg_name (i := 1) sc_l_turned.nd rfl (Or.inl rfl) (.inr rfl))) (fun _ _ _ _ _ => pts_nil) (fun _ _ _ _ _ => (pe_dget (hu_of hr) (pe_disp (pps_cons pe_str pe_str (pps_cons pe_str pe_str (pps_cons pe_str pe_str pps_nil))) (by rfl) (by rfl) (fun z => by cases z) (by decide)) (pv 1) (fun _ _ => rfl))))))), ?_⟩
    have g0 : Gr M0 H0 H0 H0 H0 := Gr.refl (Same.refl _)
    unfold m_l_turned at hm
    refine p_ret ?_
    refine ⟨⟨_, rfl⟩, (V.str y_one_here), rfl, y_one_here, rfl, fun D1 nD2 => ?_⟩
    have g3 := g0.own (o := (.lst [])) nD2
    have ow4 : Ow H0 H0 (upd H0 D1 (.lst [])) D1 [] := Ow.new g0 nD2
    obtain ⟨l5, hb6, hm⟩ := bnd hm
    refine lc_str (z := y_one_here) (fun i H' => ∃ (F' : Hp) (acc : List V) (ds : List Str) (rest : List Str), Gr M0 H0 H0 F' H' ∧ Same H0 F' ∧ Ow H0 F' H' D1 acc ∧ RL K F' acc ds ∧ acc.length ≤ i ∧ m_l_turned_c1  ((y_one_here).cps.toList.drop i) = some rest ∧ ds ++ rest = l5) ?_ ?_ ?_
    · exact ⟨H0, [], [], l5, g3, Same.refl _, ow4, RpA.nil, Nat.le_refl _, hb6, rfl⟩
    · intro i8 xv7 H10 hx9 hP
      obtain ⟨F11, acc12, ds13, rest14, g015, sm16, owD17, hA18, hi19, hm20, hr21⟩ := hP
      have he23 := str_at hx9
      rw [drop_at he23, m_l_turned_c1.eq_2] at hm20
      refine ⟨rfl, (p_yes ?_)⟩
      obtain ⟨t24, hb25, hm20⟩ := bnd hm20
      refine rd_dgetI (k := (sgn xv7)) (v := t24) _ [(("0" : Str), ("1" : Str)), (("1" : Str), ("0" : Str)), (("*" : Str), ("*" : Str))] rfl (by decide) (by decide +kernel) hb25 (fun H1 Q q => ⟨(V.str (sgn xv7)), rfl, q⟩) (fun p26 np27 => ?_)
      have ne28 := owD17.ne np27
      have g29 := g015.own (o := (.dK (kvS [(("0" : Str), ("1" : Str)), (("1" : Str), ("0" : Str)), (("*" : Str), ("*" : Str))]))) np27
      have ow30 := owD17.own (o := (.dK (kvS [(("0" : Str), ("1" : Str)), (("1" : Str), ("0" : Str)), (("*" : Str), ("*" : Str))]))) np27
      have hA31 : RL K F11 (acc12 ++ [(V.str t24)]) (ds13 ++ [(t24 : Str)]) := RL.snoc hA18 (Rp.str t24 (GS.di (fun kv h => by simp only [List.mem_cons, List.not_mem_nil, or_false] at h; rcases h with rfl | rfl | rfl <;> exact ⟨by decide +kernel, by decide +kernel⟩) hb25))
      obtain ⟨rest32, h33, h34⟩ := bnd hm20
      obtain rfl := sjoin h34
      refine ⟨acc12, ow30.h, (lt_line hi19 (str_lt hx9) (gs_y_one_here : GS y_one_here).len), ?_⟩
      have g35 := g29.put (o := (.lst (acc12 ++ [(V.str t24)]))) ow30
      have ow36 := ow30.put (us := (acc12 ++ [(V.str t24)]))
      exact ⟨F11, (acc12 ++ [(V.str t24)]), (ds13 ++ [t24]), rest32, g35, sm16, ow36, hA31, (by rw [List.length_append]; exact Nat.succ_le_succ hi19), h33, (snoc_rest hr21)⟩
    intro H37 hP
    obtain ⟨F38, acc39, ds40, _rest, g042, sm43, owD44, hA45, hi46, hm47, hr48⟩ := hP
    rw [drop_end str_size] at hm47
    rw [m_l_turned_c1.eq_1] at hm47
    obtain rfl := sjoin hm47
    rw [List.append_nil] at hr48
    obtain rfl := hr48
    have hl49 : acc39.length ≤ sizeLine := Nat.le_trans hi46 (gs_y_one_here : GS y_one_here).len
    obtain ⟨t50, hb51, hm⟩ := bnd hm
    obtain ⟨hk52, rfl⟩ := joinS_ok hb51
    obtain rfl := sjoin hm
    refine ⟨_, D1, ds40, rfl, rfl, (.inl (by rw [← (RL.strs hA45).1]; exact owD44.sq)), hk52, (hQ _ _ g042 (GS.join ⟨by decide +kernel, by decide +kernel⟩ (RL.strs hA45).2 hb51))⟩
end K06
namespace K06
open PySem PySem.Spec PyProof.Rows L2 TL G
theorem ok_l_mirrored {P : Program} {w : World} {K : PySem.W.Frag} {mg : Str → Option Value} {base : Heap} (T : Txt K mg) : FnOk P w K mg base CX0 1 T.a_l_mirrored T.d_l_mirrored ["_law_ends", "_law_size"] (sp_l_mirrored K) := by
  refine fd_ok T.F_l_mirrored sc_l_mirrored (fun vs H Q E h => ?_) (fun cdv A outer s H0 vs Q E hr h => ?_)
  · obtain ⟨_, _, _, _, _, _, rfl, _⟩ := h
    rfl
  · obtain ⟨F0, p_y_ends, ws_y_ends, y_ends, y_size, r, rfl, hS0, hS_y_ends, hl_y_ends, hA_y_ends, nm_y_ends, hm, hQ⟩ := h
    refine ⟨_, (pss_one (ps_ret (pe_lc (own := [("_law_first", 2), ("_law_behind", 3)]) rfl sc_l_mirrored.nd (pi_listK (K := K) (pe_revLK (K := K) (pv 0))) (blkOk_by (own := [("_law_first", 2), ("_law_behind", 3)]) (N := N_l_mirrored) (sc := defScope s_l_mirrored) (by decide +kernel)) (fun _ _ _ _ _ => (pg_tupK (K := K) 2 rfl (pgs_cons (pg_name (i := 2) sc_l_mirrored.nd rfl (Or.inl rfl) (.inr rfl)) (pgs_cons (pg_name (i := 3) sc_l_mirrored.nd rfl (Or.inl rfl) (.inr rfl)) pgs_nil)))) (fun _ _ _ _ _ => pts_nil) (fun _ _ _ _ _ => (pe_tup (pa_cons (pe_op op_sub (pe_op op_shl pe_int (pv 1)) (pv 3)) (pa_cons (pe_op op_sub (pe_op op_shl pe_int (pv 1)) (pv 2)) pa_nil))))))), ?_⟩
    have g0 : Gr M0 F0 H0 F0 H0 := Gr.refl hS0
    unfold m_l_mirrored at hm
    refine p_ret ?_
    refine ⟨(V.ref p_y_ends), rfl, p_y_ends, ws_y_ends, rfl, (g0.seq nm_y_ends hS_y_ends), fun p1 np2 => ?_⟩
    have hA3 := RL.rev hA_y_ends
    have g4 := g0.own (o := (.lst (ws_y_ends.reverse))) np2
    have ow5 : Ow H0 F0 (upd H0 p1 (.lst (ws_y_ends.reverse))) p1 (ws_y_ends.reverse) := Ow.new g0 np2
    refine ⟨p1, rfl, ⟨_, ow5.sq⟩, fun D6 nD7 => ?_⟩
    have ne8 := ow5.ne nD7
    have g9 := g4.own (o := (.lst [])) nD7
    have ow10 := ow5.own (o := (.lst [])) nD7
    have ow11 : Ow H0 F0 (upd (upd H0 p1 (.lst (ws_y_ends.reverse))) D6 (.lst [])) D6 [] := Ow.new g4 nD7
    obtain ⟨l12, hb13, hm⟩ := bnd hm
    refine lc_list (K := K) (a := p1) (xs := (ws_y_ends.reverse)) (fun i H' => ∃ (F' : Hp) (acc : List V) (ds : List (Int × Int)) (rest : List (Int × Int)), Gr M0 F0 H0 F' H' ∧ Same F0 F' ∧ Ow H0 F' H' D6 acc ∧ RL K F' acc ds ∧ acc.length ≤ i ∧ Ow H0 F' H' p1 (ws_y_ends.reverse) ∧ m_l_mirrored_c1 y_size ((y_ends.reverse).drop i) = some rest ∧ ds ++ rest = l12) ?_ ?_ ?_ ?_
    · exact ⟨F0, [], [], l12, g9, Same.refl _, ow11, RpA.nil, Nat.le_refl _, ow10, hb13, rfl⟩
    · intro i H' _ hP
      obtain ⟨F14, acc15, ds16, rest17, g018, sm19, owD20, hA21, hi22, ow023, hm24, hr25⟩ := hP
      exact ow023.sq
    · intro i27 xv26 H29 hx28 hP
      obtain ⟨F30, acc31, ds32, rest33, g034, sm35, owD36, hA37, hi38, ow039, hm40, hr41⟩ := hP
      obtain ⟨e42, he43, r44⟩ := RL.get (hA3.up sm35) hx28
      rw [drop_at he43, m_l_mirrored_c1.eq_2] at hm40
      obtain ⟨p45, v48, v49, ev46, hS47, r50, r51⟩ := R.p2_v r44
      obtain rfl := R.int_v r50
      obtain rfl := R.int_v r51
      refine ⟨p45, [(V.int e42.1), (V.int e42.2)], ev46, (SqT_mono g034.fh hS47), rfl, (V.int e42.1), [(V.int e42.2)], rfl, (V.int e42.2), [], rfl, rfl, rfl, (p_yes ?_)⟩
      obtain ⟨t52, hb53, hm40⟩ := bnd hm40
      obtain ⟨hk54, rfl⟩ := shlI_ok hb53
      obtain ⟨t55, hb56, hm40⟩ := bnd hm40
      obtain ⟨hk57, rfl⟩ := shlI_ok hb56
      refine ⟨(V.int y_size), rfl, _, _, rfl, rfl, hk54, (V.int e42.2), rfl, _, _, rfl, rfl, (V.int y_size), rfl, _, _, rfl, rfl, hk57, (V.int e42.1), rfl, _, _, rfl, rfl, (by show 2 ≤ sizeLine; decide), fun p58 np59 => ?_⟩
      have ne60 := ow039.ne np59
      have ne61 := owD36.ne np59
      have sm62 := same_new (o := (.tup [(V.int (((1 : Int) * 2 ^ (y_size).toNat) - e42.2)), (V.int (((1 : Int) * 2 ^ (y_size).toNat) - e42.1))])) (g034.noneF np59)
      have g63 := g034.frz (o := (.tup [(V.int (((1 : Int) * 2 ^ (y_size).toNat) - e42.2)), (V.int (((1 : Int) * 2 ^ (y_size).toNat) - e42.1))])) np59
      have ow64 := ow039.frz (o := (.tup [(V.int (((1 : Int) * 2 ^ (y_size).toNat) - e42.2)), (V.int (((1 : Int) * 2 ^ (y_size).toNat) - e42.1))])) np59
      have ow65 := owD36.frz (o := (.tup [(V.int (((1 : Int) * 2 ^ (y_size).toNat) - e42.2)), (V.int (((1 : Int) * 2 ^ (y_size).toNat) - e42.1))])) np59
      have r66 : R K (upd F30 p58 (.tup [(V.int (((1 : Int) * 2 ^ (y_size).toNat) - e42.2)), (V.int (((1 : Int) * 2 ^ (y_size).toNat) - e42.1))])) (.ref p58) (((((1 : Int) * 2 ^ (y_size).toNat) - e42.2), (((1 : Int) * 2 ^ (y_size).toNat) - e42.1)) : (Int × Int)) := R.mk2 fzT (Rp.int (((1 : Int) * 2 ^ (y_size).toNat) - e42.2)) (Rp.int (((1 : Int) * 2 ^ (y_size).toNat) - e42.1))
      have hA67 : RL K (upd F30 p58 (.tup [(V.int (((1 : Int) * 2 ^ (y_size).toNat) - e42.2)), (V.int (((1 : Int) * 2 ^ (y_size).toNat) - e42.1))])) (acc31 ++ [(V.ref p58)]) (ds32 ++ [(((((1 : Int) * 2 ^ (y_size).toNat) - e42.2), (((1 : Int) * 2 ^ (y_size).toNat) - e42.1)) : (Int × Int))]) := RL.snoc (hA37.up sm62) r66
      obtain ⟨rest68, h69, h70⟩ := bnd hm40
      obtain rfl := sjoin h70
      refine ⟨acc31, ow65.h, (lt_line hi38 (List.getElem?_eq_some_iff.mp hx28).1 (by rw [List.length_reverse]; exact hl_y_ends)), ?_⟩
      have g71 := g63.put (o := (.lst (acc31 ++ [(V.ref p58)]))) ow65
      have ow72 := ow64.other (o := (.lst (acc31 ++ [(V.ref p58)]))) ne8
      have ow73 := ow65.put (us := (acc31 ++ [(V.ref p58)]))
      exact ⟨(upd F30 p58 (.tup [(V.int (((1 : Int) * 2 ^ (y_size).toNat) - e42.2)), (V.int (((1 : Int) * 2 ^ (y_size).toNat) - e42.1))])), (acc31 ++ [(V.ref p58)]), (ds32 ++ [((((1 : Int) * 2 ^ (y_size).toNat) - e42.2), (((1 : Int) * 2 ^ (y_size).toNat) - e42.1))]), rest68, g71, (Same.trans sm35 sm62), ow73, hA67, (by rw [List.length_append]; exact Nat.succ_le_succ hi38), ow72, h69, (snoc_rest hr41)⟩
    intro H74 hP
    obtain ⟨F75, acc76, ds77, _rest, g079, sm80, owD81, hA82, hi83, ow084, hm85, hr86⟩ := hP
    rw [drop_end (RL.len hA3)] at hm85
    rw [m_l_mirrored_c1.eq_1] at hm85
    obtain rfl := sjoin hm85
    rw [List.append_nil] at hr86
    obtain rfl := hr86
    have hl87 : acc76.length ≤ sizeLine := Nat.le_trans hi83 (by rw [List.length_reverse]; exact hl_y_ends)
    obtain rfl := sjoin hm
    exact (hQ _ _ _ _ g079 owD81.n0 owD81.h owD81.nF hl87 hA82)
end K06
namespace K06
open PySem PySem.Spec PyProof.Rows L2 TL G
theorem ok_l_turned_right {P : Program} {w : World} {K : PySem.W.Frag} {mg : Str → Option Value} {base : Heap} (T : Txt K mg) : FnOk P w K mg base CX0 4 T.a_l_turned_right T.d_l_turned_right ["_law_some_here", "_law_ends", "_law_size"] (sp_l_turned_right K) := by
  have G_parts_of : FnOk P w K mg base CX0 3 T.a_parts_of T.d_parts_of ["patterns", "width"] (sp_parts_of K) := ok_parts_of T
  have b_parts_of := T.F_parts_of.bindsN (ps := ["patterns", "width"]) fun _ _ _ _ _ _ us hl => match us, hl with | [_, _], _ => rfl
  have G_l_turned : FnOk P w K mg base CX0 1 T.a_l_turned T.d_l_turned ["_law_one_here"] (sp_l_turned K) := ok_l_turned T
  have b_l_turned := T.F_l_turned.bindsN (ps := ["_law_one_here"]) fun _ _ _ _ _ _ us hl => match us, hl with | [_], _ => rfl
  have G_l_mirrored : FnOk P w K mg base CX0 1 T.a_l_mirrored T.d_l_mirrored ["_law_ends", "_law_size"] (sp_l_mirrored K) := ok_l_mirrored T
  have b_l_mirrored := T.F_l_mirrored.bindsN (ps := ["_law_ends", "_law_size"]) fun _ _ _ _ _ _ us hl => match us, hl with | [_, _], _ => rfl
  have G_cover : FnOk P w K mg base CX0 2 T.a_cover T.d_cover ["spans", "width"] (sp_cover K) := ok_cover T
  have b_cover := T.F_cover.bindsN (ps := ["spans", "width"]) fun _ _ _ _ _ _ us hl => match us, hl with | [_, _], _ => rfl
  refine fd_ok T.F_l_turned_right sc_l_turned_right (fun vs H Q E h => ?_) (fun cdv A outer s H0 vs Q E hr h => ?_)
  · obtain ⟨_, _, _, _, _, _, _, _, rfl, _⟩ := h
    rfl
  · obtain ⟨p_y_some_here, ws_y_some_here, y_some_here, p_y_ends, ws_y_ends, y_ends, y_size, r, rfl, hS_y_some_here, hl_y_some_here, hA_y_some_here, nm_y_some_here, hS_y_ends, hl_y_ends, hA_y_ends, nm_y_ends, hm, hQ⟩ := h
    refine ⟨_, (pss_cons (ps_if (pt_cmpR (op_neDK (K := K) hr.units) (pe_call G_parts_of (hr.mono (by decide)) (by rfl) T.g_parts_of T.F_parts_of.kp b_parts_of .nil pass0 (pa_cons (pe_lc (own := [("_law_one_here", 4)]) rfl sc_l_turned_right.nd (pi_listK (K := K) (pv 0)) (blkOk_by (own := [("_law_one_here", 4)]) (N := N_l_turned_right) (sc := defScope s_l_turned_right) (by decide +kernel)) (fun _ _ _ _ _ => (pg_name (i := 4) sc_l_turned_right.nd rfl (Or.inl rfl) (.inr rfl))) (fun _ _ _ _ _ => pts_nil) (fun _ _ _ _ _ => (pe_call G_l_turned (hr.mono (by decide)) (by rfl) T.g_l_turned T.F_l_turned.kp b_l_turned .nil pass0 (pa_cons (pv 4) pa_nil)))) (pa_cons (pv 2) pa_nil))) (pe_call G_l_mirrored (hr.mono (by decide)) (by rfl) T.g_l_mirrored T.F_l_mirrored.kp b_l_mirrored .nil pass0 (pa_cons (pe_call G_parts_of (hr.mono (by decide)) (by rfl) T.g_parts_of T.F_parts_of.kp b_parts_of .nil pass0 (pa_cons (pv 0) (pa_cons (pv 2) pa_nil))) (pa_cons (pv 2) pa_nil))) (nomark _)) (pss_one (ps_ret pe_bl)) pss_nil) (pss_cons (ps_setLc (i := 3) (own := [("_law_one_here", 4)]) rfl sc_l_turned_right.nd rfl rfl (sw_true rfl rfl rfl (by decide +kernel)) (pi_listK (K := K) (pe_revLK (K := K) (pe_call G_cover (hr.mono (by decide)) (by rfl) T.g_cover T.F_cover.kp b_cover .nil pass0 (pa_cons (pv 1) (pa_cons (pv 2) pa_nil))))) (blkOk_by (own := [("_law_one_here", 4)]) (N := N_l_turned_right) (sc := defScope s_l_turned_right) (by decide +kernel)) (fun _ _ _ _ _ => (pg_name (i := 4) sc_l_turned_right.nd rfl (Or.inl rfl) (.inr rfl))) (fun _ _ _ _ _ => pts_nil) (fun _ _ _ _ _ => (pe_call G_l_turned (hr.mono (by decide)) (by rfl) T.g_l_turned T.F_l_turned.kp b_l_turned .nil pass0 (pa_cons (pv 4) pa_nil)))) (pss_one (ps_ret (pe_cmpR (op_eqDK (K := K) hr.units) (pe_call G_cover (hr.mono (by decide)) (by rfl) T.g_cover T.F_cover.kp b_cover .nil pass0 (pa_cons (pe_call G_l_mirrored (hr.mono (by decide)) (by rfl) T.g_l_mirrored T.F_l_mirrored.kp b_l_mirrored .nil pass0 (pa_cons (pv 1) (pa_cons (pv 2) pa_nil))) (pa_cons (pv 2) pa_nil))) (pv 3) (nomark _)))))), ?_⟩
    have g0 : Gr M0 H0 H0 H0 H0 := Gr.refl (Same.refl _)
    unfold m_l_turned_right at hm
    refine p_seq ?_
    refine p_if ?_
    refine ⟨(V.ref p_y_some_here), rfl, p_y_some_here, rfl, ⟨_, (g0.seq nm_y_some_here hS_y_some_here)⟩, fun D1 nD2 => ?_⟩
    have g3 := g0.own (o := (.lst [])) nD2
    have ow4 : Ow H0 H0 (upd H0 D1 (.lst [])) D1 [] := Ow.new g0 nD2
    obtain ⟨l5, hb6, hm⟩ := bnd hm
    refine lc_list (K := K) (a := p_y_some_here) (xs := ws_y_some_here) (fun i H' => ∃ (F' : Hp) (acc : List V) (ds : List Str) (rest : List Str), Gr M0 H0 H0 F' H' ∧ Same H0 F' ∧ Ow H0 F' H' D1 acc ∧ RL K F' acc ds ∧ acc.length ≤ i ∧ m_l_turned_right_c1  (y_some_here.drop i) = some rest ∧ ds ++ rest = l5) ?_ ?_ ?_ ?_
    · exact ⟨H0, [], [], l5, g3, Same.refl _, ow4, RpA.nil, Nat.le_refl _, hb6, rfl⟩
    · intro i H' _ hP
      obtain ⟨F7, acc8, ds9, rest10, g011, sm12, owD13, hA14, hi15, hm16, hr17⟩ := hP
      exact (g011.seq nm_y_some_here hS_y_some_here)
    · intro i19 xv18 H21 hx20 hP
      obtain ⟨F22, acc23, ds24, rest25, g026, sm27, owD28, hA29, hi30, hm31, hr32⟩ := hP
      obtain ⟨e33, he34, r35⟩ := RL.get (hA_y_some_here.up sm27) hx20
      obtain ⟨rfl, gs36⟩ := R.str_v r35
      rw [drop_at he34, m_l_turned_right_c1.eq_2] at hm31
      refine ⟨rfl, (p_yes ?_)⟩
      obtain ⟨r37, hb38, hm31⟩ := bnd hm31
      refine ⟨(V.str e33), rfl, e33, r37, rfl, gs36, hb38, fun F39 H40 g41 gs42 => ?_⟩
      have g43 := Gr.apart g026 g41
      have ow44 := owD28.apart g41
      have hA45 : RL K F22 (acc23 ++ [(V.str r37)]) (ds24 ++ [(r37 : Str)]) := RL.snoc hA29 (Rp.str r37 gs42)
      obtain ⟨rest46, h47, h48⟩ := bnd hm31
      obtain rfl := sjoin h48
      refine ⟨acc23, ow44.h, (lt_line hi30 (List.getElem?_eq_some_iff.mp hx20).1 hl_y_some_here), ?_⟩
      have g49 := g43.put (o := (.lst (acc23 ++ [(V.str r37)]))) ow44
      have ow50 := ow44.put (us := (acc23 ++ [(V.str r37)]))
      exact ⟨F22, (acc23 ++ [(V.str r37)]), (ds24 ++ [r37]), rest46, g49, sm27, ow50, hA45, (by rw [List.length_append]; exact Nat.succ_le_succ hi30), h47, (snoc_rest hr32)⟩
    intro H51 hP
    obtain ⟨F52, acc53, ds54, _rest, g056, sm57, owD58, hA59, hi60, hm61, hr62⟩ := hP
    rw [drop_end (RL.len hA_y_some_here)] at hm61
    rw [m_l_turned_right_c1.eq_1] at hm61
    obtain rfl := sjoin hm61
    rw [List.append_nil] at hr62
    obtain rfl := hr62
    have hl63 : acc53.length ≤ sizeLine := Nat.le_trans hi60 hl_y_some_here
    obtain ⟨r64, hb65, hm⟩ := bnd hm
    refine ⟨(V.int y_size), rfl, F52, D1, acc53, ds54, y_size, r64, rfl, g056.fh, owD58.sq, hl63, hA59, id, hb65, fun p69 ws70 F66 H67 g68 np71 h72 nF73 hl74 hA75 => ?_⟩
    have ne76 := owD58.ne np71
    have n077 := g056.none0 np71
    have g78 := Gr.trans g056 g68
    have ow79 := owD58.gr0 g68
    have ow80 : Ow H0 F66 H67 p69 ws70 := ⟨h72, nF73, n077⟩
    obtain ⟨r81, hb82, hm⟩ := bnd hm
    refine ⟨(V.ref p_y_some_here), rfl, (V.int y_size), rfl, F66, p_y_some_here, ws_y_some_here, y_some_here, y_size, r81, rfl, g78.fh, (g78.seq nm_y_some_here hS_y_some_here), hl_y_some_here, (hA_y_some_here.up (Same.trans sm57 g68.ff)), id, hb82, fun p86 ws87 F83 H84 g85 np88 h89 nF90 hl91 hA92 => ?_⟩
    have ne93 := ow79.ne np88
    have ne94 := ow80.ne np88
    have n095 := g78.none0 np88
    have g96 := Gr.trans g78 g85
    have ow97 := ow79.gr0 g85
    have ow98 := ow80.gr0 g85
    have ow99 : Ow H0 F83 H84 p86 ws87 := ⟨h89, nF90, n095⟩
    obtain ⟨r100, hb101, hm⟩ := bnd hm
    refine ⟨(V.int y_size), rfl, F83, p86, ws87, r81, y_size, r100, rfl, g96.fh, ow99.sq, hl91, hA92, id, hb101, fun p105 ws106 F102 H103 g104 np107 h108 nF109 hl110 hA111 => ?_⟩
    have ne112 := ow97.ne np107
    have ne113 := ow98.ne np107
    have ne114 := ow99.ne np107
    have n0115 := g96.none0 np107
    have g116 := Gr.trans g96 g104
    have ow117 := ow97.gr0 g104
    have ow118 := ow98.gr0 g104
    have ow119 := ow99.gr0 g104
    have ow120 : Ow H0 F102 H103 p105 ws106 := ⟨h108, nF109, n0115⟩
    have rH121 : R K H103 (V.ref p69) r64 := (R.mkl ow118.sq hl74 (RpA.up (hA75.up (Same.trans g85.ff g104.ff)) g116.fh))
    have rH122 : R K H103 (V.ref p105) r100 := (R.mkl ow120.sq hl110 (RpA.up hA111 g116.fh))
    refine ⟨_, _, (Rp.dp _ _ rH121), (Rp.dp _ _ rH122), (R.shaped rH121), (R.shaped rH122), _, rfl, (iteB (fun hc => ?_) (fun hc => ?_))⟩
    · have hm := ifT hc hm
      refine p_ret ?_
      obtain rfl := sjoin hm
      exact (hQ _ _ g116)
    · have hm := ifF hc hm
      refine p_next ?_
      refine p_nx ?_
      refine p_seq ?_
      refine p_asg ?_
      obtain ⟨r123, hb124, hm⟩ := bnd hm
      refine ⟨(V.ref p_y_ends), rfl, (V.int y_size), rfl, F102, p_y_ends, ws_y_ends, y_ends, y_size, r123, rfl, g116.fh, (g116.seq nm_y_ends hS_y_ends), hl_y_ends, (hA_y_ends.up (Same.trans sm57 (Same.trans g68.ff (Same.trans g85.ff g104.ff)))), id, hb124, fun p128 ws129 F125 H126 g127 np130 h131 nF132 hl133 hA134 => ?_⟩
      have ne135 := ow117.ne np130
      have ne136 := ow118.ne np130
      have ne137 := ow119.ne np130
      have ne138 := ow120.ne np130
      have n0139 := g116.none0 np130
      have g140 := Gr.trans g116 g127
      have ow141 := ow117.gr0 g127
      have ow142 := ow118.gr0 g127
      have ow143 := ow119.gr0 g127
      have ow144 := ow120.gr0 g127
      have ow145 : Ow H0 F125 H126 p128 ws129 := ⟨h131, nF132, n0139⟩
      refine ⟨p128, ws129, rfl, ow145.sq, fun p146 np147 => ?_⟩
      have hA148 := RL.rev hA134
      have ne149 := ow141.ne np147
      have ne150 := ow142.ne np147
      have ne151 := ow143.ne np147
      have ne152 := ow144.ne np147
      have ne153 := ow145.ne np147
      have g154 := g140.own (o := (.lst (ws129.reverse))) np147
      have ow155 := ow141.own (o := (.lst (ws129.reverse))) np147
      have ow156 := ow142.own (o := (.lst (ws129.reverse))) np147
      have ow157 := ow143.own (o := (.lst (ws129.reverse))) np147
      have ow158 := ow144.own (o := (.lst (ws129.reverse))) np147
      have ow159 := ow145.own (o := (.lst (ws129.reverse))) np147
      have ow160 : Ow H0 F125 (upd H126 p146 (.lst (ws129.reverse))) p146 (ws129.reverse) := Ow.new g140 np147
      refine ⟨p146, rfl, ⟨_, ow160.sq⟩, fun D161 nD162 => ?_⟩
      have ne163 := ow155.ne nD162
      have ne164 := ow156.ne nD162
      have ne165 := ow157.ne nD162
      have ne166 := ow158.ne nD162
      have ne167 := ow159.ne nD162
      have ne168 := ow160.ne nD162
      have g169 := g154.own (o := (.lst [])) nD162
      have ow170 := ow155.own (o := (.lst [])) nD162
      have ow171 := ow156.own (o := (.lst [])) nD162
      have ow172 := ow157.own (o := (.lst [])) nD162
      have ow173 := ow158.own (o := (.lst [])) nD162
      have ow174 := ow159.own (o := (.lst [])) nD162
      have ow175 := ow160.own (o := (.lst [])) nD162
      have ow176 : Ow H0 F125 (upd (upd H126 p146 (.lst (ws129.reverse))) D161 (.lst [])) D161 [] := Ow.new g154 nD162
      obtain ⟨l177, hb178, hm⟩ := bnd hm
      refine lc_list (K := K) (a := p146) (xs := (ws129.reverse)) (fun i H' => ∃ (F' : Hp) (acc : List V) (ds : List Str) (rest : List Str), Gr M0 H0 H0 F' H' ∧ Same F125 F' ∧ Ow H0 F' H' D161 acc ∧ RL K F' acc ds ∧ acc.length ≤ i ∧ Ow H0 F' H' D1 acc53 ∧ Ow H0 F' H' p69 ws70 ∧ Ow H0 F' H' p86 ws87 ∧ Ow H0 F' H' p105 ws106 ∧ Ow H0 F' H' p128 ws129 ∧ Ow H0 F' H' p146 (ws129.reverse) ∧ m_l_turned_right_c2  ((r123.reverse).drop i) = some rest ∧ ds ++ rest = l177) ?_ ?_ ?_ ?_
      · exact ⟨F125, [], [], l177, g169, Same.refl _, ow176, RpA.nil, Nat.le_refl _, ow170, ow171, ow172, ow173, ow174, ow175, hb178, rfl⟩
      · intro i H' _ hP
        obtain ⟨F179, acc180, ds181, rest182, g0183, sm184, owD185, hA186, hi187, ow0188, ow1189, ow2190, ow3191, ow4192, ow5193, hm194, hr195⟩ := hP
        exact ow5193.sq
      · intro i197 xv196 H199 hx198 hP
        obtain ⟨F200, acc201, ds202, rest203, g0204, sm205, owD206, hA207, hi208, ow0209, ow1210, ow2211, ow3212, ow4213, ow5214, hm215, hr216⟩ := hP
        obtain ⟨e217, he218, r219⟩ := RL.get (hA148.up sm205) hx198
        obtain ⟨rfl, gs220⟩ := R.str_v r219
        rw [drop_at he218, m_l_turned_right_c2.eq_2] at hm215
        refine ⟨rfl, (p_yes ?_)⟩
        obtain ⟨r221, hb222, hm215⟩ := bnd hm215
        refine ⟨(V.str e217), rfl, e217, r221, rfl, gs220, hb222, fun F223 H224 g225 gs226 => ?_⟩
        have g227 := Gr.apart g0204 g225
        have ow228 := ow0209.apart g225
        have ow229 := ow1210.apart g225
        have ow230 := ow2211.apart g225
        have ow231 := ow3212.apart g225
        have ow232 := ow4213.apart g225
        have ow233 := ow5214.apart g225
        have ow234 := owD206.apart g225
        have hA235 : RL K F200 (acc201 ++ [(V.str r221)]) (ds202 ++ [(r221 : Str)]) := RL.snoc hA207 (Rp.str r221 gs226)
        obtain ⟨rest236, h237, h238⟩ := bnd hm215
        obtain rfl := sjoin h238
        refine ⟨acc201, ow234.h, (lt_line hi208 (List.getElem?_eq_some_iff.mp hx198).1 (by rw [List.length_reverse]; exact hl133)), ?_⟩
        have g239 := g227.put (o := (.lst (acc201 ++ [(V.str r221)]))) ow234
        have ow240 := ow228.other (o := (.lst (acc201 ++ [(V.str r221)]))) ne163
        have ow241 := ow229.other (o := (.lst (acc201 ++ [(V.str r221)]))) ne164
        have ow242 := ow230.other (o := (.lst (acc201 ++ [(V.str r221)]))) ne165
        have ow243 := ow231.other (o := (.lst (acc201 ++ [(V.str r221)]))) ne166
        have ow244 := ow232.other (o := (.lst (acc201 ++ [(V.str r221)]))) ne167
        have ow245 := ow233.other (o := (.lst (acc201 ++ [(V.str r221)]))) ne168
        have ow246 := ow234.put (us := (acc201 ++ [(V.str r221)]))
        exact ⟨F200, (acc201 ++ [(V.str r221)]), (ds202 ++ [r221]), rest236, g239, sm205, ow246, hA235, (by rw [List.length_append]; exact Nat.succ_le_succ hi208), ow240, ow241, ow242, ow243, ow244, ow245, h237, (snoc_rest hr216)⟩
      intro H247 hP
      obtain ⟨F248, acc249, ds250, _rest, g0252, sm253, owD254, hA255, hi256, ow0257, ow1258, ow2259, ow3260, ow4261, ow5262, hm263, hr264⟩ := hP
      rw [drop_end (RL.len hA148)] at hm263
      rw [m_l_turned_right_c2.eq_1] at hm263
      obtain rfl := sjoin hm263
      rw [List.append_nil] at hr264
      obtain rfl := hr264
      have hl265 : acc249.length ≤ sizeLine := Nat.le_trans hi256 (by rw [List.length_reverse]; exact hl133)
      refine p_name ?_
      refine p_nx ?_
      refine p_ret ?_
      obtain ⟨r266, hb267, hm⟩ := bnd hm
      refine ⟨(V.ref p_y_ends), rfl, (V.int y_size), rfl, F248, p_y_ends, ws_y_ends, y_ends, y_size, r266, rfl, g0252.fh, (g0252.seq nm_y_ends hS_y_ends), hl_y_ends, (hA_y_ends.up (Same.trans sm57 (Same.trans g68.ff (Same.trans g85.ff (Same.trans g104.ff (Same.trans g127.ff sm253)))))), id, hb267, fun p271 ws272 F268 H269 g270 np273 h274 nF275 hl276 hA277 => ?_⟩
      have ne278 := ow0257.ne np273
      have ne279 := ow1258.ne np273
      have ne280 := ow2259.ne np273
      have ne281 := ow3260.ne np273
      have ne282 := ow4261.ne np273
      have ne283 := ow5262.ne np273
      have ne284 := owD254.ne np273
      have n0285 := g0252.none0 np273
      have g286 := Gr.trans g0252 g270
      have ow287 := ow0257.gr0 g270
      have ow288 := ow1258.gr0 g270
      have ow289 := ow2259.gr0 g270
      have ow290 := ow3260.gr0 g270
      have ow291 := ow4261.gr0 g270
      have ow292 := ow5262.gr0 g270
      have ow293 := owD254.gr0 g270
      have ow294 : Ow H0 F268 H269 p271 ws272 := ⟨h274, nF275, n0285⟩
      obtain ⟨r295, hb296, hm⟩ := bnd hm
      refine ⟨(V.int y_size), rfl, F268, p271, ws272, r266, y_size, r295, rfl, g286.fh, ow294.sq, hl276, hA277, id, hb296, fun p300 ws301 F297 H298 g299 np302 h303 nF304 hl305 hA306 => ?_⟩
      have ne307 := ow287.ne np302
      have ne308 := ow288.ne np302
      have ne309 := ow289.ne np302
      have ne310 := ow290.ne np302
      have ne311 := ow291.ne np302
      have ne312 := ow292.ne np302
      have ne313 := ow293.ne np302
      have ne314 := ow294.ne np302
      have n0315 := g286.none0 np302
      have g316 := Gr.trans g286 g299
      have ow317 := ow287.gr0 g299
      have ow318 := ow288.gr0 g299
      have ow319 := ow289.gr0 g299
      have ow320 := ow290.gr0 g299
      have ow321 := ow291.gr0 g299
      have ow322 := ow292.gr0 g299
      have ow323 := ow293.gr0 g299
      have ow324 := ow294.gr0 g299
      have ow325 : Ow H0 F297 H298 p300 ws301 := ⟨h303, nF304, n0315⟩
      have rH326 : R K H298 (V.ref p300) r295 := (R.mkl ow325.sq hl305 (RpA.up hA306 g316.fh))
      have rH327 : R K H298 (V.ref D161) ds250 := (R.mkl ow323.sq hl265 (RpA.up (hA255.up (Same.trans g270.ff g299.ff)) g316.fh))
      obtain rfl := sjoin hm
      refine ⟨(V.ref D161), rfl, _, _, (Rp.dp _ _ rH326), (Rp.dp _ _ rH327), (R.shaped rH326), (R.shaped rH327), (hQ _ _ g316)⟩
end K06
namespace K06
open PySem PySem.Spec PyProof.Rows L2 TL G
theorem ok_l_ahead_right {P : Program} {w : World} {K : PySem.W.Frag} {mg : Str → Option Value} {base : Heap} (T : Txt K mg) : FnOk P w K mg base CX0 4 T.a_l_ahead_right T.d_l_ahead_right ["_law_some_here", "_law_ends", "_law_size"] (sp_l_ahead_right K) := by
  have G_parts_of : FnOk P w K mg base CX0 3 T.a_parts_of T.d_parts_of ["patterns", "width"] (sp_parts_of K) := ok_parts_of T
  have b_parts_of := T.F_parts_of.bindsN (ps := ["patterns", "width"]) fun _ _ _ _ _ _ us hl => match us, hl with | [_, _], _ => rfl
  have G_cover : FnOk P w K mg base CX0 2 T.a_cover T.d_cover ["spans", "width"] (sp_cover K) := ok_cover T
  have b_cover := T.F_cover.bindsN (ps := ["spans", "width"]) fun _ _ _ _ _ _ us hl => match us, hl with | [_, _], _ => rfl
  have G_span_of : FnOk P w K mg base CX0 2 T.a_span_of T.d_span_of ["pattern", "width"] (sp_span_of K) := ok_span_of T
  have b_span_of := T.F_span_of.bindsN (ps := ["pattern", "width"]) fun _ _ _ _ _ _ us hl => match us, hl with | [_, _], _ => rfl
  refine fd_ok T.F_l_ahead_right sc_l_ahead_right (fun vs H Q E h => ?_) (fun cdv A outer s H0 vs Q E hr h => ?_)
  · obtain ⟨_, _, _, _, _, _, _, _, rfl, _⟩ := h
    rfl
  · obtain ⟨p_y_some_here, ws_y_some_here, y_some_here, p_y_ends, ws_y_ends, y_ends, y_size, r, rfl, hS_y_some_here, hl_y_some_here, hA_y_some_here, nm_y_some_here, hS_y_ends, hl_y_ends, hA_y_ends, nm_y_ends, hm, hQ⟩ := h
    refine ⟨_, (pss_cons (ps_set (i := 3) sc_l_ahead_right.nd rfl (.inr rfl) (pe_op op_shl pe_int (pv 2))) (pss_cons (ps_set (i := 4) sc_l_ahead_right.nd rfl (.inl rfl) (pe_call G_parts_of (hr.mono (by decide)) (by rfl) T.g_parts_of T.F_parts_of.kp b_parts_of .nil pass0 (pa_cons (pv 0) (pa_cons (pv 2) pa_nil)))) (pss_cons (ps_set (i := 5) sc_l_ahead_right.nd rfl (.inl rfl) (pe_op (op_catLK (K := K)) (pe_lc (own := [("_law_one_here", 10)]) rfl sc_l_ahead_right.nd (pi_listK (K := K) (pv 0)) (blkOk_by (own := [("_law_one_here", 10)]) (N := N_l_ahead_right) (sc := defScope s_l_ahead_right) (by decide +kernel)) (fun _ _ _ _ _ => (pg_name (i := 10) sc_l_ahead_right.nd rfl (Or.inl rfl) (.inr rfl))) (fun _ _ _ _ _ => pts_nil) (fun _ _ _ _ _ => (pe_op op_add_str pe_str (pv 10)))) (pe_lc (own := [("_law_one_here", 10)]) rfl sc_l_ahead_right.nd (pi_listK (K := K) (pv 0)) (blkOk_by (own := [("_law_one_here", 10)]) (N := N_l_ahead_right) (sc := defScope s_l_ahead_right) (by decide +kernel)) (fun _ _ _ _ _ => (pg_name (i := 10) sc_l_ahead_right.nd rfl (Or.inl rfl) (.inr rfl))) (fun _ _ _ _ _ => pts_nil) (fun _ _ _ _ _ => (pe_op op_add_str pe_str (pv 10)))))) (pss_cons (ps_if (pt_cmpR (op_neDK (K := K) hr.units) (pe_call G_parts_of (hr.mono (by decide)) (by rfl) T.g_parts_of T.F_parts_of.kp b_parts_of .nil pass0 (pa_cons (pe_op (op_catLK (K := K)) (pv 5) (pe_lst (pa_cons pe_str pa_nil))) (pa_cons (pe_op op_add (pv 2) pe_int) pa_nil))) (pe_op (op_catLK (K := K)) (pv 4) (pe_lc (own := [("_law_first", 8), ("_law_behind", 9)]) rfl sc_l_ahead_right.nd (pi_listK (K := K) (pv 4)) (blkOk_by (own := [("_law_first", 8), ("_law_behind", 9)]) (N := N_l_ahead_right) (sc := defScope s_l_ahead_right) (by decide +kernel)) (fun _ _ _ _ _ => (pg_tupK (K := K) 2 rfl (pgs_cons (pg_name (i := 8) sc_l_ahead_right.nd rfl (Or.inl rfl) (.inr rfl)) (pgs_cons (pg_name (i := 9) sc_l_ahead_right.nd rfl (Or.inl rfl) (.inr rfl)) pgs_nil)))) (fun _ _ _ _ _ => pts_nil) (fun _ _ _ _ _ => (pe_tup (pa_cons (pe_op op_add (pv 8) (pv 3)) (pa_cons (pe_op op_add (pv 9) (pv 3)) pa_nil)))))) (nomark _)) (pss_one (ps_ret pe_bl)) pss_nil) (pss_cons (ps_setLc (i := 6) (own := [("_law_first", 8), ("_law_behind", 9)]) rfl sc_l_ahead_right.nd rfl rfl (sw_true rfl rfl rfl (by decide +kernel)) (pi_listK (K := K) (pv 1)) (blkOk_by (own := [("_law_first", 8), ("_law_behind", 9)]) (N := N_l_ahead_right) (sc := defScope s_l_ahead_right) (by decide +kernel)) (fun _ _ _ _ _ => (pg_tupK (K := K) 2 rfl (pgs_cons (pg_name (i := 8) sc_l_ahead_right.nd rfl (Or.inl rfl) (.inr rfl)) (pgs_cons (pg_name (i := 9) sc_l_ahead_right.nd rfl (Or.inl rfl) (.inr rfl)) pgs_nil)))) (fun _ _ _ _ _ => pts_nil) (fun _ _ _ _ _ => (pe_tup (pa_cons (pe_op op_add (pv 8) (pv 3)) (pa_cons (pe_op op_add (pv 9) (pv 3)) pa_nil))))) (pss_cons (ps_if (pt_cmpR (op_neDK (K := K) hr.units) (pe_call G_cover (hr.mono (by decide)) (by rfl) T.g_cover T.F_cover.kp b_cover .nil pass0 (pa_cons (pv 6) (pa_cons (pe_op op_add (pv 2) pe_int) pa_nil))) (pe_lc (own := [("_law_one_here", 10)]) rfl sc_l_ahead_right.nd (pi_listK (K := K) (pe_call G_cover (hr.mono (by decide)) (by rfl) T.g_cover T.F_cover.kp b_cover .nil pass0 (pa_cons (pv 1) (pa_cons (pv 2) pa_nil)))) (blkOk_by (own := [("_law_one_here", 10)]) (N := N_l_ahead_right) (sc := defScope s_l_ahead_right) (by decide +kernel)) (fun _ _ _ _ _ => (pg_name (i := 10) sc_l_ahead_right.nd rfl (Or.inl rfl) (.inr rfl))) (fun _ _ _ _ _ => pts_nil) (fun _ _ _ _ _ => (pe_op op_add_str pe_str (pv 10)))) (nomark _)) (pss_one (ps_ret pe_bl)) pss_nil) (pss_cons (ps_setLc (i := 7) (own := [("_law_first", 8), ("_law_behind", 9)]) rfl sc_l_ahead_right.nd rfl rfl (sw_true rfl rfl rfl (by decide +kernel)) (pi_listK (K := K) (pe_lc (own := [("_law_one_here", 10)]) rfl sc_l_ahead_right.nd (pi_listK (K := K) (pv 0)) (blkOk_by (own := [("_law_one_here", 10)]) (N := N_l_ahead_right) (sc := defScope s_l_ahead_right) (by decide +kernel)) (fun _ _ _ _ _ => (pg_name (i := 10) sc_l_ahead_right.nd rfl (Or.inl rfl) (.inr rfl))) (fun _ _ _ _ _ => pts_nil) (fun _ _ _ _ _ => (pe_call G_span_of (hr.mono (by decide)) (by rfl) T.g_span_of T.F_span_of.kp b_span_of .nil pass0 (pa_cons (pv 10) (pa_cons (pv 2) pa_nil)))))) (blkOk_by (own := [("_law_first", 8), ("_law_behind", 9)]) (N := N_l_ahead_right) (sc := defScope s_l_ahead_right) (by decide +kernel)) (fun _ _ _ _ _ => (pg_tupK (K := K) 2 rfl (pgs_cons (pg_name (i := 8) sc_l_ahead_right.nd rfl (Or.inl rfl) (.inr rfl)) (pgs_cons (pg_name (i := 9) sc_l_ahead_right.nd rfl (Or.inl rfl) (.inr rfl)) pgs_nil)))) (fun _ _ _ _ _ => pts_nil) (fun _ _ _ _ _ => (pe_tup (pa_cons (pe_op op_add (pv 8) (pv 3)) (pa_cons (pe_op op_add (pv 9) (pv 3)) pa_nil))))) (pss_one (ps_ret (pe_cmpR (op_eqDK (K := K) hr.units) (pe_lc (own := [("_law_one_here", 10)]) rfl sc_l_ahead_right.nd (pi_listK (K := K) (pv 0)) (blkOk_by (own := [("_law_one_here", 10)]) (N := N_l_ahead_right) (sc := defScope s_l_ahead_right) (by decide +kernel)) (fun _ _ _ _ _ => (pg_name (i := 10) sc_l_ahead_right.nd rfl (Or.inl rfl) (.inr rfl))) (fun _ _ _ _ _ => pts_nil) (fun _ _ _ _ _ => (pe_call G_span_of (hr.mono (by decide)) (by rfl) T.g_span_of T.F_span_of.kp b_span_of .nil pass0 (pa_cons (pe_op op_add_str pe_str (pv 10)) (pa_cons (pe_op op_add (pv 2) pe_int) pa_nil))))) (pv 7) (nomark _))))))))))), ?_⟩
    have g0 : Gr M0 H0 H0 H0 H0 := Gr.refl (Same.refl _)
    unfold m_l_ahead_right at hm
    refine p_seq ?_
    refine p_asg ?_
    obtain ⟨t1, hb2, hm⟩ := bnd hm
    obtain ⟨hk3, rfl⟩ := shlI_ok hb2
    refine ⟨(V.int y_size), rfl, _, _, rfl, rfl, hk3, ?_⟩
    obtain ⟨y_half4, hx5⟩ : ∃ z_, ((1 : Int) * 2 ^ (y_size).toNat) = z_ := ⟨_, rfl⟩
    try rw [hx5] at hm
    refine p_nm (v' := (V.int y_half4)) (congrArg V.int hx5) ?_
    refine p_nx ?_
    refine p_seq ?_
    refine p_asg ?_
    obtain ⟨r6, hb7, hm⟩ := bnd hm
    refine ⟨(V.ref p_y_some_here), rfl, (V.int y_size), rfl, H0, p_y_some_here, ws_y_some_here, y_some_here, y_size, r6, rfl, g0.fh, (g0.seq nm_y_some_here hS_y_some_here), hl_y_some_here, hA_y_some_here, id, hb7, fun p11 ws12 F8 H9 g10 np13 h14 nF15 hl16 hA17 => ?_⟩
    have n018 := g0.none0 np13
    have g19 := Gr.trans g0 g10
    have ow20 : Ow H0 F8 H9 p11 ws12 := ⟨h14, nF15, n018⟩
    refine p_name ?_
    refine p_nx ?_
    refine p_seq ?_
    refine p_asg ?_
    refine ⟨(V.ref p_y_some_here), rfl, p_y_some_here, rfl, ⟨_, (g19.seq nm_y_some_here hS_y_some_here)⟩, fun D21 nD22 => ?_⟩
    have ne23 := ow20.ne nD22
    have g24 := g19.own (o := (.lst [])) nD22
    have ow25 := ow20.own (o := (.lst [])) nD22
    have ow26 : Ow H0 F8 (upd H9 D21 (.lst [])) D21 [] := Ow.new g19 nD22
    obtain ⟨l27, hb28, hm⟩ := bnd hm
    refine lc_list (K := K) (a := p_y_some_here) (xs := ws_y_some_here) (fun i H' => ∃ (F' : Hp) (acc : List V) (ds : List Str) (rest : List Str), Gr M0 H0 H0 F' H' ∧ Same F8 F' ∧ Ow H0 F' H' D21 acc ∧ RL K F' acc ds ∧ acc.length ≤ i ∧ Ow H0 F' H' p11 ws12 ∧ m_l_ahead_right_c1  (y_some_here.drop i) = some rest ∧ ds ++ rest = l27) ?_ ?_ ?_ ?_
    · exact ⟨F8, [], [], l27, g24, Same.refl _, ow26, RpA.nil, Nat.le_refl _, ow25, hb28, rfl⟩
    · intro i H' _ hP
      obtain ⟨F29, acc30, ds31, rest32, g033, sm34, owD35, hA36, hi37, ow038, hm39, hr40⟩ := hP
      exact (g033.seq nm_y_some_here hS_y_some_here)
    · intro i42 xv41 H44 hx43 hP
      obtain ⟨F45, acc46, ds47, rest48, g049, sm50, owD51, hA52, hi53, ow054, hm55, hr56⟩ := hP
      obtain ⟨e57, he58, r59⟩ := RL.get (hA_y_some_here.up (Same.trans g10.ff sm50)) hx43
      obtain ⟨rfl, gs60⟩ := R.str_v r59
      rw [drop_at he58, m_l_ahead_right_c1.eq_2] at hm55
      refine ⟨rfl, (p_yes ?_)⟩
      obtain ⟨t61, hb62, hm55⟩ := bnd hm55
      obtain ⟨hk63, rfl⟩ := catS_ok hb62
      have hA64 : RL K F45 (acc46 ++ [(V.str (("0" : Str) ++ e57))]) (ds47 ++ [((("0" : Str) ++ e57) : Str)]) := RL.snoc hA52 (Rp.str (("0" : Str) ++ e57) (GS.cat ⟨by decide +kernel, by decide +kernel⟩ gs60 hb62))
      obtain ⟨rest65, h66, h67⟩ := bnd hm55
      obtain rfl := sjoin h67
      refine ⟨(V.str e57), rfl, _, _, rfl, rfl, hk63, acc46, owD51.h, (lt_line hi53 (List.getElem?_eq_some_iff.mp hx43).1 hl_y_some_here), ?_⟩
      have g68 := g049.put (o := (.lst (acc46 ++ [(V.str (("0" : Str) ++ e57))]))) owD51
      have ow69 := ow054.other (o := (.lst (acc46 ++ [(V.str (("0" : Str) ++ e57))]))) ne23
      have ow70 := owD51.put (us := (acc46 ++ [(V.str (("0" : Str) ++ e57))]))
      exact ⟨F45, (acc46 ++ [(V.str (("0" : Str) ++ e57))]), (ds47 ++ [(("0" : Str) ++ e57)]), rest65, g68, sm50, ow70, hA64, (by rw [List.length_append]; exact Nat.succ_le_succ hi53), ow69, h66, (snoc_rest hr56)⟩
    intro H71 hP
    obtain ⟨F72, acc73, ds74, _rest, g076, sm77, owD78, hA79, hi80, ow081, hm82, hr83⟩ := hP
    rw [drop_end (RL.len (hA_y_some_here.up g10.ff))] at hm82
    rw [m_l_ahead_right_c1.eq_1] at hm82
    obtain rfl := sjoin hm82
    rw [List.append_nil] at hr83
    obtain rfl := hr83
    have hl84 : acc73.length ≤ sizeLine := Nat.le_trans hi80 hl_y_some_here
    refine ⟨(V.ref p_y_some_here), rfl, p_y_some_here, rfl, ⟨_, (g076.seq nm_y_some_here hS_y_some_here)⟩, fun D85 nD86 => ?_⟩
    have ne87 := ow081.ne nD86
    have ne88 := owD78.ne nD86
    have g89 := g076.own (o := (.lst [])) nD86
    have ow90 := ow081.own (o := (.lst [])) nD86
    have ow91 := owD78.own (o := (.lst [])) nD86
    have ow92 : Ow H0 F72 (upd H71 D85 (.lst [])) D85 [] := Ow.new g076 nD86
    obtain ⟨l93, hb94, hm⟩ := bnd hm
    refine lc_list (K := K) (a := p_y_some_here) (xs := ws_y_some_here) (fun i H' => ∃ (F' : Hp) (acc : List V) (ds : List Str) (rest : List Str), Gr M0 H0 H0 F' H' ∧ Same F72 F' ∧ Ow H0 F' H' D85 acc ∧ RL K F' acc ds ∧ acc.length ≤ i ∧ Ow H0 F' H' p11 ws12 ∧ Ow H0 F' H' D21 acc73 ∧ m_l_ahead_right_c2  (y_some_here.drop i) = some rest ∧ ds ++ rest = l93) ?_ ?_ ?_ ?_
    · exact ⟨F72, [], [], l93, g89, Same.refl _, ow92, RpA.nil, Nat.le_refl _, ow90, ow91, hb94, rfl⟩
    · intro i H' _ hP
      obtain ⟨F95, acc96, ds97, rest98, g099, sm100, owD101, hA102, hi103, ow0104, ow1105, hm106, hr107⟩ := hP
      exact (g099.seq nm_y_some_here hS_y_some_here)
    · intro i109 xv108 H111 hx110 hP
      obtain ⟨F112, acc113, ds114, rest115, g0116, sm117, owD118, hA119, hi120, ow0121, ow1122, hm123, hr124⟩ := hP
      obtain ⟨e125, he126, r127⟩ := RL.get (hA_y_some_here.up (Same.trans g10.ff (Same.trans sm77 sm117))) hx110
      obtain ⟨rfl, gs128⟩ := R.str_v r127
      rw [drop_at he126, m_l_ahead_right_c2.eq_2] at hm123
      refine ⟨rfl, (p_yes ?_)⟩
      obtain ⟨t129, hb130, hm123⟩ := bnd hm123
      obtain ⟨hk131, rfl⟩ := catS_ok hb130
      have hA132 : RL K F112 (acc113 ++ [(V.str (("1" : Str) ++ e125))]) (ds114 ++ [((("1" : Str) ++ e125) : Str)]) := RL.snoc hA119 (Rp.str (("1" : Str) ++ e125) (GS.cat ⟨by decide +kernel, by decide +kernel⟩ gs128 hb130))
      obtain ⟨rest133, h134, h135⟩ := bnd hm123
      obtain rfl := sjoin h135
      refine ⟨(V.str e125), rfl, _, _, rfl, rfl, hk131, acc113, owD118.h, (lt_line hi120 (List.getElem?_eq_some_iff.mp hx110).1 hl_y_some_here), ?_⟩
      have g136 := g0116.put (o := (.lst (acc113 ++ [(V.str (("1" : Str) ++ e125))]))) owD118
      have ow137 := ow0121.other (o := (.lst (acc113 ++ [(V.str (("1" : Str) ++ e125))]))) ne87
      have ow138 := ow1122.other (o := (.lst (acc113 ++ [(V.str (("1" : Str) ++ e125))]))) ne88
      have ow139 := owD118.put (us := (acc113 ++ [(V.str (("1" : Str) ++ e125))]))
      exact ⟨F112, (acc113 ++ [(V.str (("1" : Str) ++ e125))]), (ds114 ++ [(("1" : Str) ++ e125)]), rest133, g136, sm117, ow139, hA132, (by rw [List.length_append]; exact Nat.succ_le_succ hi120), ow137, ow138, h134, (snoc_rest hr124)⟩
    intro H140 hP
    obtain ⟨F141, acc142, ds143, _rest, g0145, sm146, owD147, hA148, hi149, ow0150, ow1151, hm152, hr153⟩ := hP
    rw [drop_end (RL.len (hA_y_some_here.up (Same.trans g10.ff sm77)))] at hm152
    rw [m_l_ahead_right_c2.eq_1] at hm152
    obtain rfl := sjoin hm152
    rw [List.append_nil] at hr153
    obtain rfl := hr153
    have hl154 : acc142.length ≤ sizeLine := Nat.le_trans hi149 hl_y_some_here
    obtain ⟨t155, hb156, hm⟩ := bnd hm
    obtain ⟨hk157, rfl⟩ := conL_ok hb156
    have hz160 : (acc73 ++ acc142).length ≤ sizeLine := by rw [List.length_append, RL.len (hA79.up sm146), RL.len hA148]; exact hk157
    refine ⟨D21, D85, acc73, acc142, rfl, rfl, ow1151.sq, owD147.sq, (by rw [RL.len (hA79.up sm146), RL.len hA148]; exact hk157), fun p158 np159 => ?_⟩
    have hA161 := RL.app (hA79.up sm146) hA148
    have ne163 := ow0150.ne np159
    have ne164 := ow1151.ne np159
    have ne165 := owD147.ne np159
    have g166 := g0145.own (o := (.lst (acc73 ++ acc142))) np159
    have ow167 := ow0150.own (o := (.lst (acc73 ++ acc142))) np159
    have ow168 := ow1151.own (o := (.lst (acc73 ++ acc142))) np159
    have ow169 := owD147.own (o := (.lst (acc73 ++ acc142))) np159
    have ow170 : Ow H0 F141 (upd H140 p158 (.lst (acc73 ++ acc142))) p158 (acc73 ++ acc142) := Ow.new g0145 np159
    refine p_name ?_
    refine p_nx ?_
    refine p_seq ?_
    refine p_if ?_
    refine ⟨(V.ref p158), rfl, (by show 1 ≤ sizeLine; decide), fun p171 np172 => ?_⟩
    have ne173 := ow167.ne np172
    have ne174 := ow168.ne np172
    have ne175 := ow169.ne np172
    have ne176 := ow170.ne np172
    have g177 := g166.own (o := (.lst [(V.str ("0*" : Str))])) np172
    have ow178 := ow167.own (o := (.lst [(V.str ("0*" : Str))])) np172
    have ow179 := ow168.own (o := (.lst [(V.str ("0*" : Str))])) np172
    have ow180 := ow169.own (o := (.lst [(V.str ("0*" : Str))])) np172
    have ow181 := ow170.own (o := (.lst [(V.str ("0*" : Str))])) np172
    have ow182 : Ow H0 F141 (upd (upd H140 p158 (.lst (acc73 ++ acc142))) p171 (.lst [(V.str ("0*" : Str))])) p171 [(V.str ("0*" : Str))] := Ow.new g166 np172
    have hA183 : RL K F141 [(V.str ("0*" : Str))] ([("0*" : Str)] : List Str) := (RpA.cons (Rp.str ("0*" : Str) ⟨by decide +kernel, by decide +kernel⟩) RpA.nil)
    obtain ⟨t184, hb185, hm⟩ := bnd hm
    obtain ⟨hk186, rfl⟩ := conL_ok hb185
    have hz189 : ((acc73 ++ acc142) ++ [(V.str ("0*" : Str))]).length ≤ sizeLine := by rw [List.length_append, RL.len hA161, RL.len hA183]; exact hk186
    refine ⟨p158, p171, (acc73 ++ acc142), [(V.str ("0*" : Str))], rfl, rfl, ow181.sq, ow182.sq, (by rw [RL.len hA161, RL.len hA183]; exact hk186), fun p187 np188 => ?_⟩
    have hA190 := RL.app hA161 hA183
    have ne192 := ow178.ne np188
    have ne193 := ow179.ne np188
    have ne194 := ow180.ne np188
    have ne195 := ow181.ne np188
    have ne196 := ow182.ne np188
    have g197 := g177.own (o := (.lst ((acc73 ++ acc142) ++ [(V.str ("0*" : Str))]))) np188
    have ow198 := ow178.own (o := (.lst ((acc73 ++ acc142) ++ [(V.str ("0*" : Str))]))) np188
    have ow199 := ow179.own (o := (.lst ((acc73 ++ acc142) ++ [(V.str ("0*" : Str))]))) np188
    have ow200 := ow180.own (o := (.lst ((acc73 ++ acc142) ++ [(V.str ("0*" : Str))]))) np188
    have ow201 := ow181.own (o := (.lst ((acc73 ++ acc142) ++ [(V.str ("0*" : Str))]))) np188
    have ow202 := ow182.own (o := (.lst ((acc73 ++ acc142) ++ [(V.str ("0*" : Str))]))) np188
    have ow203 : Ow H0 F141 (upd (upd (upd H140 p158 (.lst (acc73 ++ acc142))) p171 (.lst [(V.str ("0*" : Str))])) p187 (.lst ((acc73 ++ acc142) ++ [(V.str ("0*" : Str))]))) p187 ((acc73 ++ acc142) ++ [(V.str ("0*" : Str))]) := Ow.new g177 np188
    obtain ⟨r204, hb205, hm⟩ := bnd hm
    refine ⟨(V.int y_size), rfl, _, _, rfl, rfl, F141, p187, ((acc73 ++ acc142) ++ [(V.str ("0*" : Str))]), ((ds74 ++ ds143) ++ ([("0*" : Str)] : List Str)), (y_size + (1 : Int)), r204, rfl, g197.fh, ow203.sq, hz189, hA190, id, hb205, fun p209 ws210 F206 H207 g208 np211 h212 nF213 hl214 hA215 => ?_⟩
    have ne216 := ow198.ne np211
    have ne217 := ow199.ne np211
    have ne218 := ow200.ne np211
    have ne219 := ow201.ne np211
    have ne220 := ow202.ne np211
    have ne221 := ow203.ne np211
    have n0222 := g197.none0 np211
    have g223 := Gr.trans g197 g208
    have ow224 := ow198.gr0 g208
    have ow225 := ow199.gr0 g208
    have ow226 := ow200.gr0 g208
    have ow227 := ow201.gr0 g208
    have ow228 := ow202.gr0 g208
    have ow229 := ow203.gr0 g208
    have ow230 : Ow H0 F206 H207 p209 ws210 := ⟨h212, nF213, n0222⟩
    refine ⟨(V.ref p11), rfl, (V.ref p11), rfl, p11, rfl, ⟨_, ow224.sq⟩, fun D231 nD232 => ?_⟩
    have ne233 := ow224.ne nD232
    have ne234 := ow225.ne nD232
    have ne235 := ow226.ne nD232
    have ne236 := ow227.ne nD232
    have ne237 := ow228.ne nD232
    have ne238 := ow229.ne nD232
    have ne239 := ow230.ne nD232
    have g240 := g223.own (o := (.lst [])) nD232
    have ow241 := ow224.own (o := (.lst [])) nD232
    have ow242 := ow225.own (o := (.lst [])) nD232
    have ow243 := ow226.own (o := (.lst [])) nD232
    have ow244 := ow227.own (o := (.lst [])) nD232
    have ow245 := ow228.own (o := (.lst [])) nD232
    have ow246 := ow229.own (o := (.lst [])) nD232
    have ow247 := ow230.own (o := (.lst [])) nD232
    have ow248 : Ow H0 F206 (upd H207 D231 (.lst [])) D231 [] := Ow.new g223 nD232
    refine lc_list (K := K) (a := p11) (xs := ws12) (fun i H' => ∃ (F' : Hp) (acc : List V) (ds : List (Int × Int)), Gr M0 H0 H0 F' H' ∧ Same F206 F' ∧ Ow H0 F' H' D231 acc ∧ RL K F' acc ds ∧ acc.length ≤ i ∧ Ow H0 F' H' p11 ws12 ∧ Ow H0 F' H' D21 acc73 ∧ Ow H0 F' H' D85 acc142 ∧ Ow H0 F' H' p158 (acc73 ++ acc142) ∧ Ow H0 F' H' p171 [(V.str ("0*" : Str))] ∧ Ow H0 F' H' p187 ((acc73 ++ acc142) ++ [(V.str ("0*" : Str))]) ∧ Ow H0 F' H' p209 ws210 ∧ ds ++ m_l_ahead_right_c3 y_half4 (r6.drop i) = (m_l_ahead_right_c3 y_half4 r6)) ?_ ?_ ?_ ?_
    · exact ⟨F206, [], [], g240, Same.refl _, ow248, RpA.nil, Nat.le_refl _, ow241, ow242, ow243, ow244, ow245, ow246, ow247, rfl⟩
    · intro i H' _ hP
      obtain ⟨F250, acc251, ds252, g0253, sm254, owD255, hA256, hi257, ow0258, ow1259, ow2260, ow3261, ow4262, ow5263, ow6264, hr265⟩ := hP
      exact ow0258.sq
    · intro i267 xv266 H269 hx268 hP
      obtain ⟨F270, acc271, ds272, g0273, sm274, owD275, hA276, hi277, ow0278, ow1279, ow2280, ow3281, ow4282, ow5283, ow6284, hr285⟩ := hP
      obtain ⟨e286, he287, r288⟩ := RL.get (hA17.up (Same.trans sm77 (Same.trans sm146 (Same.trans g208.ff sm274)))) hx268
      rw [drop_at he287, m_l_ahead_right_c3.eq_2] at hr285
      obtain ⟨p289, v292, v293, ev290, hS291, r294, r295⟩ := R.p2_v r288
      obtain rfl := R.int_v r294
      obtain rfl := R.int_v r295
      refine ⟨p289, [(V.int e286.1), (V.int e286.2)], ev290, (SqT_mono g0273.fh hS291), rfl, (V.int e286.1), [(V.int e286.2)], rfl, (V.int e286.2), [], rfl, rfl, rfl, (p_yes ?_)⟩
      refine ⟨(V.int e286.1), rfl, (V.int y_half4), rfl, _, _, rfl, rfl, (V.int e286.2), rfl, (V.int y_half4), rfl, _, _, rfl, rfl, (by show 2 ≤ sizeLine; decide), fun p296 np297 => ?_⟩
      have ne298 := ow0278.ne np297
      have ne299 := ow1279.ne np297
      have ne300 := ow2280.ne np297
      have ne301 := ow3281.ne np297
      have ne302 := ow4282.ne np297
      have ne303 := ow5283.ne np297
      have ne304 := ow6284.ne np297
      have ne305 := owD275.ne np297
      have sm306 := same_new (o := (.tup [(V.int (e286.1 + y_half4)), (V.int (e286.2 + y_half4))])) (g0273.noneF np297)
      have g307 := g0273.frz (o := (.tup [(V.int (e286.1 + y_half4)), (V.int (e286.2 + y_half4))])) np297
      have ow308 := ow0278.frz (o := (.tup [(V.int (e286.1 + y_half4)), (V.int (e286.2 + y_half4))])) np297
      have ow309 := ow1279.frz (o := (.tup [(V.int (e286.1 + y_half4)), (V.int (e286.2 + y_half4))])) np297
      have ow310 := ow2280.frz (o := (.tup [(V.int (e286.1 + y_half4)), (V.int (e286.2 + y_half4))])) np297
      have ow311 := ow3281.frz (o := (.tup [(V.int (e286.1 + y_half4)), (V.int (e286.2 + y_half4))])) np297
      have ow312 := ow4282.frz (o := (.tup [(V.int (e286.1 + y_half4)), (V.int (e286.2 + y_half4))])) np297
      have ow313 := ow5283.frz (o := (.tup [(V.int (e286.1 + y_half4)), (V.int (e286.2 + y_half4))])) np297
      have ow314 := ow6284.frz (o := (.tup [(V.int (e286.1 + y_half4)), (V.int (e286.2 + y_half4))])) np297
      have ow315 := owD275.frz (o := (.tup [(V.int (e286.1 + y_half4)), (V.int (e286.2 + y_half4))])) np297
      have r316 : R K (upd F270 p296 (.tup [(V.int (e286.1 + y_half4)), (V.int (e286.2 + y_half4))])) (.ref p296) (((e286.1 + y_half4), (e286.2 + y_half4)) : (Int × Int)) := R.mk2 fzT (Rp.int (e286.1 + y_half4)) (Rp.int (e286.2 + y_half4))
      have hA317 : RL K (upd F270 p296 (.tup [(V.int (e286.1 + y_half4)), (V.int (e286.2 + y_half4))])) (acc271 ++ [(V.ref p296)]) (ds272 ++ [(((e286.1 + y_half4), (e286.2 + y_half4)) : (Int × Int))]) := RL.snoc (hA276.up sm306) r316
      refine ⟨acc271, ow315.h, (lt_line hi277 (List.getElem?_eq_some_iff.mp hx268).1 hl16), ?_⟩
      have g318 := g307.put (o := (.lst (acc271 ++ [(V.ref p296)]))) ow315
      have ow319 := ow308.other (o := (.lst (acc271 ++ [(V.ref p296)]))) ne233
      have ow320 := ow309.other (o := (.lst (acc271 ++ [(V.ref p296)]))) ne234
      have ow321 := ow310.other (o := (.lst (acc271 ++ [(V.ref p296)]))) ne235
      have ow322 := ow311.other (o := (.lst (acc271 ++ [(V.ref p296)]))) ne236
      have ow323 := ow312.other (o := (.lst (acc271 ++ [(V.ref p296)]))) ne237
      have ow324 := ow313.other (o := (.lst (acc271 ++ [(V.ref p296)]))) ne238
      have ow325 := ow314.other (o := (.lst (acc271 ++ [(V.ref p296)]))) ne239
      have ow326 := ow315.put (us := (acc271 ++ [(V.ref p296)]))
      exact ⟨(upd F270 p296 (.tup [(V.int (e286.1 + y_half4)), (V.int (e286.2 + y_half4))])), (acc271 ++ [(V.ref p296)]), (ds272 ++ [((e286.1 + y_half4), (e286.2 + y_half4))]), g318, (Same.trans sm274 sm306), ow326, hA317, (by rw [List.length_append]; exact Nat.succ_le_succ hi277), ow319, ow320, ow321, ow322, ow323, ow324, ow325, (snoc_rest hr285)⟩
    intro H327 hP
    obtain ⟨F328, acc329, ds330, g0332, sm333, owD334, hA335, hi336, ow0337, ow1338, ow2339, ow3340, ow4341, ow5342, ow6343, hr344⟩ := hP
    rw [drop_end (RL.len (hA17.up (Same.trans sm77 (Same.trans sm146 g208.ff))))] at hr344
    rw [m_l_ahead_right_c3.eq_1, List.append_nil] at hr344
    obtain rfl := hr344
    have hl345 : acc329.length ≤ sizeLine := Nat.le_trans hi336 hl16
    obtain ⟨t346, hb347, hm⟩ := bnd hm
    obtain ⟨hk348, rfl⟩ := conL_ok hb347
    have hz351 : (ws12 ++ acc329).length ≤ sizeLine := by rw [List.length_append, RL.len (hA17.up (Same.trans sm77 (Same.trans sm146 (Same.trans g208.ff sm333)))), RL.len hA335]; exact hk348
    refine ⟨p11, D231, ws12, acc329, rfl, rfl, ow0337.sq, owD334.sq, (by rw [RL.len (hA17.up (Same.trans sm77 (Same.trans sm146 (Same.trans g208.ff sm333)))), RL.len hA335]; exact hk348), fun p349 np350 => ?_⟩
    have hA352 := RL.app (hA17.up (Same.trans sm77 (Same.trans sm146 (Same.trans g208.ff sm333)))) hA335
    have ne354 := ow0337.ne np350
    have ne355 := ow1338.ne np350
    have ne356 := ow2339.ne np350
    have ne357 := ow3340.ne np350
    have ne358 := ow4341.ne np350
    have ne359 := ow5342.ne np350
    have ne360 := ow6343.ne np350
    have ne361 := owD334.ne np350
    have g362 := g0332.own (o := (.lst (ws12 ++ acc329))) np350
    have ow363 := ow0337.own (o := (.lst (ws12 ++ acc329))) np350
    have ow364 := ow1338.own (o := (.lst (ws12 ++ acc329))) np350
    have ow365 := ow2339.own (o := (.lst (ws12 ++ acc329))) np350
    have ow366 := ow3340.own (o := (.lst (ws12 ++ acc329))) np350
    have ow367 := ow4341.own (o := (.lst (ws12 ++ acc329))) np350
    have ow368 := ow5342.own (o := (.lst (ws12 ++ acc329))) np350
    have ow369 := ow6343.own (o := (.lst (ws12 ++ acc329))) np350
    have ow370 := owD334.own (o := (.lst (ws12 ++ acc329))) np350
    have ow371 : Ow H0 F328 (upd H327 p349 (.lst (ws12 ++ acc329))) p349 (ws12 ++ acc329) := Ow.new g0332 np350
    have rH372 : R K (upd H327 p349 (.lst (ws12 ++ acc329))) (V.ref p209) r204 := (R.mkl ow369.sq hl214 (RpA.up (hA215.up sm333) g362.fh))
    have rH373 : R K (upd H327 p349 (.lst (ws12 ++ acc329))) (V.ref p349) (r6 ++ (m_l_ahead_right_c3 y_half4 r6)) := (R.mkl ow371.sq hz351 (RpA.up hA352 g362.fh))
    refine ⟨_, _, (Rp.dp _ _ rH372), (Rp.dp _ _ rH373), (R.shaped rH372), (R.shaped rH373), _, rfl, (iteB (fun hc => ?_) (fun hc => ?_))⟩
    · have hm := ifT hc hm
      refine p_ret ?_
      obtain rfl := sjoin hm
      exact (hQ _ _ g362)
    · have hm := ifF hc hm
      refine p_next ?_
      refine p_nx ?_
      refine p_seq ?_
      refine p_asg ?_
      refine ⟨(V.ref p_y_ends), rfl, p_y_ends, rfl, ⟨_, (g362.seq nm_y_ends hS_y_ends)⟩, fun D374 nD375 => ?_⟩
      have ne376 := ow363.ne nD375
      have ne377 := ow364.ne nD375
      have ne378 := ow365.ne nD375
      have ne379 := ow366.ne nD375
      have ne380 := ow367.ne nD375
      have ne381 := ow368.ne nD375
      have ne382 := ow369.ne nD375
      have ne383 := ow370.ne nD375
      have ne384 := ow371.ne nD375
      have g385 := g362.own (o := (.lst [])) nD375
      have ow386 := ow363.own (o := (.lst [])) nD375
      have ow387 := ow364.own (o := (.lst [])) nD375
      have ow388 := ow365.own (o := (.lst [])) nD375
      have ow389 := ow366.own (o := (.lst [])) nD375
      have ow390 := ow367.own (o := (.lst [])) nD375
      have ow391 := ow368.own (o := (.lst [])) nD375
      have ow392 := ow369.own (o := (.lst [])) nD375
      have ow393 := ow370.own (o := (.lst [])) nD375
      have ow394 := ow371.own (o := (.lst [])) nD375
      have ow395 : Ow H0 F328 (upd (upd H327 p349 (.lst (ws12 ++ acc329))) D374 (.lst [])) D374 [] := Ow.new g362 nD375
      refine lc_list (K := K) (a := p_y_ends) (xs := ws_y_ends) (fun i H' => ∃ (F' : Hp) (acc : List V) (ds : List (Int × Int)), Gr M0 H0 H0 F' H' ∧ Same F328 F' ∧ Ow H0 F' H' D374 acc ∧ RL K F' acc ds ∧ acc.length ≤ i ∧ Ow H0 F' H' p11 ws12 ∧ Ow H0 F' H' D21 acc73 ∧ Ow H0 F' H' D85 acc142 ∧ Ow H0 F' H' p158 (acc73 ++ acc142) ∧ Ow H0 F' H' p171 [(V.str ("0*" : Str))] ∧ Ow H0 F' H' p187 ((acc73 ++ acc142) ++ [(V.str ("0*" : Str))]) ∧ Ow H0 F' H' p209 ws210 ∧ Ow H0 F' H' D231 acc329 ∧ Ow H0 F' H' p349 (ws12 ++ acc329) ∧ ds ++ m_l_ahead_right_c4 y_half4 (y_ends.drop i) = (m_l_ahead_right_c4 y_half4 y_ends)) ?_ ?_ ?_ ?_
      · exact ⟨F328, [], [], g385, Same.refl _, ow395, RpA.nil, Nat.le_refl _, ow386, ow387, ow388, ow389, ow390, ow391, ow392, ow393, ow394, rfl⟩
      · intro i H' _ hP
        obtain ⟨F397, acc398, ds399, g0400, sm401, owD402, hA403, hi404, ow0405, ow1406, ow2407, ow3408, ow4409, ow5410, ow6411, ow7412, ow8413, hr414⟩ := hP
        exact (g0400.seq nm_y_ends hS_y_ends)
      · intro i416 xv415 H418 hx417 hP
        obtain ⟨F419, acc420, ds421, g0422, sm423, owD424, hA425, hi426, ow0427, ow1428, ow2429, ow3430, ow4431, ow5432, ow6433, ow7434, ow8435, hr436⟩ := hP
        obtain ⟨e437, he438, r439⟩ := RL.get (hA_y_ends.up (Same.trans g10.ff (Same.trans sm77 (Same.trans sm146 (Same.trans g208.ff (Same.trans sm333 sm423)))))) hx417
        rw [drop_at he438, m_l_ahead_right_c4.eq_2] at hr436
        obtain ⟨p440, v443, v444, ev441, hS442, r445, r446⟩ := R.p2_v r439
        obtain rfl := R.int_v r445
        obtain rfl := R.int_v r446
        refine ⟨p440, [(V.int e437.1), (V.int e437.2)], ev441, (SqT_mono g0422.fh hS442), rfl, (V.int e437.1), [(V.int e437.2)], rfl, (V.int e437.2), [], rfl, rfl, rfl, (p_yes ?_)⟩
        refine ⟨(V.int e437.1), rfl, (V.int y_half4), rfl, _, _, rfl, rfl, (V.int e437.2), rfl, (V.int y_half4), rfl, _, _, rfl, rfl, (by show 2 ≤ sizeLine; decide), fun p447 np448 => ?_⟩
        have ne449 := ow0427.ne np448
        have ne450 := ow1428.ne np448
        have ne451 := ow2429.ne np448
        have ne452 := ow3430.ne np448
        have ne453 := ow4431.ne np448
        have ne454 := ow5432.ne np448
        have ne455 := ow6433.ne np448
        have ne456 := ow7434.ne np448
        have ne457 := ow8435.ne np448
        have ne458 := owD424.ne np448
        have sm459 := same_new (o := (.tup [(V.int (e437.1 + y_half4)), (V.int (e437.2 + y_half4))])) (g0422.noneF np448)
        have g460 := g0422.frz (o := (.tup [(V.int (e437.1 + y_half4)), (V.int (e437.2 + y_half4))])) np448
        have ow461 := ow0427.frz (o := (.tup [(V.int (e437.1 + y_half4)), (V.int (e437.2 + y_half4))])) np448
        have ow462 := ow1428.frz (o := (.tup [(V.int (e437.1 + y_half4)), (V.int (e437.2 + y_half4))])) np448
        have ow463 := ow2429.frz (o := (.tup [(V.int (e437.1 + y_half4)), (V.int (e437.2 + y_half4))])) np448
        have ow464 := ow3430.frz (o := (.tup [(V.int (e437.1 + y_half4)), (V.int (e437.2 + y_half4))])) np448
        have ow465 := ow4431.frz (o := (.tup [(V.int (e437.1 + y_half4)), (V.int (e437.2 + y_half4))])) np448
        have ow466 := ow5432.frz (o := (.tup [(V.int (e437.1 + y_half4)), (V.int (e437.2 + y_half4))])) np448
        have ow467 := ow6433.frz (o := (.tup [(V.int (e437.1 + y_half4)), (V.int (e437.2 + y_half4))])) np448
        have ow468 := ow7434.frz (o := (.tup [(V.int (e437.1 + y_half4)), (V.int (e437.2 + y_half4))])) np448
        have ow469 := ow8435.frz (o := (.tup [(V.int (e437.1 + y_half4)), (V.int (e437.2 + y_half4))])) np448
        have ow470 := owD424.frz (o := (.tup [(V.int (e437.1 + y_half4)), (V.int (e437.2 + y_half4))])) np448
        have r471 : R K (upd F419 p447 (.tup [(V.int (e437.1 + y_half4)), (V.int (e437.2 + y_half4))])) (.ref p447) (((e437.1 + y_half4), (e437.2 + y_half4)) : (Int × Int)) := R.mk2 fzT (Rp.int (e437.1 + y_half4)) (Rp.int (e437.2 + y_half4))
        have hA472 : RL K (upd F419 p447 (.tup [(V.int (e437.1 + y_half4)), (V.int (e437.2 + y_half4))])) (acc420 ++ [(V.ref p447)]) (ds421 ++ [(((e437.1 + y_half4), (e437.2 + y_half4)) : (Int × Int))]) := RL.snoc (hA425.up sm459) r471
        refine ⟨acc420, ow470.h, (lt_line hi426 (List.getElem?_eq_some_iff.mp hx417).1 hl_y_ends), ?_⟩
        have g473 := g460.put (o := (.lst (acc420 ++ [(V.ref p447)]))) ow470
        have ow474 := ow461.other (o := (.lst (acc420 ++ [(V.ref p447)]))) ne376
        have ow475 := ow462.other (o := (.lst (acc420 ++ [(V.ref p447)]))) ne377
        have ow476 := ow463.other (o := (.lst (acc420 ++ [(V.ref p447)]))) ne378
        have ow477 := ow464.other (o := (.lst (acc420 ++ [(V.ref p447)]))) ne379
        have ow478 := ow465.other (o := (.lst (acc420 ++ [(V.ref p447)]))) ne380
        have ow479 := ow466.other (o := (.lst (acc420 ++ [(V.ref p447)]))) ne381
        have ow480 := ow467.other (o := (.lst (acc420 ++ [(V.ref p447)]))) ne382
        have ow481 := ow468.other (o := (.lst (acc420 ++ [(V.ref p447)]))) ne383
        have ow482 := ow469.other (o := (.lst (acc420 ++ [(V.ref p447)]))) ne384
        have ow483 := ow470.put (us := (acc420 ++ [(V.ref p447)]))
        exact ⟨(upd F419 p447 (.tup [(V.int (e437.1 + y_half4)), (V.int (e437.2 + y_half4))])), (acc420 ++ [(V.ref p447)]), (ds421 ++ [((e437.1 + y_half4), (e437.2 + y_half4))]), g473, (Same.trans sm423 sm459), ow483, hA472, (by rw [List.length_append]; exact Nat.succ_le_succ hi426), ow474, ow475, ow476, ow477, ow478, ow479, ow480, ow481, ow482, (snoc_rest hr436)⟩
      intro H484 hP
      obtain ⟨F485, acc486, ds487, g0489, sm490, owD491, hA492, hi493, ow0494, ow1495, ow2496, ow3497, ow4498, ow5499, ow6500, ow7501, ow8502, hr503⟩ := hP
      rw [drop_end (RL.len (hA_y_ends.up (Same.trans g10.ff (Same.trans sm77 (Same.trans sm146 (Same.trans g208.ff sm333))))))] at hr503
      rw [m_l_ahead_right_c4.eq_1, List.append_nil] at hr503
      obtain rfl := hr503
      have hl504 : acc486.length ≤ sizeLine := Nat.le_trans hi493 hl_y_ends
      obtain ⟨y_far505, hb506, hm⟩ := bnd hm
      have hx507 : (m_l_ahead_right_c4 y_half4 y_ends) = y_far505 := sjoin hb506
      have hA508 : RL K F485 acc486 y_far505 := RL.re hx507 hA492
      refine p_name ?_
      refine p_nx ?_
      refine p_seq ?_
      refine p_if ?_
      obtain ⟨r509, hb510, hm⟩ := bnd hm
      refine ⟨(V.ref D374), rfl, (V.int y_size), rfl, _, _, rfl, rfl, F485, D374, acc486, y_far505, (y_size + (1 : Int)), r509, rfl, g0489.fh, owD491.sq, hl504, hA508, id, hb510, fun p514 ws515 F511 H512 g513 np516 h517 nF518 hl519 hA520 => ?_⟩
      have ne521 := ow0494.ne np516
      have ne522 := ow1495.ne np516
      have ne523 := ow2496.ne np516
      have ne524 := ow3497.ne np516
      have ne525 := ow4498.ne np516
      have ne526 := ow5499.ne np516
      have ne527 := ow6500.ne np516
      have ne528 := ow7501.ne np516
      have ne529 := ow8502.ne np516
      have ne530 := owD491.ne np516
      have n0531 := g0489.none0 np516
      have g532 := Gr.trans g0489 g513
      have ow533 := ow0494.gr0 g513
      have ow534 := ow1495.gr0 g513
      have ow535 := ow2496.gr0 g513
      have ow536 := ow3497.gr0 g513
      have ow537 := ow4498.gr0 g513
      have ow538 := ow5499.gr0 g513
      have ow539 := ow6500.gr0 g513
      have ow540 := ow7501.gr0 g513
      have ow541 := ow8502.gr0 g513
      have ow542 := owD491.gr0 g513
      have ow543 : Ow H0 F511 H512 p514 ws515 := ⟨h517, nF518, n0531⟩
      obtain ⟨r544, hb545, hm⟩ := bnd hm
      refine ⟨(V.ref p_y_ends), rfl, (V.int y_size), rfl, F511, p_y_ends, ws_y_ends, y_ends, y_size, r544, rfl, g532.fh, (g532.seq nm_y_ends hS_y_ends), hl_y_ends, (hA_y_ends.up (Same.trans g10.ff (Same.trans sm77 (Same.trans sm146 (Same.trans g208.ff (Same.trans sm333 (Same.trans sm490 g513.ff))))))), id, hb545, fun p549 ws550 F546 H547 g548 np551 h552 nF553 hl554 hA555 => ?_⟩
      have ne556 := ow533.ne np551
      have ne557 := ow534.ne np551
      have ne558 := ow535.ne np551
      have ne559 := ow536.ne np551
      have ne560 := ow537.ne np551
      have ne561 := ow538.ne np551
      have ne562 := ow539.ne np551
      have ne563 := ow540.ne np551
      have ne564 := ow541.ne np551
      have ne565 := ow542.ne np551
      have ne566 := ow543.ne np551
      have n0567 := g532.none0 np551
      have g568 := Gr.trans g532 g548
      have ow569 := ow533.gr0 g548
      have ow570 := ow534.gr0 g548
      have ow571 := ow535.gr0 g548
      have ow572 := ow536.gr0 g548
      have ow573 := ow537.gr0 g548
      have ow574 := ow538.gr0 g548
      have ow575 := ow539.gr0 g548
      have ow576 := ow540.gr0 g548
      have ow577 := ow541.gr0 g548
      have ow578 := ow542.gr0 g548
      have ow579 := ow543.gr0 g548
      have ow580 : Ow H0 F546 H547 p549 ws550 := ⟨h552, nF553, n0567⟩
      refine ⟨p549, rfl, ⟨_, ow580.sq⟩, fun D581 nD582 => ?_⟩
      have ne583 := ow569.ne nD582
      have ne584 := ow570.ne nD582
      have ne585 := ow571.ne nD582
      have ne586 := ow572.ne nD582
      have ne587 := ow573.ne nD582
      have ne588 := ow574.ne nD582
      have ne589 := ow575.ne nD582
      have ne590 := ow576.ne nD582
      have ne591 := ow577.ne nD582
      have ne592 := ow578.ne nD582
      have ne593 := ow579.ne nD582
      have ne594 := ow580.ne nD582
      have g595 := g568.own (o := (.lst [])) nD582
      have ow596 := ow569.own (o := (.lst [])) nD582
      have ow597 := ow570.own (o := (.lst [])) nD582
      have ow598 := ow571.own (o := (.lst [])) nD582
      have ow599 := ow572.own (o := (.lst [])) nD582
      have ow600 := ow573.own (o := (.lst [])) nD582
      have ow601 := ow574.own (o := (.lst [])) nD582
      have ow602 := ow575.own (o := (.lst [])) nD582
      have ow603 := ow576.own (o := (.lst [])) nD582
      have ow604 := ow577.own (o := (.lst [])) nD582
      have ow605 := ow578.own (o := (.lst [])) nD582
      have ow606 := ow579.own (o := (.lst [])) nD582
      have ow607 := ow580.own (o := (.lst [])) nD582
      have ow608 : Ow H0 F546 (upd H547 D581 (.lst [])) D581 [] := Ow.new g568 nD582
      obtain ⟨l609, hb610, hm⟩ := bnd hm
      refine lc_list (K := K) (a := p549) (xs := ws550) (fun i H' => ∃ (F' : Hp) (acc : List V) (ds : List Str) (rest : List Str), Gr M0 H0 H0 F' H' ∧ Same F546 F' ∧ Ow H0 F' H' D581 acc ∧ RL K F' acc ds ∧ acc.length ≤ i ∧ Ow H0 F' H' p11 ws12 ∧ Ow H0 F' H' D21 acc73 ∧ Ow H0 F' H' D85 acc142 ∧ Ow H0 F' H' p158 (acc73 ++ acc142) ∧ Ow H0 F' H' p171 [(V.str ("0*" : Str))] ∧ Ow H0 F' H' p187 ((acc73 ++ acc142) ++ [(V.str ("0*" : Str))]) ∧ Ow H0 F' H' p209 ws210 ∧ Ow H0 F' H' D231 acc329 ∧ Ow H0 F' H' p349 (ws12 ++ acc329) ∧ Ow H0 F' H' D374 acc486 ∧ Ow H0 F' H' p514 ws515 ∧ Ow H0 F' H' p549 ws550 ∧ m_l_ahead_right_c5  (r544.drop i) = some rest ∧ ds ++ rest = l609) ?_ ?_ ?_ ?_
      · exact ⟨F546, [], [], l609, g595, Same.refl _, ow608, RpA.nil, Nat.le_refl _, ow596, ow597, ow598, ow599, ow600, ow601, ow602, ow603, ow604, ow605, ow606, ow607, hb610, rfl⟩
      · intro i H' _ hP
        obtain ⟨F611, acc612, ds613, rest614, g0615, sm616, owD617, hA618, hi619, ow0620, ow1621, ow2622, ow3623, ow4624, ow5625, ow6626, ow7627, ow8628, ow9629, ow10630, ow11631, hm632, hr633⟩ := hP
        exact ow11631.sq
      · intro i635 xv634 H637 hx636 hP
        obtain ⟨F638, acc639, ds640, rest641, g0642, sm643, owD644, hA645, hi646, ow0647, ow1648, ow2649, ow3650, ow4651, ow5652, ow6653, ow7654, ow8655, ow9656, ow10657, ow11658, hm659, hr660⟩ := hP
        obtain ⟨e661, he662, r663⟩ := RL.get (hA555.up sm643) hx636
        obtain ⟨rfl, gs664⟩ := R.str_v r663
        rw [drop_at he662, m_l_ahead_right_c5.eq_2] at hm659
        refine ⟨rfl, (p_yes ?_)⟩
        obtain ⟨t665, hb666, hm659⟩ := bnd hm659
        obtain ⟨hk667, rfl⟩ := catS_ok hb666
        have hA668 : RL K F638 (acc639 ++ [(V.str (("1" : Str) ++ e661))]) (ds640 ++ [((("1" : Str) ++ e661) : Str)]) := RL.snoc hA645 (Rp.str (("1" : Str) ++ e661) (GS.cat ⟨by decide +kernel, by decide +kernel⟩ gs664 hb666))
        obtain ⟨rest669, h670, h671⟩ := bnd hm659
        obtain rfl := sjoin h671
        refine ⟨(V.str e661), rfl, _, _, rfl, rfl, hk667, acc639, owD644.h, (lt_line hi646 (List.getElem?_eq_some_iff.mp hx636).1 hl554), ?_⟩
        have g672 := g0642.put (o := (.lst (acc639 ++ [(V.str (("1" : Str) ++ e661))]))) owD644
        have ow673 := ow0647.other (o := (.lst (acc639 ++ [(V.str (("1" : Str) ++ e661))]))) ne583
        have ow674 := ow1648.other (o := (.lst (acc639 ++ [(V.str (("1" : Str) ++ e661))]))) ne584
        have ow675 := ow2649.other (o := (.lst (acc639 ++ [(V.str (("1" : Str) ++ e661))]))) ne585
        have ow676 := ow3650.other (o := (.lst (acc639 ++ [(V.str (("1" : Str) ++ e661))]))) ne586
        have ow677 := ow4651.other (o := (.lst (acc639 ++ [(V.str (("1" : Str) ++ e661))]))) ne587
        have ow678 := ow5652.other (o := (.lst (acc639 ++ [(V.str (("1" : Str) ++ e661))]))) ne588
        have ow679 := ow6653.other (o := (.lst (acc639 ++ [(V.str (("1" : Str) ++ e661))]))) ne589
        have ow680 := ow7654.other (o := (.lst (acc639 ++ [(V.str (("1" : Str) ++ e661))]))) ne590
        have ow681 := ow8655.other (o := (.lst (acc639 ++ [(V.str (("1" : Str) ++ e661))]))) ne591
        have ow682 := ow9656.other (o := (.lst (acc639 ++ [(V.str (("1" : Str) ++ e661))]))) ne592
        have ow683 := ow10657.other (o := (.lst (acc639 ++ [(V.str (("1" : Str) ++ e661))]))) ne593
        have ow684 := ow11658.other (o := (.lst (acc639 ++ [(V.str (("1" : Str) ++ e661))]))) ne594
        have ow685 := owD644.put (us := (acc639 ++ [(V.str (("1" : Str) ++ e661))]))
        exact ⟨F638, (acc639 ++ [(V.str (("1" : Str) ++ e661))]), (ds640 ++ [(("1" : Str) ++ e661)]), rest669, g672, sm643, ow685, hA668, (by rw [List.length_append]; exact Nat.succ_le_succ hi646), ow673, ow674, ow675, ow676, ow677, ow678, ow679, ow680, ow681, ow682, ow683, ow684, h670, (snoc_rest hr660)⟩
      intro H686 hP
      obtain ⟨F687, acc688, ds689, _rest, g0691, sm692, owD693, hA694, hi695, ow0696, ow1697, ow2698, ow3699, ow4700, ow5701, ow6702, ow7703, ow8704, ow9705, ow10706, ow11707, hm708, hr709⟩ := hP
      rw [drop_end (RL.len hA555)] at hm708
      rw [m_l_ahead_right_c5.eq_1] at hm708
      obtain rfl := sjoin hm708
      rw [List.append_nil] at hr709
      obtain rfl := hr709
      have hl710 : acc688.length ≤ sizeLine := Nat.le_trans hi695 hl554
      have rH711 : R K H686 (V.ref p514) r509 := (R.mkl ow10706.sq hl519 (RpA.up (hA520.up (Same.trans g548.ff sm692)) g0691.fh))
      have rH712 : R K H686 (V.ref D581) ds689 := (R.mkl owD693.sq hl710 (RpA.up hA694 g0691.fh))
      refine ⟨_, _, (Rp.dp _ _ rH711), (Rp.dp _ _ rH712), (R.shaped rH711), (R.shaped rH712), _, rfl, (iteB (fun hc => ?_) (fun hc => ?_))⟩
      · have hm := ifT hc hm
        refine p_ret ?_
        obtain rfl := sjoin hm
        exact (hQ _ _ g0691)
      · have hm := ifF hc hm
        refine p_next ?_
        refine p_nx ?_
        refine p_seq ?_
        refine p_asg ?_
        refine ⟨(V.ref p_y_some_here), rfl, p_y_some_here, rfl, ⟨_, (g0691.seq nm_y_some_here hS_y_some_here)⟩, fun D713 nD714 => ?_⟩
        have ne715 := ow0696.ne nD714
        have ne716 := ow1697.ne nD714
        have ne717 := ow2698.ne nD714
        have ne718 := ow3699.ne nD714
        have ne719 := ow4700.ne nD714
        have ne720 := ow5701.ne nD714
        have ne721 := ow6702.ne nD714
        have ne722 := ow7703.ne nD714
        have ne723 := ow8704.ne nD714
        have ne724 := ow9705.ne nD714
        have ne725 := ow10706.ne nD714
        have ne726 := ow11707.ne nD714
        have ne727 := owD693.ne nD714
        have g728 := g0691.own (o := (.lst [])) nD714
        have ow729 := ow0696.own (o := (.lst [])) nD714
        have ow730 := ow1697.own (o := (.lst [])) nD714
        have ow731 := ow2698.own (o := (.lst [])) nD714
        have ow732 := ow3699.own (o := (.lst [])) nD714
        have ow733 := ow4700.own (o := (.lst [])) nD714
        have ow734 := ow5701.own (o := (.lst [])) nD714
        have ow735 := ow6702.own (o := (.lst [])) nD714
        have ow736 := ow7703.own (o := (.lst [])) nD714
        have ow737 := ow8704.own (o := (.lst [])) nD714
        have ow738 := ow9705.own (o := (.lst [])) nD714
        have ow739 := ow10706.own (o := (.lst [])) nD714
        have ow740 := ow11707.own (o := (.lst [])) nD714
        have ow741 := owD693.own (o := (.lst [])) nD714
        have ow742 : Ow H0 F687 (upd H686 D713 (.lst [])) D713 [] := Ow.new g0691 nD714
        obtain ⟨l743, hb744, hm⟩ := bnd hm
        refine lc_list (K := K) (a := p_y_some_here) (xs := ws_y_some_here) (fun i H' => ∃ (F' : Hp) (acc : List V) (ds : List (Int × Int)) (rest : List (Int × Int)), Gr M0 H0 H0 F' H' ∧ Same F687 F' ∧ Ow H0 F' H' D713 acc ∧ RL K F' acc ds ∧ acc.length ≤ i ∧ Ow H0 F' H' p11 ws12 ∧ Ow H0 F' H' D21 acc73 ∧ Ow H0 F' H' D85 acc142 ∧ Ow H0 F' H' p158 (acc73 ++ acc142) ∧ Ow H0 F' H' p171 [(V.str ("0*" : Str))] ∧ Ow H0 F' H' p187 ((acc73 ++ acc142) ++ [(V.str ("0*" : Str))]) ∧ Ow H0 F' H' p209 ws210 ∧ Ow H0 F' H' D231 acc329 ∧ Ow H0 F' H' p349 (ws12 ++ acc329) ∧ Ow H0 F' H' D374 acc486 ∧ Ow H0 F' H' p514 ws515 ∧ Ow H0 F' H' p549 ws550 ∧ Ow H0 F' H' D581 acc688 ∧ m_l_ahead_right_c6 y_size (y_some_here.drop i) = some rest ∧ ds ++ rest = l743) ?_ ?_ ?_ ?_
        · exact ⟨F687, [], [], l743, g728, Same.refl _, ow742, RpA.nil, Nat.le_refl _, ow729, ow730, ow731, ow732, ow733, ow734, ow735, ow736, ow737, ow738, ow739, ow740, ow741, hb744, rfl⟩
        · intro i H' _ hP
          obtain ⟨F745, acc746, ds747, rest748, g0749, sm750, owD751, hA752, hi753, ow0754, ow1755, ow2756, ow3757, ow4758, ow5759, ow6760, ow7761, ow8762, ow9763, ow10764, ow11765, ow12766, hm767, hr768⟩ := hP
          exact (g0749.seq nm_y_some_here hS_y_some_here)
        · intro i770 xv769 H772 hx771 hP
          obtain ⟨F773, acc774, ds775, rest776, g0777, sm778, owD779, hA780, hi781, ow0782, ow1783, ow2784, ow3785, ow4786, ow5787, ow6788, ow7789, ow8790, ow9791, ow10792, ow11793, ow12794, hm795, hr796⟩ := hP
          obtain ⟨e797, he798, r799⟩ := RL.get (hA_y_some_here.up (Same.trans g10.ff (Same.trans sm77 (Same.trans sm146 (Same.trans g208.ff (Same.trans sm333 (Same.trans sm490 (Same.trans g513.ff (Same.trans g548.ff (Same.trans sm692 sm778)))))))))) hx771
          obtain ⟨rfl, gs800⟩ := R.str_v r799
          rw [drop_at he798, m_l_ahead_right_c6.eq_2] at hm795
          refine ⟨rfl, (p_yes ?_)⟩
          obtain ⟨r801, hb802, hm795⟩ := bnd hm795
          refine ⟨(V.str e797), rfl, (V.int y_size), rfl, F773, e797, y_size, r801, rfl, g0777.fh, gs800, hb802, fun v806 F803 H804 g805 r807 => ?_⟩
          have g808 := Gr.trans g0777 g805
          have ow809 := ow0782.gr0 g805
          have ow810 := ow1783.gr0 g805
          have ow811 := ow2784.gr0 g805
          have ow812 := ow3785.gr0 g805
          have ow813 := ow4786.gr0 g805
          have ow814 := ow5787.gr0 g805
          have ow815 := ow6788.gr0 g805
          have ow816 := ow7789.gr0 g805
          have ow817 := ow8790.gr0 g805
          have ow818 := ow9791.gr0 g805
          have ow819 := ow10792.gr0 g805
          have ow820 := ow11793.gr0 g805
          have ow821 := ow12794.gr0 g805
          have ow822 := owD779.gr0 g805
          have hA823 : RL K F803 (acc774 ++ [v806]) (ds775 ++ [(r801 : (Int × Int))]) := RL.snoc (hA780.up g805.ff) r807
          obtain ⟨rest824, h825, h826⟩ := bnd hm795
          obtain rfl := sjoin h826
          refine ⟨acc774, ow822.h, (lt_line hi781 (List.getElem?_eq_some_iff.mp hx771).1 hl_y_some_here), ?_⟩
          have g827 := g808.put (o := (.lst (acc774 ++ [v806]))) ow822
          have ow828 := ow809.other (o := (.lst (acc774 ++ [v806]))) ne715
          have ow829 := ow810.other (o := (.lst (acc774 ++ [v806]))) ne716
          have ow830 := ow811.other (o := (.lst (acc774 ++ [v806]))) ne717
          have ow831 := ow812.other (o := (.lst (acc774 ++ [v806]))) ne718
          have ow832 := ow813.other (o := (.lst (acc774 ++ [v806]))) ne719
          have ow833 := ow814.other (o := (.lst (acc774 ++ [v806]))) ne720
          have ow834 := ow815.other (o := (.lst (acc774 ++ [v806]))) ne721
          have ow835 := ow816.other (o := (.lst (acc774 ++ [v806]))) ne722
          have ow836 := ow817.other (o := (.lst (acc774 ++ [v806]))) ne723
          have ow837 := ow818.other (o := (.lst (acc774 ++ [v806]))) ne724
          have ow838 := ow819.other (o := (.lst (acc774 ++ [v806]))) ne725
          have ow839 := ow820.other (o := (.lst (acc774 ++ [v806]))) ne726
          have ow840 := ow821.other (o := (.lst (acc774 ++ [v806]))) ne727
          have ow841 := ow822.put (us := (acc774 ++ [v806]))
          exact ⟨F803, (acc774 ++ [v806]), (ds775 ++ [r801]), rest824, g827, (Same.trans sm778 g805.ff), ow841, hA823, (by rw [List.length_append]; exact Nat.succ_le_succ hi781), ow828, ow829, ow830, ow831, ow832, ow833, ow834, ow835, ow836, ow837, ow838, ow839, ow840, h825, (snoc_rest hr796)⟩
        intro H842 hP
        obtain ⟨F843, acc844, ds845, _rest, g0847, sm848, owD849, hA850, hi851, ow0852, ow1853, ow2854, ow3855, ow4856, ow5857, ow6858, ow7859, ow8860, ow9861, ow10862, ow11863, ow12864, hm865, hr866⟩ := hP
        rw [drop_end (RL.len (hA_y_some_here.up (Same.trans g10.ff (Same.trans sm77 (Same.trans sm146 (Same.trans g208.ff (Same.trans sm333 (Same.trans sm490 (Same.trans g513.ff (Same.trans g548.ff sm692))))))))))] at hm865
        rw [m_l_ahead_right_c6.eq_1] at hm865
        obtain rfl := sjoin hm865
        rw [List.append_nil] at hr866
        obtain rfl := hr866
        have hl867 : acc844.length ≤ sizeLine := Nat.le_trans hi851 hl_y_some_here
        refine ⟨D713, rfl, ⟨_, owD849.sq⟩, fun D868 nD869 => ?_⟩
        have ne870 := ow0852.ne nD869
        have ne871 := ow1853.ne nD869
        have ne872 := ow2854.ne nD869
        have ne873 := ow3855.ne nD869
        have ne874 := ow4856.ne nD869
        have ne875 := ow5857.ne nD869
        have ne876 := ow6858.ne nD869
        have ne877 := ow7859.ne nD869
        have ne878 := ow8860.ne nD869
        have ne879 := ow9861.ne nD869
        have ne880 := ow10862.ne nD869
        have ne881 := ow11863.ne nD869
        have ne882 := ow12864.ne nD869
        have ne883 := owD849.ne nD869
        have g884 := g0847.own (o := (.lst [])) nD869
        have ow885 := ow0852.own (o := (.lst [])) nD869
        have ow886 := ow1853.own (o := (.lst [])) nD869
        have ow887 := ow2854.own (o := (.lst [])) nD869
        have ow888 := ow3855.own (o := (.lst [])) nD869
        have ow889 := ow4856.own (o := (.lst [])) nD869
        have ow890 := ow5857.own (o := (.lst [])) nD869
        have ow891 := ow6858.own (o := (.lst [])) nD869
        have ow892 := ow7859.own (o := (.lst [])) nD869
        have ow893 := ow8860.own (o := (.lst [])) nD869
        have ow894 := ow9861.own (o := (.lst [])) nD869
        have ow895 := ow10862.own (o := (.lst [])) nD869
        have ow896 := ow11863.own (o := (.lst [])) nD869
        have ow897 := ow12864.own (o := (.lst [])) nD869
        have ow898 := owD849.own (o := (.lst [])) nD869
        have ow899 : Ow H0 F843 (upd H842 D868 (.lst [])) D868 [] := Ow.new g0847 nD869
        refine lc_list (K := K) (a := D713) (xs := acc844) (fun i H' => ∃ (F' : Hp) (acc : List V) (ds : List (Int × Int)), Gr M0 H0 H0 F' H' ∧ Same F843 F' ∧ Ow H0 F' H' D868 acc ∧ RL K F' acc ds ∧ acc.length ≤ i ∧ Ow H0 F' H' p11 ws12 ∧ Ow H0 F' H' D21 acc73 ∧ Ow H0 F' H' D85 acc142 ∧ Ow H0 F' H' p158 (acc73 ++ acc142) ∧ Ow H0 F' H' p171 [(V.str ("0*" : Str))] ∧ Ow H0 F' H' p187 ((acc73 ++ acc142) ++ [(V.str ("0*" : Str))]) ∧ Ow H0 F' H' p209 ws210 ∧ Ow H0 F' H' D231 acc329 ∧ Ow H0 F' H' p349 (ws12 ++ acc329) ∧ Ow H0 F' H' D374 acc486 ∧ Ow H0 F' H' p514 ws515 ∧ Ow H0 F' H' p549 ws550 ∧ Ow H0 F' H' D581 acc688 ∧ Ow H0 F' H' D713 acc844 ∧ ds ++ m_l_ahead_right_c7 y_half4 (ds845.drop i) = (m_l_ahead_right_c7 y_half4 ds845)) ?_ ?_ ?_ ?_
        · exact ⟨F843, [], [], g884, Same.refl _, ow899, RpA.nil, Nat.le_refl _, ow885, ow886, ow887, ow888, ow889, ow890, ow891, ow892, ow893, ow894, ow895, ow896, ow897, ow898, rfl⟩
        · intro i H' _ hP
          obtain ⟨F901, acc902, ds903, g0904, sm905, owD906, hA907, hi908, ow0909, ow1910, ow2911, ow3912, ow4913, ow5914, ow6915, ow7916, ow8917, ow9918, ow10919, ow11920, ow12921, ow13922, hr923⟩ := hP
          exact ow13922.sq
        · intro i925 xv924 H927 hx926 hP
          obtain ⟨F928, acc929, ds930, g0931, sm932, owD933, hA934, hi935, ow0936, ow1937, ow2938, ow3939, ow4940, ow5941, ow6942, ow7943, ow8944, ow9945, ow10946, ow11947, ow12948, ow13949, hr950⟩ := hP
          obtain ⟨e951, he952, r953⟩ := RL.get (hA850.up sm932) hx926
          rw [drop_at he952, m_l_ahead_right_c7.eq_2] at hr950
          obtain ⟨p954, v957, v958, ev955, hS956, r959, r960⟩ := R.p2_v r953
          obtain rfl := R.int_v r959
          obtain rfl := R.int_v r960
          refine ⟨p954, [(V.int e951.1), (V.int e951.2)], ev955, (SqT_mono g0931.fh hS956), rfl, (V.int e951.1), [(V.int e951.2)], rfl, (V.int e951.2), [], rfl, rfl, rfl, (p_yes ?_)⟩
          refine ⟨(V.int e951.1), rfl, (V.int y_half4), rfl, _, _, rfl, rfl, (V.int e951.2), rfl, (V.int y_half4), rfl, _, _, rfl, rfl, (by show 2 ≤ sizeLine; decide), fun p961 np962 => ?_⟩
          have ne963 := ow0936.ne np962
          have ne964 := ow1937.ne np962
          have ne965 := ow2938.ne np962
          have ne966 := ow3939.ne np962
          have ne967 := ow4940.ne np962
          have ne968 := ow5941.ne np962
          have ne969 := ow6942.ne np962
          have ne970 := ow7943.ne np962
          have ne971 := ow8944.ne np962
          have ne972 := ow9945.ne np962
          have ne973 := ow10946.ne np962
          have ne974 := ow11947.ne np962
          have ne975 := ow12948.ne np962
          have ne976 := ow13949.ne np962
          have ne977 := owD933.ne np962
          have sm978 := same_new (o := (.tup [(V.int (e951.1 + y_half4)), (V.int (e951.2 + y_half4))])) (g0931.noneF np962)
          have g979 := g0931.frz (o := (.tup [(V.int (e951.1 + y_half4)), (V.int (e951.2 + y_half4))])) np962
          have ow980 := ow0936.frz (o := (.tup [(V.int (e951.1 + y_half4)), (V.int (e951.2 + y_half4))])) np962
          have ow981 := ow1937.frz (o := (.tup [(V.int (e951.1 + y_half4)), (V.int (e951.2 + y_half4))])) np962
          have ow982 := ow2938.frz (o := (.tup [(V.int (e951.1 + y_half4)), (V.int (e951.2 + y_half4))])) np962
          have ow983 := ow3939.frz (o := (.tup [(V.int (e951.1 + y_half4)), (V.int (e951.2 + y_half4))])) np962
          have ow984 := ow4940.frz (o := (.tup [(V.int (e951.1 + y_half4)), (V.int (e951.2 + y_half4))])) np962
          have ow985 := ow5941.frz (o := (.tup [(V.int (e951.1 + y_half4)), (V.int (e951.2 + y_half4))])) np962
          have ow986 := ow6942.frz (o := (.tup [(V.int (e951.1 + y_half4)), (V.int (e951.2 + y_half4))])) np962
          have ow987 := ow7943.frz (o := (.tup [(V.int (e951.1 + y_half4)), (V.int (e951.2 + y_half4))])) np962
          have ow988 := ow8944.frz (o := (.tup [(V.int (e951.1 + y_half4)), (V.int (e951.2 + y_half4))])) np962
          have ow989 := ow9945.frz (o := (.tup [(V.int (e951.1 + y_half4)), (V.int (e951.2 + y_half4))])) np962
          have ow990 := ow10946.frz (o := (.tup [(V.int (e951.1 + y_half4)), (V.int (e951.2 + y_half4))])) np962
          have ow991 := ow11947.frz (o := (.tup [(V.int (e951.1 + y_half4)), (V.int (e951.2 + y_half4))])) np962
          have ow992 := ow12948.frz (o := (.tup [(V.int (e951.1 + y_half4)), (V.int (e951.2 + y_half4))])) np962
          have ow993 := ow13949.frz (o := (.tup [(V.int (e951.1 + y_half4)), (V.int (e951.2 + y_half4))])) np962
          have ow994 := owD933.frz (o := (.tup [(V.int (e951.1 + y_half4)), (V.int (e951.2 + y_half4))])) np962
          have r995 : R K (upd F928 p961 (.tup [(V.int (e951.1 + y_half4)), (V.int (e951.2 + y_half4))])) (.ref p961) (((e951.1 + y_half4), (e951.2 + y_half4)) : (Int × Int)) := R.mk2 fzT (Rp.int (e951.1 + y_half4)) (Rp.int (e951.2 + y_half4))
          have hA996 : RL K (upd F928 p961 (.tup [(V.int (e951.1 + y_half4)), (V.int (e951.2 + y_half4))])) (acc929 ++ [(V.ref p961)]) (ds930 ++ [(((e951.1 + y_half4), (e951.2 + y_half4)) : (Int × Int))]) := RL.snoc (hA934.up sm978) r995
          refine ⟨acc929, ow994.h, (lt_line hi935 (List.getElem?_eq_some_iff.mp hx926).1 hl867), ?_⟩
          have g997 := g979.put (o := (.lst (acc929 ++ [(V.ref p961)]))) ow994
          have ow998 := ow980.other (o := (.lst (acc929 ++ [(V.ref p961)]))) ne870
          have ow999 := ow981.other (o := (.lst (acc929 ++ [(V.ref p961)]))) ne871
          have ow1000 := ow982.other (o := (.lst (acc929 ++ [(V.ref p961)]))) ne872
          have ow1001 := ow983.other (o := (.lst (acc929 ++ [(V.ref p961)]))) ne873
          have ow1002 := ow984.other (o := (.lst (acc929 ++ [(V.ref p961)]))) ne874
          have ow1003 := ow985.other (o := (.lst (acc929 ++ [(V.ref p961)]))) ne875
          have ow1004 := ow986.other (o := (.lst (acc929 ++ [(V.ref p961)]))) ne876
          have ow1005 := ow987.other (o := (.lst (acc929 ++ [(V.ref p961)]))) ne877
          have ow1006 := ow988.other (o := (.lst (acc929 ++ [(V.ref p961)]))) ne878
          have ow1007 := ow989.other (o := (.lst (acc929 ++ [(V.ref p961)]))) ne879
          have ow1008 := ow990.other (o := (.lst (acc929 ++ [(V.ref p961)]))) ne880
          have ow1009 := ow991.other (o := (.lst (acc929 ++ [(V.ref p961)]))) ne881
          have ow1010 := ow992.other (o := (.lst (acc929 ++ [(V.ref p961)]))) ne882
          have ow1011 := ow993.other (o := (.lst (acc929 ++ [(V.ref p961)]))) ne883
          have ow1012 := ow994.put (us := (acc929 ++ [(V.ref p961)]))
          exact ⟨(upd F928 p961 (.tup [(V.int (e951.1 + y_half4)), (V.int (e951.2 + y_half4))])), (acc929 ++ [(V.ref p961)]), (ds930 ++ [((e951.1 + y_half4), (e951.2 + y_half4))]), g997, (Same.trans sm932 sm978), ow1012, hA996, (by rw [List.length_append]; exact Nat.succ_le_succ hi935), ow998, ow999, ow1000, ow1001, ow1002, ow1003, ow1004, ow1005, ow1006, ow1007, ow1008, ow1009, ow1010, ow1011, (snoc_rest hr950)⟩
        intro H1013 hP
        obtain ⟨F1014, acc1015, ds1016, g01018, sm1019, owD1020, hA1021, hi1022, ow01023, ow11024, ow21025, ow31026, ow41027, ow51028, ow61029, ow71030, ow81031, ow91032, ow101033, ow111034, ow121035, ow131036, hr1037⟩ := hP
        rw [drop_end (RL.len hA850)] at hr1037
        rw [m_l_ahead_right_c7.eq_1, List.append_nil] at hr1037
        obtain rfl := hr1037
        have hl1038 : acc1015.length ≤ sizeLine := Nat.le_trans hi1022 hl867
        obtain ⟨y_due1039, hb1040, hm⟩ := bnd hm
        have hx1041 : (m_l_ahead_right_c7 y_half4 ds845) = y_due1039 := sjoin hb1040
        have hA1042 : RL K F1014 acc1015 y_due1039 := RL.re hx1041 hA1021
        refine p_name ?_
        refine p_nx ?_
        refine p_ret ?_
        refine ⟨(V.ref p_y_some_here), rfl, p_y_some_here, rfl, ⟨_, (g01018.seq nm_y_some_here hS_y_some_here)⟩, fun D1043 nD1044 => ?_⟩
        have ne1045 := ow01023.ne nD1044
        have ne1046 := ow11024.ne nD1044
        have ne1047 := ow21025.ne nD1044
        have ne1048 := ow31026.ne nD1044
        have ne1049 := ow41027.ne nD1044
        have ne1050 := ow51028.ne nD1044
        have ne1051 := ow61029.ne nD1044
        have ne1052 := ow71030.ne nD1044
        have ne1053 := ow81031.ne nD1044
        have ne1054 := ow91032.ne nD1044
        have ne1055 := ow101033.ne nD1044
        have ne1056 := ow111034.ne nD1044
        have ne1057 := ow121035.ne nD1044
        have ne1058 := ow131036.ne nD1044
        have ne1059 := owD1020.ne nD1044
        have g1060 := g01018.own (o := (.lst [])) nD1044
        have ow1061 := ow01023.own (o := (.lst [])) nD1044
        have ow1062 := ow11024.own (o := (.lst [])) nD1044
        have ow1063 := ow21025.own (o := (.lst [])) nD1044
        have ow1064 := ow31026.own (o := (.lst [])) nD1044
        have ow1065 := ow41027.own (o := (.lst [])) nD1044
        have ow1066 := ow51028.own (o := (.lst [])) nD1044
        have ow1067 := ow61029.own (o := (.lst [])) nD1044
        have ow1068 := ow71030.own (o := (.lst [])) nD1044
        have ow1069 := ow81031.own (o := (.lst [])) nD1044
        have ow1070 := ow91032.own (o := (.lst [])) nD1044
        have ow1071 := ow101033.own (o := (.lst [])) nD1044
        have ow1072 := ow111034.own (o := (.lst [])) nD1044
        have ow1073 := ow121035.own (o := (.lst [])) nD1044
        have ow1074 := ow131036.own (o := (.lst [])) nD1044
        have ow1075 := owD1020.own (o := (.lst [])) nD1044
        have ow1076 : Ow H0 F1014 (upd H1013 D1043 (.lst [])) D1043 [] := Ow.new g01018 nD1044
        obtain ⟨l1077, hb1078, hm⟩ := bnd hm
        refine lc_list (K := K) (a := p_y_some_here) (xs := ws_y_some_here) (fun i H' => ∃ (F' : Hp) (acc : List V) (ds : List (Int × Int)) (rest : List (Int × Int)), Gr M0 H0 H0 F' H' ∧ Same F1014 F' ∧ Ow H0 F' H' D1043 acc ∧ RL K F' acc ds ∧ acc.length ≤ i ∧ Ow H0 F' H' p11 ws12 ∧ Ow H0 F' H' D21 acc73 ∧ Ow H0 F' H' D85 acc142 ∧ Ow H0 F' H' p158 (acc73 ++ acc142) ∧ Ow H0 F' H' p171 [(V.str ("0*" : Str))] ∧ Ow H0 F' H' p187 ((acc73 ++ acc142) ++ [(V.str ("0*" : Str))]) ∧ Ow H0 F' H' p209 ws210 ∧ Ow H0 F' H' D231 acc329 ∧ Ow H0 F' H' p349 (ws12 ++ acc329) ∧ Ow H0 F' H' D374 acc486 ∧ Ow H0 F' H' p514 ws515 ∧ Ow H0 F' H' p549 ws550 ∧ Ow H0 F' H' D581 acc688 ∧ Ow H0 F' H' D713 acc844 ∧ Ow H0 F' H' D868 acc1015 ∧ m_l_ahead_right_c8 y_size (y_some_here.drop i) = some rest ∧ ds ++ rest = l1077) ?_ ?_ ?_ ?_
        · exact ⟨F1014, [], [], l1077, g1060, Same.refl _, ow1076, RpA.nil, Nat.le_refl _, ow1061, ow1062, ow1063, ow1064, ow1065, ow1066, ow1067, ow1068, ow1069, ow1070, ow1071, ow1072, ow1073, ow1074, ow1075, hb1078, rfl⟩
        · intro i H' _ hP
          obtain ⟨F1079, acc1080, ds1081, rest1082, g01083, sm1084, owD1085, hA1086, hi1087, ow01088, ow11089, ow21090, ow31091, ow41092, ow51093, ow61094, ow71095, ow81096, ow91097, ow101098, ow111099, ow121100, ow131101, ow141102, hm1103, hr1104⟩ := hP
          exact (g01083.seq nm_y_some_here hS_y_some_here)
        · intro i1106 xv1105 H1108 hx1107 hP
          obtain ⟨F1109, acc1110, ds1111, rest1112, g01113, sm1114, owD1115, hA1116, hi1117, ow01118, ow11119, ow21120, ow31121, ow41122, ow51123, ow61124, ow71125, ow81126, ow91127, ow101128, ow111129, ow121130, ow131131, ow141132, hm1133, hr1134⟩ := hP
          obtain ⟨e1135, he1136, r1137⟩ := RL.get (hA_y_some_here.up (Same.trans g10.ff (Same.trans sm77 (Same.trans sm146 (Same.trans g208.ff (Same.trans sm333 (Same.trans sm490 (Same.trans g513.ff (Same.trans g548.ff (Same.trans sm692 (Same.trans sm848 (Same.trans sm1019 sm1114)))))))))))) hx1107
          obtain ⟨rfl, gs1138⟩ := R.str_v r1137
          rw [drop_at he1136, m_l_ahead_right_c8.eq_2] at hm1133
          refine ⟨rfl, (p_yes ?_)⟩
          obtain ⟨t1139, hb1140, hm1133⟩ := bnd hm1133
          obtain ⟨hk1141, rfl⟩ := catS_ok hb1140
          obtain ⟨r1142, hb1143, hm1133⟩ := bnd hm1133
          refine ⟨(V.str e1135), rfl, _, _, rfl, rfl, hk1141, (V.int y_size), rfl, _, _, rfl, rfl, F1109, (("1" : Str) ++ e1135), (y_size + (1 : Int)), r1142, rfl, g01113.fh, (GS.cat ⟨by decide +kernel, by decide +kernel⟩ gs1138 hb1140), hb1143, fun v1147 F1144 H1145 g1146 r1148 => ?_⟩
          have g1149 := Gr.trans g01113 g1146
          have ow1150 := ow01118.gr0 g1146
          have ow1151 := ow11119.gr0 g1146
          have ow1152 := ow21120.gr0 g1146
          have ow1153 := ow31121.gr0 g1146
          have ow1154 := ow41122.gr0 g1146
          have ow1155 := ow51123.gr0 g1146
          have ow1156 := ow61124.gr0 g1146
          have ow1157 := ow71125.gr0 g1146
          have ow1158 := ow81126.gr0 g1146
          have ow1159 := ow91127.gr0 g1146
          have ow1160 := ow101128.gr0 g1146
          have ow1161 := ow111129.gr0 g1146
          have ow1162 := ow121130.gr0 g1146
          have ow1163 := ow131131.gr0 g1146
          have ow1164 := ow141132.gr0 g1146
          have ow1165 := owD1115.gr0 g1146
          have hA1166 : RL K F1144 (acc1110 ++ [v1147]) (ds1111 ++ [(r1142 : (Int × Int))]) := RL.snoc (hA1116.up g1146.ff) r1148
          obtain ⟨rest1167, h1168, h1169⟩ := bnd hm1133
          obtain rfl := sjoin h1169
          refine ⟨acc1110, ow1165.h, (lt_line hi1117 (List.getElem?_eq_some_iff.mp hx1107).1 hl_y_some_here), ?_⟩
          have g1170 := g1149.put (o := (.lst (acc1110 ++ [v1147]))) ow1165
          have ow1171 := ow1150.other (o := (.lst (acc1110 ++ [v1147]))) ne1045
          have ow1172 := ow1151.other (o := (.lst (acc1110 ++ [v1147]))) ne1046
          have ow1173 := ow1152.other (o := (.lst (acc1110 ++ [v1147]))) ne1047
          have ow1174 := ow1153.other (o := (.lst (acc1110 ++ [v1147]))) ne1048
          have ow1175 := ow1154.other (o := (.lst (acc1110 ++ [v1147]))) ne1049
          have ow1176 := ow1155.other (o := (.lst (acc1110 ++ [v1147]))) ne1050
          have ow1177 := ow1156.other (o := (.lst (acc1110 ++ [v1147]))) ne1051
          have ow1178 := ow1157.other (o := (.lst (acc1110 ++ [v1147]))) ne1052
          have ow1179 := ow1158.other (o := (.lst (acc1110 ++ [v1147]))) ne1053
          have ow1180 := ow1159.other (o := (.lst (acc1110 ++ [v1147]))) ne1054
          have ow1181 := ow1160.other (o := (.lst (acc1110 ++ [v1147]))) ne1055
          have ow1182 := ow1161.other (o := (.lst (acc1110 ++ [v1147]))) ne1056
          have ow1183 := ow1162.other (o := (.lst (acc1110 ++ [v1147]))) ne1057
          have ow1184 := ow1163.other (o := (.lst (acc1110 ++ [v1147]))) ne1058
          have ow1185 := ow1164.other (o := (.lst (acc1110 ++ [v1147]))) ne1059
          have ow1186 := ow1165.put (us := (acc1110 ++ [v1147]))
          exact ⟨F1144, (acc1110 ++ [v1147]), (ds1111 ++ [r1142]), rest1167, g1170, (Same.trans sm1114 g1146.ff), ow1186, hA1166, (by rw [List.length_append]; exact Nat.succ_le_succ hi1117), ow1171, ow1172, ow1173, ow1174, ow1175, ow1176, ow1177, ow1178, ow1179, ow1180, ow1181, ow1182, ow1183, ow1184, ow1185, h1168, (snoc_rest hr1134)⟩
        intro H1187 hP
        obtain ⟨F1188, acc1189, ds1190, _rest, g01192, sm1193, owD1194, hA1195, hi1196, ow01197, ow11198, ow21199, ow31200, ow41201, ow51202, ow61203, ow71204, ow81205, ow91206, ow101207, ow111208, ow121209, ow131210, ow141211, hm1212, hr1213⟩ := hP
        rw [drop_end (RL.len (hA_y_some_here.up (Same.trans g10.ff (Same.trans sm77 (Same.trans sm146 (Same.trans g208.ff (Same.trans sm333 (Same.trans sm490 (Same.trans g513.ff (Same.trans g548.ff (Same.trans sm692 (Same.trans sm848 sm1019))))))))))))] at hm1212
        rw [m_l_ahead_right_c8.eq_1] at hm1212
        obtain rfl := sjoin hm1212
        rw [List.append_nil] at hr1213
        obtain rfl := hr1213
        have hl1214 : acc1189.length ≤ sizeLine := Nat.le_trans hi1196 hl_y_some_here
        have rH1215 : R K H1187 (V.ref D1043) ds1190 := (R.mkl owD1194.sq hl1214 (RpA.up hA1195 g01192.fh))
        have rH1216 : R K H1187 (V.ref D868) y_due1039 := (R.mkl ow141211.sq hl1038 (RpA.up (hA1042.up sm1193) g01192.fh))
        obtain rfl := sjoin hm
        refine ⟨(V.ref D868), rfl, _, _, (Rp.dp _ _ rH1215), (Rp.dp _ _ rH1216), (R.shaped rH1215), (R.shaped rH1216), (hQ _ _ g01192)⟩
end K06
namespace K06
open PySem PySem.Spec PyProof.Rows L2 TL G
theorem ok_l_behind_right {P : Program} {w : World} {K : PySem.W.Frag} {mg : Str → Option Value} {base : Heap} (T : Txt K mg) : FnOk P w K mg base CX0 4 T.a_l_behind_right T.d_l_behind_right ["_law_some_here", "_law_ends", "_law_size"] (sp_l_behind_right K) := by
  have G_parts_of : FnOk P w K mg base CX0 3 T.a_parts_of T.d_parts_of ["patterns", "width"] (sp_parts_of K) := ok_parts_of T
  have b_parts_of := T.F_parts_of.bindsN (ps := ["patterns", "width"]) fun _ _ _ _ _ _ us hl => match us, hl with | [_, _], _ => rfl
  have G_cover : FnOk P w K mg base CX0 2 T.a_cover T.d_cover ["spans", "width"] (sp_cover K) := ok_cover T
  have b_cover := T.F_cover.bindsN (ps := ["spans", "width"]) fun _ _ _ _ _ _ us hl => match us, hl with | [_, _], _ => rfl
  refine fd_ok T.F_l_behind_right sc_l_behind_right (fun vs H Q E h => ?_) (fun cdv A outer s H0 vs Q E hr h => ?_)
  · obtain ⟨_, _, _, _, _, _, _, _, rfl, _⟩ := h
    rfl
  · obtain ⟨p_y_some_here, ws_y_some_here, y_some_here, p_y_ends, ws_y_ends, y_ends, y_size, r, rfl, hS_y_some_here, hl_y_some_here, hA_y_some_here, nm_y_some_here, hS_y_ends, hl_y_ends, hA_y_ends, nm_y_ends, hm, hQ⟩ := h
    refine ⟨_, (pss_cons (ps_setLc (i := 3) (own := [("_law_one_here", 5)]) rfl sc_l_behind_right.nd rfl rfl (sw_true rfl rfl rfl (by decide +kernel)) (pi_listK (K := K) (pv 0)) (blkOk_by (own := [("_law_one_here", 5)]) (N := N_l_behind_right) (sc := defScope s_l_behind_right) (by decide +kernel)) (fun _ _ _ _ _ => (pg_name (i := 5) sc_l_behind_right.nd rfl (Or.inl rfl) (.inr rfl))) (fun _ _ _ _ _ => pts_nil) (fun _ _ _ _ _ => (pe_ifExp (pt_cmpR op_eq (pe_slice sl_str (pv 5) (po_some (pe_un un_neg pe_int)) po_none) pe_str (nomark _)) (pv 5) (pe_op op_add_str (pv 5) pe_str)))) (pss_cons (ps_if (pt_cmpR (op_neDK (K := K) hr.units) (pe_call G_parts_of (hr.mono (by decide)) (by rfl) T.g_parts_of T.F_parts_of.kp b_parts_of .nil pass0 (pa_cons (pv 3) (pa_cons (pe_op op_add (pv 2) pe_int) pa_nil))) (pe_lc (own := [("_law_first", 6), ("_law_behind", 7)]) rfl sc_l_behind_right.nd (pi_listK (K := K) (pe_call G_parts_of (hr.mono (by decide)) (by rfl) T.g_parts_of T.F_parts_of.kp b_parts_of .nil pass0 (pa_cons (pv 0) (pa_cons (pv 2) pa_nil)))) (blkOk_by (own := [("_law_first", 6), ("_law_behind", 7)]) (N := N_l_behind_right) (sc := defScope s_l_behind_right) (by decide +kernel)) (fun _ _ _ _ _ => (pg_tupK (K := K) 2 rfl (pgs_cons (pg_name (i := 6) sc_l_behind_right.nd rfl (Or.inl rfl) (.inr rfl)) (pgs_cons (pg_name (i := 7) sc_l_behind_right.nd rfl (Or.inl rfl) (.inr rfl)) pgs_nil)))) (fun _ _ _ _ _ => pts_nil) (fun _ _ _ _ _ => (pe_tup (pa_cons (pe_op op_mul pe_int (pv 6)) (pa_cons (pe_op op_mul pe_int (pv 7)) pa_nil))))) (nomark _)) (pss_one (ps_ret pe_bl)) pss_nil) (pss_cons (ps_setLc (i := 4) (own := [("_law_one_here", 5)]) rfl sc_l_behind_right.nd rfl rfl (sw_true rfl rfl rfl (by decide +kernel)) (pi_listK (K := K) (pe_call G_cover (hr.mono (by decide)) (by rfl) T.g_cover T.F_cover.kp b_cover .nil pass0 (pa_cons (pv 1) (pa_cons (pv 2) pa_nil)))) (blkOk_by (own := [("_law_one_here", 5)]) (N := N_l_behind_right) (sc := defScope s_l_behind_right) (by decide +kernel)) (fun _ _ _ _ _ => (pg_name (i := 5) sc_l_behind_right.nd rfl (Or.inl rfl) (.inr rfl))) (fun _ _ _ _ _ => pts_nil) (fun _ _ _ _ _ => (pe_ifExp (pt_cmpR op_eq (pe_slice sl_str (pv 5) (po_some (pe_un un_neg pe_int)) po_none) pe_str (nomark _)) (pv 5) (pe_op op_add_str (pv 5) pe_str)))) (pss_one (ps_ret (pe_cmpR (op_eqDK (K := K) hr.units) (pe_call G_cover (hr.mono (by decide)) (by rfl) T.g_cover T.F_cover.kp b_cover .nil pass0 (pa_cons (pe_lc (own := [("_law_first", 6), ("_law_behind", 7)]) rfl sc_l_behind_right.nd (pi_listK (K := K) (pv 1)) (blkOk_by (own := [("_law_first", 6), ("_law_behind", 7)]) (N := N_l_behind_right) (sc := defScope s_l_behind_right) (by decide +kernel)) (fun _ _ _ _ _ => (pg_tupK (K := K) 2 rfl (pgs_cons (pg_name (i := 6) sc_l_behind_right.nd rfl (Or.inl rfl) (.inr rfl)) (pgs_cons (pg_name (i := 7) sc_l_behind_right.nd rfl (Or.inl rfl) (.inr rfl)) pgs_nil)))) (fun _ _ _ _ _ => pts_nil) (fun _ _ _ _ _ => (pe_tup (pa_cons (pe_op op_mul pe_int (pv 6)) (pa_cons (pe_op op_mul pe_int (pv 7)) pa_nil))))) (pa_cons (pe_op op_add (pv 2) pe_int) pa_nil))) (pv 4) (nomark _))))))), ?_⟩
    have g0 : Gr M0 H0 H0 H0 H0 := Gr.refl (Same.refl _)
    unfold m_l_behind_right at hm
    refine p_seq ?_
    refine p_asg ?_
    refine ⟨(V.ref p_y_some_here), rfl, p_y_some_here, rfl, ⟨_, (g0.seq nm_y_some_here hS_y_some_here)⟩, fun D1 nD2 => ?_⟩
    have g3 := g0.own (o := (.lst [])) nD2
    have ow4 : Ow H0 H0 (upd H0 D1 (.lst [])) D1 [] := Ow.new g0 nD2
    obtain ⟨l5, hb6, hm⟩ := bnd hm
    refine lc_list (K := K) (a := p_y_some_here) (xs := ws_y_some_here) (fun i H' => ∃ (F' : Hp) (acc : List V) (ds : List Str) (rest : List Str), Gr M0 H0 H0 F' H' ∧ Same H0 F' ∧ Ow H0 F' H' D1 acc ∧ RL K F' acc ds ∧ acc.length ≤ i ∧ m_l_behind_right_c1  (y_some_here.drop i) = some rest ∧ ds ++ rest = l5) ?_ ?_ ?_ ?_
    · exact ⟨H0, [], [], l5, g3, Same.refl _, ow4, RpA.nil, Nat.le_refl _, hb6, rfl⟩
    · intro i H' _ hP
      obtain ⟨F7, acc8, ds9, rest10, g011, sm12, owD13, hA14, hi15, hm16, hr17⟩ := hP
      exact (g011.seq nm_y_some_here hS_y_some_here)
    · intro i19 xv18 H21 hx20 hP
      obtain ⟨F22, acc23, ds24, rest25, g026, sm27, owD28, hA29, hi30, hm31, hr32⟩ := hP
      obtain ⟨e33, he34, r35⟩ := RL.get (hA_y_some_here.up sm27) hx20
      obtain ⟨rfl, gs36⟩ := R.str_v r35
      rw [drop_at he34, m_l_behind_right_c1.eq_2] at hm31
      refine ⟨rfl, (p_yes ?_)⟩
      refine ⟨(V.str e33), rfl, _, rfl, _, rfl, _, rfl, (gs36 : GS e33).len, rfl, _, rfl, ?_⟩
      obtain ⟨c37, hc39, hm31⟩ := bnd hm31
      refine ifJ (M := M0) (F := F22) (P := fun v' F' H' => v' = V.str (c37 : Str) ∧ GS (c37 : Str)) (fun ha => ?_) (fun ha => ?_) ?_
      · intro Q40 q41
        have hc39 := ifT ha hc39
        obtain rfl := sjoin hc39
        refine ⟨(V.str e33), rfl, (q41 _ _ _ (Gr.refl (M := M0) g026.fh) ⟨rfl, gs36⟩)⟩
      · intro Q42 q43
        have hc39 := ifF ha hc39
        obtain ⟨t44, hb45, hc39⟩ := bnd hc39
        obtain ⟨hk46, rfl⟩ := catS_ok hb45
        obtain rfl := sjoin hc39
        refine ⟨(V.str e33), rfl, _, _, rfl, rfl, hk46, (q43 _ _ _ (Gr.refl (M := M0) g026.fh) ⟨rfl, (GS.cat gs36 ⟨by decide +kernel, by decide +kernel⟩ hb45)⟩)⟩
      intro v50 F47 H48 g49 hp51
      obtain ⟨hp51, hp51g⟩ := hp51
      have g53 := Gr.trans g026 g49
      have ow54 := owD28.gr0 g49
      obtain rfl := hp51
      have hA55 : RL K F47 (acc23 ++ [(V.str c37)]) (ds24 ++ [(c37 : Str)]) := RL.snoc (hA29.up g49.ff) (Rp.str c37 hp51g)
      obtain ⟨rest56, h57, h58⟩ := bnd hm31
      obtain rfl := sjoin h58
      refine ⟨acc23, ow54.h, (lt_line hi30 (List.getElem?_eq_some_iff.mp hx20).1 hl_y_some_here), ?_⟩
      have g59 := g53.put (o := (.lst (acc23 ++ [(V.str c37)]))) ow54
      have ow60 := ow54.put (us := (acc23 ++ [(V.str c37)]))
      exact ⟨F47, (acc23 ++ [(V.str c37)]), (ds24 ++ [c37]), rest56, g59, (Same.trans sm27 g49.ff), ow60, hA55, (by rw [List.length_append]; exact Nat.succ_le_succ hi30), h57, (snoc_rest hr32)⟩
    intro H61 hP
    obtain ⟨F62, acc63, ds64, _rest, g066, sm67, owD68, hA69, hi70, hm71, hr72⟩ := hP
    rw [drop_end (RL.len hA_y_some_here)] at hm71
    rw [m_l_behind_right_c1.eq_1] at hm71
    obtain rfl := sjoin hm71
    rw [List.append_nil] at hr72
    obtain rfl := hr72
    have hl73 : acc63.length ≤ sizeLine := Nat.le_trans hi70 hl_y_some_here
    refine p_name ?_
    refine p_nx ?_
    refine p_seq ?_
    refine p_if ?_
    obtain ⟨r74, hb75, hm⟩ := bnd hm
    refine ⟨(V.ref D1), rfl, (V.int y_size), rfl, _, _, rfl, rfl, F62, D1, acc63, ds64, (y_size + (1 : Int)), r74, rfl, g066.fh, owD68.sq, hl73, hA69, id, hb75, fun p79 ws80 F76 H77 g78 np81 h82 nF83 hl84 hA85 => ?_⟩
    have ne86 := owD68.ne np81
    have n087 := g066.none0 np81
    have g88 := Gr.trans g066 g78
    have ow89 := owD68.gr0 g78
    have ow90 : Ow H0 F76 H77 p79 ws80 := ⟨h82, nF83, n087⟩
    obtain ⟨r91, hb92, hm⟩ := bnd hm
    refine ⟨(V.ref p_y_some_here), rfl, (V.int y_size), rfl, F76, p_y_some_here, ws_y_some_here, y_some_here, y_size, r91, rfl, g88.fh, (g88.seq nm_y_some_here hS_y_some_here), hl_y_some_here, (hA_y_some_here.up (Same.trans sm67 g78.ff)), id, hb92, fun p96 ws97 F93 H94 g95 np98 h99 nF100 hl101 hA102 => ?_⟩
    have ne103 := ow89.ne np98
    have ne104 := ow90.ne np98
    have n0105 := g88.none0 np98
    have g106 := Gr.trans g88 g95
    have ow107 := ow89.gr0 g95
    have ow108 := ow90.gr0 g95
    have ow109 : Ow H0 F93 H94 p96 ws97 := ⟨h99, nF100, n0105⟩
    refine ⟨p96, rfl, ⟨_, ow109.sq⟩, fun D110 nD111 => ?_⟩
    have ne112 := ow107.ne nD111
    have ne113 := ow108.ne nD111
    have ne114 := ow109.ne nD111
    have g115 := g106.own (o := (.lst [])) nD111
    have ow116 := ow107.own (o := (.lst [])) nD111
    have ow117 := ow108.own (o := (.lst [])) nD111
    have ow118 := ow109.own (o := (.lst [])) nD111
    have ow119 : Ow H0 F93 (upd H94 D110 (.lst [])) D110 [] := Ow.new g106 nD111
    refine lc_list (K := K) (a := p96) (xs := ws97) (fun i H' => ∃ (F' : Hp) (acc : List V) (ds : List (Int × Int)), Gr M0 H0 H0 F' H' ∧ Same F93 F' ∧ Ow H0 F' H' D110 acc ∧ RL K F' acc ds ∧ acc.length ≤ i ∧ Ow H0 F' H' D1 acc63 ∧ Ow H0 F' H' p79 ws80 ∧ Ow H0 F' H' p96 ws97 ∧ ds ++ m_l_behind_right_c2  (r91.drop i) = (m_l_behind_right_c2  r91)) ?_ ?_ ?_ ?_
    · exact ⟨F93, [], [], g115, Same.refl _, ow119, RpA.nil, Nat.le_refl _, ow116, ow117, ow118, rfl⟩
    · intro i H' _ hP
      obtain ⟨F121, acc122, ds123, g0124, sm125, owD126, hA127, hi128, ow0129, ow1130, ow2131, hr132⟩ := hP
      exact ow2131.sq
    · intro i134 xv133 H136 hx135 hP
      obtain ⟨F137, acc138, ds139, g0140, sm141, owD142, hA143, hi144, ow0145, ow1146, ow2147, hr148⟩ := hP
      obtain ⟨e149, he150, r151⟩ := RL.get (hA102.up sm141) hx135
      rw [drop_at he150, m_l_behind_right_c2.eq_2] at hr148
      obtain ⟨p152, v155, v156, ev153, hS154, r157, r158⟩ := R.p2_v r151
      obtain rfl := R.int_v r157
      obtain rfl := R.int_v r158
      refine ⟨p152, [(V.int e149.1), (V.int e149.2)], ev153, (SqT_mono g0140.fh hS154), rfl, (V.int e149.1), [(V.int e149.2)], rfl, (V.int e149.2), [], rfl, rfl, rfl, (p_yes ?_)⟩
      refine ⟨(V.int e149.1), rfl, _, _, rfl, rfl, (.inl ⟨by decide, by decide⟩), (V.int e149.2), rfl, _, _, rfl, rfl, (.inl ⟨by decide, by decide⟩), (by show 2 ≤ sizeLine; decide), fun p159 np160 => ?_⟩
      have ne161 := ow0145.ne np160
      have ne162 := ow1146.ne np160
      have ne163 := ow2147.ne np160
      have ne164 := owD142.ne np160
      have sm165 := same_new (o := (.tup [(V.int ((2 : Int) * e149.1)), (V.int ((2 : Int) * e149.2))])) (g0140.noneF np160)
      have g166 := g0140.frz (o := (.tup [(V.int ((2 : Int) * e149.1)), (V.int ((2 : Int) * e149.2))])) np160
      have ow167 := ow0145.frz (o := (.tup [(V.int ((2 : Int) * e149.1)), (V.int ((2 : Int) * e149.2))])) np160
      have ow168 := ow1146.frz (o := (.tup [(V.int ((2 : Int) * e149.1)), (V.int ((2 : Int) * e149.2))])) np160
      have ow169 := ow2147.frz (o := (.tup [(V.int ((2 : Int) * e149.1)), (V.int ((2 : Int) * e149.2))])) np160
      have ow170 := owD142.frz (o := (.tup [(V.int ((2 : Int) * e149.1)), (V.int ((2 : Int) * e149.2))])) np160
      have r171 : R K (upd F137 p159 (.tup [(V.int ((2 : Int) * e149.1)), (V.int ((2 : Int) * e149.2))])) (.ref p159) ((((2 : Int) * e149.1), ((2 : Int) * e149.2)) : (Int × Int)) := R.mk2 fzT (Rp.int ((2 : Int) * e149.1)) (Rp.int ((2 : Int) * e149.2))
      have hA172 : RL K (upd F137 p159 (.tup [(V.int ((2 : Int) * e149.1)), (V.int ((2 : Int) * e149.2))])) (acc138 ++ [(V.ref p159)]) (ds139 ++ [((((2 : Int) * e149.1), ((2 : Int) * e149.2)) : (Int × Int))]) := RL.snoc (hA143.up sm165) r171
      refine ⟨acc138, ow170.h, (lt_line hi144 (List.getElem?_eq_some_iff.mp hx135).1 hl101), ?_⟩
      have g173 := g166.put (o := (.lst (acc138 ++ [(V.ref p159)]))) ow170
      have ow174 := ow167.other (o := (.lst (acc138 ++ [(V.ref p159)]))) ne112
      have ow175 := ow168.other (o := (.lst (acc138 ++ [(V.ref p159)]))) ne113
      have ow176 := ow169.other (o := (.lst (acc138 ++ [(V.ref p159)]))) ne114
      have ow177 := ow170.put (us := (acc138 ++ [(V.ref p159)]))
      exact ⟨(upd F137 p159 (.tup [(V.int ((2 : Int) * e149.1)), (V.int ((2 : Int) * e149.2))])), (acc138 ++ [(V.ref p159)]), (ds139 ++ [(((2 : Int) * e149.1), ((2 : Int) * e149.2))]), g173, (Same.trans sm141 sm165), ow177, hA172, (by rw [List.length_append]; exact Nat.succ_le_succ hi144), ow174, ow175, ow176, (snoc_rest hr148)⟩
    intro H178 hP
    obtain ⟨F179, acc180, ds181, g0183, sm184, owD185, hA186, hi187, ow0188, ow1189, ow2190, hr191⟩ := hP
    rw [drop_end (RL.len hA102)] at hr191
    rw [m_l_behind_right_c2.eq_1, List.append_nil] at hr191
    obtain rfl := hr191
    have hl192 : acc180.length ≤ sizeLine := Nat.le_trans hi187 hl101
    have rH193 : R K H178 (V.ref p79) r74 := (R.mkl ow1189.sq hl84 (RpA.up (hA85.up (Same.trans g95.ff sm184)) g0183.fh))
    have rH194 : R K H178 (V.ref D110) (m_l_behind_right_c2  r91) := (R.mkl owD185.sq hl192 (RpA.up hA186 g0183.fh))
    refine ⟨_, _, (Rp.dp _ _ rH193), (Rp.dp _ _ rH194), (R.shaped rH193), (R.shaped rH194), _, rfl, (iteB (fun hc => ?_) (fun hc => ?_))⟩
    · have hm := ifT hc hm
      refine p_ret ?_
      obtain rfl := sjoin hm
      exact (hQ _ _ g0183)
    · have hm := ifF hc hm
      refine p_next ?_
      refine p_nx ?_
      refine p_seq ?_
      refine p_asg ?_
      obtain ⟨r195, hb196, hm⟩ := bnd hm
      refine ⟨(V.ref p_y_ends), rfl, (V.int y_size), rfl, F179, p_y_ends, ws_y_ends, y_ends, y_size, r195, rfl, g0183.fh, (g0183.seq nm_y_ends hS_y_ends), hl_y_ends, (hA_y_ends.up (Same.trans sm67 (Same.trans g78.ff (Same.trans g95.ff sm184)))), id, hb196, fun p200 ws201 F197 H198 g199 np202 h203 nF204 hl205 hA206 => ?_⟩
      have ne207 := ow0188.ne np202
      have ne208 := ow1189.ne np202
      have ne209 := ow2190.ne np202
      have ne210 := owD185.ne np202
      have n0211 := g0183.none0 np202
      have g212 := Gr.trans g0183 g199
      have ow213 := ow0188.gr0 g199
      have ow214 := ow1189.gr0 g199
      have ow215 := ow2190.gr0 g199
      have ow216 := owD185.gr0 g199
      have ow217 : Ow H0 F197 H198 p200 ws201 := ⟨h203, nF204, n0211⟩
      refine ⟨p200, rfl, ⟨_, ow217.sq⟩, fun D218 nD219 => ?_⟩
      have ne220 := ow213.ne nD219
      have ne221 := ow214.ne nD219
      have ne222 := ow215.ne nD219
      have ne223 := ow216.ne nD219
      have ne224 := ow217.ne nD219
      have g225 := g212.own (o := (.lst [])) nD219
      have ow226 := ow213.own (o := (.lst [])) nD219
      have ow227 := ow214.own (o := (.lst [])) nD219
      have ow228 := ow215.own (o := (.lst [])) nD219
      have ow229 := ow216.own (o := (.lst [])) nD219
      have ow230 := ow217.own (o := (.lst [])) nD219
      have ow231 : Ow H0 F197 (upd H198 D218 (.lst [])) D218 [] := Ow.new g212 nD219
      obtain ⟨l232, hb233, hm⟩ := bnd hm
      refine lc_list (K := K) (a := p200) (xs := ws201) (fun i H' => ∃ (F' : Hp) (acc : List V) (ds : List Str) (rest : List Str), Gr M0 H0 H0 F' H' ∧ Same F197 F' ∧ Ow H0 F' H' D218 acc ∧ RL K F' acc ds ∧ acc.length ≤ i ∧ Ow H0 F' H' D1 acc63 ∧ Ow H0 F' H' p79 ws80 ∧ Ow H0 F' H' p96 ws97 ∧ Ow H0 F' H' D110 acc180 ∧ Ow H0 F' H' p200 ws201 ∧ m_l_behind_right_c3  (r195.drop i) = some rest ∧ ds ++ rest = l232) ?_ ?_ ?_ ?_
      · exact ⟨F197, [], [], l232, g225, Same.refl _, ow231, RpA.nil, Nat.le_refl _, ow226, ow227, ow228, ow229, ow230, hb233, rfl⟩
      · intro i H' _ hP
        obtain ⟨F234, acc235, ds236, rest237, g0238, sm239, owD240, hA241, hi242, ow0243, ow1244, ow2245, ow3246, ow4247, hm248, hr249⟩ := hP
        exact ow4247.sq
      · intro i251 xv250 H253 hx252 hP
        obtain ⟨F254, acc255, ds256, rest257, g0258, sm259, owD260, hA261, hi262, ow0263, ow1264, ow2265, ow3266, ow4267, hm268, hr269⟩ := hP
        obtain ⟨e270, he271, r272⟩ := RL.get (hA206.up sm259) hx252
        obtain ⟨rfl, gs273⟩ := R.str_v r272
        rw [drop_at he271, m_l_behind_right_c3.eq_2] at hm268
        refine ⟨rfl, (p_yes ?_)⟩
        refine ⟨(V.str e270), rfl, _, rfl, _, rfl, _, rfl, (gs273 : GS e270).len, rfl, _, rfl, ?_⟩
        obtain ⟨c274, hc276, hm268⟩ := bnd hm268
        refine ifJ (M := M0) (F := F254) (P := fun v' F' H' => v' = V.str (c274 : Str) ∧ GS (c274 : Str)) (fun ha => ?_) (fun ha => ?_) ?_
        · intro Q277 q278
          have hc276 := ifT ha hc276
          obtain rfl := sjoin hc276
          refine ⟨(V.str e270), rfl, (q278 _ _ _ (Gr.refl (M := M0) g0258.fh) ⟨rfl, gs273⟩)⟩
        · intro Q279 q280
          have hc276 := ifF ha hc276
          obtain ⟨t281, hb282, hc276⟩ := bnd hc276
          obtain ⟨hk283, rfl⟩ := catS_ok hb282
          obtain rfl := sjoin hc276
          refine ⟨(V.str e270), rfl, _, _, rfl, rfl, hk283, (q280 _ _ _ (Gr.refl (M := M0) g0258.fh) ⟨rfl, (GS.cat gs273 ⟨by decide +kernel, by decide +kernel⟩ hb282)⟩)⟩
        intro v287 F284 H285 g286 hp288
        obtain ⟨hp288, hp288g⟩ := hp288
        have g290 := Gr.trans g0258 g286
        have ow291 := ow0263.gr0 g286
        have ow292 := ow1264.gr0 g286
        have ow293 := ow2265.gr0 g286
        have ow294 := ow3266.gr0 g286
        have ow295 := ow4267.gr0 g286
        have ow296 := owD260.gr0 g286
        obtain rfl := hp288
        have hA297 : RL K F284 (acc255 ++ [(V.str c274)]) (ds256 ++ [(c274 : Str)]) := RL.snoc (hA261.up g286.ff) (Rp.str c274 hp288g)
        obtain ⟨rest298, h299, h300⟩ := bnd hm268
        obtain rfl := sjoin h300
        refine ⟨acc255, ow296.h, (lt_line hi262 (List.getElem?_eq_some_iff.mp hx252).1 hl205), ?_⟩
        have g301 := g290.put (o := (.lst (acc255 ++ [(V.str c274)]))) ow296
        have ow302 := ow291.other (o := (.lst (acc255 ++ [(V.str c274)]))) ne220
        have ow303 := ow292.other (o := (.lst (acc255 ++ [(V.str c274)]))) ne221
        have ow304 := ow293.other (o := (.lst (acc255 ++ [(V.str c274)]))) ne222
        have ow305 := ow294.other (o := (.lst (acc255 ++ [(V.str c274)]))) ne223
        have ow306 := ow295.other (o := (.lst (acc255 ++ [(V.str c274)]))) ne224
        have ow307 := ow296.put (us := (acc255 ++ [(V.str c274)]))
        exact ⟨F284, (acc255 ++ [(V.str c274)]), (ds256 ++ [c274]), rest298, g301, (Same.trans sm259 g286.ff), ow307, hA297, (by rw [List.length_append]; exact Nat.succ_le_succ hi262), ow302, ow303, ow304, ow305, ow306, h299, (snoc_rest hr269)⟩
      intro H308 hP
      obtain ⟨F309, acc310, ds311, _rest, g0313, sm314, owD315, hA316, hi317, ow0318, ow1319, ow2320, ow3321, ow4322, hm323, hr324⟩ := hP
      rw [drop_end (RL.len hA206)] at hm323
      rw [m_l_behind_right_c3.eq_1] at hm323
      obtain rfl := sjoin hm323
      rw [List.append_nil] at hr324
      obtain rfl := hr324
      have hl325 : acc310.length ≤ sizeLine := Nat.le_trans hi317 hl205
      refine p_name ?_
      refine p_nx ?_
      refine p_ret ?_
      refine ⟨(V.ref p_y_ends), rfl, p_y_ends, rfl, ⟨_, (g0313.seq nm_y_ends hS_y_ends)⟩, fun D326 nD327 => ?_⟩
      have ne328 := ow0318.ne nD327
      have ne329 := ow1319.ne nD327
      have ne330 := ow2320.ne nD327
      have ne331 := ow3321.ne nD327
      have ne332 := ow4322.ne nD327
      have ne333 := owD315.ne nD327
      have g334 := g0313.own (o := (.lst [])) nD327
      have ow335 := ow0318.own (o := (.lst [])) nD327
      have ow336 := ow1319.own (o := (.lst [])) nD327
      have ow337 := ow2320.own (o := (.lst [])) nD327
      have ow338 := ow3321.own (o := (.lst [])) nD327
      have ow339 := ow4322.own (o := (.lst [])) nD327
      have ow340 := owD315.own (o := (.lst [])) nD327
      have ow341 : Ow H0 F309 (upd H308 D326 (.lst [])) D326 [] := Ow.new g0313 nD327
      refine lc_list (K := K) (a := p_y_ends) (xs := ws_y_ends) (fun i H' => ∃ (F' : Hp) (acc : List V) (ds : List (Int × Int)), Gr M0 H0 H0 F' H' ∧ Same F309 F' ∧ Ow H0 F' H' D326 acc ∧ RL K F' acc ds ∧ acc.length ≤ i ∧ Ow H0 F' H' D1 acc63 ∧ Ow H0 F' H' p79 ws80 ∧ Ow H0 F' H' p96 ws97 ∧ Ow H0 F' H' D110 acc180 ∧ Ow H0 F' H' p200 ws201 ∧ Ow H0 F' H' D218 acc310 ∧ ds ++ m_l_behind_right_c4  (y_ends.drop i) = (m_l_behind_right_c4  y_ends)) ?_ ?_ ?_ ?_
      · exact ⟨F309, [], [], g334, Same.refl _, ow341, RpA.nil, Nat.le_refl _, ow335, ow336, ow337, ow338, ow339, ow340, rfl⟩
      · intro i H' _ hP
        obtain ⟨F343, acc344, ds345, g0346, sm347, owD348, hA349, hi350, ow0351, ow1352, ow2353, ow3354, ow4355, ow5356, hr357⟩ := hP
        exact (g0346.seq nm_y_ends hS_y_ends)
      · intro i359 xv358 H361 hx360 hP
        obtain ⟨F362, acc363, ds364, g0365, sm366, owD367, hA368, hi369, ow0370, ow1371, ow2372, ow3373, ow4374, ow5375, hr376⟩ := hP
        obtain ⟨e377, he378, r379⟩ := RL.get (hA_y_ends.up (Same.trans sm67 (Same.trans g78.ff (Same.trans g95.ff (Same.trans sm184 (Same.trans g199.ff (Same.trans sm314 sm366))))))) hx360
        rw [drop_at he378, m_l_behind_right_c4.eq_2] at hr376
        obtain ⟨p380, v383, v384, ev381, hS382, r385, r386⟩ := R.p2_v r379
        obtain rfl := R.int_v r385
        obtain rfl := R.int_v r386
        refine ⟨p380, [(V.int e377.1), (V.int e377.2)], ev381, (SqT_mono g0365.fh hS382), rfl, (V.int e377.1), [(V.int e377.2)], rfl, (V.int e377.2), [], rfl, rfl, rfl, (p_yes ?_)⟩
        refine ⟨(V.int e377.1), rfl, _, _, rfl, rfl, (.inl ⟨by decide, by decide⟩), (V.int e377.2), rfl, _, _, rfl, rfl, (.inl ⟨by decide, by decide⟩), (by show 2 ≤ sizeLine; decide), fun p387 np388 => ?_⟩
        have ne389 := ow0370.ne np388
        have ne390 := ow1371.ne np388
        have ne391 := ow2372.ne np388
        have ne392 := ow3373.ne np388
        have ne393 := ow4374.ne np388
        have ne394 := ow5375.ne np388
        have ne395 := owD367.ne np388
        have sm396 := same_new (o := (.tup [(V.int ((2 : Int) * e377.1)), (V.int ((2 : Int) * e377.2))])) (g0365.noneF np388)
        have g397 := g0365.frz (o := (.tup [(V.int ((2 : Int) * e377.1)), (V.int ((2 : Int) * e377.2))])) np388
        have ow398 := ow0370.frz (o := (.tup [(V.int ((2 : Int) * e377.1)), (V.int ((2 : Int) * e377.2))])) np388
        have ow399 := ow1371.frz (o := (.tup [(V.int ((2 : Int) * e377.1)), (V.int ((2 : Int) * e377.2))])) np388
        have ow400 := ow2372.frz (o := (.tup [(V.int ((2 : Int) * e377.1)), (V.int ((2 : Int) * e377.2))])) np388
        have ow401 := ow3373.frz (o := (.tup [(V.int ((2 : Int) * e377.1)), (V.int ((2 : Int) * e377.2))])) np388
        have ow402 := ow4374.frz (o := (.tup [(V.int ((2 : Int) * e377.1)), (V.int ((2 : Int) * e377.2))])) np388
        have ow403 := ow5375.frz (o := (.tup [(V.int ((2 : Int) * e377.1)), (V.int ((2 : Int) * e377.2))])) np388
        have ow404 := owD367.frz (o := (.tup [(V.int ((2 : Int) * e377.1)), (V.int ((2 : Int) * e377.2))])) np388
        have r405 : R K (upd F362 p387 (.tup [(V.int ((2 : Int) * e377.1)), (V.int ((2 : Int) * e377.2))])) (.ref p387) ((((2 : Int) * e377.1), ((2 : Int) * e377.2)) : (Int × Int)) := R.mk2 fzT (Rp.int ((2 : Int) * e377.1)) (Rp.int ((2 : Int) * e377.2))
        have hA406 : RL K (upd F362 p387 (.tup [(V.int ((2 : Int) * e377.1)), (V.int ((2 : Int) * e377.2))])) (acc363 ++ [(V.ref p387)]) (ds364 ++ [((((2 : Int) * e377.1), ((2 : Int) * e377.2)) : (Int × Int))]) := RL.snoc (hA368.up sm396) r405
        refine ⟨acc363, ow404.h, (lt_line hi369 (List.getElem?_eq_some_iff.mp hx360).1 hl_y_ends), ?_⟩
        have g407 := g397.put (o := (.lst (acc363 ++ [(V.ref p387)]))) ow404
        have ow408 := ow398.other (o := (.lst (acc363 ++ [(V.ref p387)]))) ne328
        have ow409 := ow399.other (o := (.lst (acc363 ++ [(V.ref p387)]))) ne329
        have ow410 := ow400.other (o := (.lst (acc363 ++ [(V.ref p387)]))) ne330
        have ow411 := ow401.other (o := (.lst (acc363 ++ [(V.ref p387)]))) ne331
        have ow412 := ow402.other (o := (.lst (acc363 ++ [(V.ref p387)]))) ne332
        have ow413 := ow403.other (o := (.lst (acc363 ++ [(V.ref p387)]))) ne333
        have ow414 := ow404.put (us := (acc363 ++ [(V.ref p387)]))
        exact ⟨(upd F362 p387 (.tup [(V.int ((2 : Int) * e377.1)), (V.int ((2 : Int) * e377.2))])), (acc363 ++ [(V.ref p387)]), (ds364 ++ [(((2 : Int) * e377.1), ((2 : Int) * e377.2))]), g407, (Same.trans sm366 sm396), ow414, hA406, (by rw [List.length_append]; exact Nat.succ_le_succ hi369), ow408, ow409, ow410, ow411, ow412, ow413, (snoc_rest hr376)⟩
      intro H415 hP
      obtain ⟨F416, acc417, ds418, g0420, sm421, owD422, hA423, hi424, ow0425, ow1426, ow2427, ow3428, ow4429, ow5430, hr431⟩ := hP
      rw [drop_end (RL.len (hA_y_ends.up (Same.trans sm67 (Same.trans g78.ff (Same.trans g95.ff (Same.trans sm184 (Same.trans g199.ff sm314)))))))] at hr431
      rw [m_l_behind_right_c4.eq_1, List.append_nil] at hr431
      obtain rfl := hr431
      have hl432 : acc417.length ≤ sizeLine := Nat.le_trans hi424 hl_y_ends
      obtain ⟨r433, hb434, hm⟩ := bnd hm
      refine ⟨(V.int y_size), rfl, _, _, rfl, rfl, F416, D326, acc417, (m_l_behind_right_c4  y_ends), (y_size + (1 : Int)), r433, rfl, g0420.fh, owD422.sq, hl432, hA423, id, hb434, fun p438 ws439 F435 H436 g437 np440 h441 nF442 hl443 hA444 => ?_⟩
      have ne445 := ow0425.ne np440
      have ne446 := ow1426.ne np440
      have ne447 := ow2427.ne np440
      have ne448 := ow3428.ne np440
      have ne449 := ow4429.ne np440
      have ne450 := ow5430.ne np440
      have ne451 := owD422.ne np440
      have n0452 := g0420.none0 np440
      have g453 := Gr.trans g0420 g437
      have ow454 := ow0425.gr0 g437
      have ow455 := ow1426.gr0 g437
      have ow456 := ow2427.gr0 g437
      have ow457 := ow3428.gr0 g437
      have ow458 := ow4429.gr0 g437
      have ow459 := ow5430.gr0 g437
      have ow460 := owD422.gr0 g437
      have ow461 : Ow H0 F435 H436 p438 ws439 := ⟨h441, nF442, n0452⟩
      have rH462 : R K H436 (V.ref p438) r433 := (R.mkl ow461.sq hl443 (RpA.up hA444 g453.fh))
      have rH463 : R K H436 (V.ref D218) ds311 := (R.mkl ow459.sq hl325 (RpA.up (hA316.up (Same.trans sm421 g437.ff)) g453.fh))
      obtain rfl := sjoin hm
      refine ⟨(V.ref D218), rfl, _, _, (Rp.dp _ _ rH462), (Rp.dp _ _ rH463), (R.shaped rH462), (R.shaped rH463), (hQ _ _ g453)⟩
end K06
namespace K06
open PySem PySem.Spec PyProof.Rows L2 TL G
theorem ok_law {P : Program} {w : World} {K : PySem.W.Frag} {mg : Str → Option Value} {base : Heap} (T : Txt K mg) (hlaw : ∀ b : Bag, BOk b → ∃ b', m_law b = some (true, b')) : FnOk P w K mg base CX0 5 T.a_law T.d_law ["_law_script"] (sp_law K) := by
  have G_l_bag : FnOk P w K mg base CX0 1 T.a_l_bag T.d_l_bag ["_law_script"] (sp_l_bag K) := ok_l_bag T
  have b_l_bag := T.F_l_bag.bindsN (ps := ["_law_script"]) fun _ _ _ _ _ _ us hl => match us, hl with | [_], _ => rfl
  have G_l_draw : FnOk P w K mg base CX0 1 T.a_l_draw T.d_l_draw ["_law_bag_here", "_law_many"] (sp_l_draw K) := ok_l_draw T
  have b_l_draw := T.F_l_draw.bindsN (ps := ["_law_bag_here", "_law_many"]) fun _ _ _ _ _ _ us hl => match us, hl with | [_, _], _ => rfl
  have G_l_some : FnOk P w K mg base CX0 4 T.a_l_some T.d_l_some ["_law_bag_here", "_law_size", "_law_most"] (sp_l_some K) := ok_l_some T
  have b_l_some := T.F_l_some.bindsN (ps := ["_law_bag_here", "_law_size", "_law_most"]) fun _ _ _ _ _ _ us hl => match us, hl with | [_, _, _], _ => rfl
  have G_l_stretches : FnOk P w K mg base CX0 3 T.a_l_stretches T.d_l_stretches ["_law_bag_here", "_law_size"] (sp_l_stretches K) := ok_l_stretches T
  have b_l_stretches := T.F_l_stretches.bindsN (ps := ["_law_bag_here", "_law_size"]) fun _ _ _ _ _ _ us hl => match us, hl with | [_, _], _ => rfl
  have G_l_turned_right : FnOk P w K mg base CX0 4 T.a_l_turned_right T.d_l_turned_right ["_law_some_here", "_law_ends", "_law_size"] (sp_l_turned_right K) := ok_l_turned_right T
  have b_l_turned_right := T.F_l_turned_right.bindsN (ps := ["_law_some_here", "_law_ends", "_law_size"]) fun _ _ _ _ _ _ us hl => match us, hl with | [_, _, _], _ => rfl
  have G_l_ahead_right : FnOk P w K mg base CX0 4 T.a_l_ahead_right T.d_l_ahead_right ["_law_some_here", "_law_ends", "_law_size"] (sp_l_ahead_right K) := ok_l_ahead_right T
  have b_l_ahead_right := T.F_l_ahead_right.bindsN (ps := ["_law_some_here", "_law_ends", "_law_size"]) fun _ _ _ _ _ _ us hl => match us, hl with | [_, _, _], _ => rfl
  have G_l_behind_right : FnOk P w K mg base CX0 4 T.a_l_behind_right T.d_l_behind_right ["_law_some_here", "_law_ends", "_law_size"] (sp_l_behind_right K) := ok_l_behind_right T
  have b_l_behind_right := T.F_l_behind_right.bindsN (ps := ["_law_some_here", "_law_ends", "_law_size"]) fun _ _ _ _ _ _ us hl => match us, hl with | [_, _, _], _ => rfl
  refine fd_ok T.F_law sc_law (fun vs H Q E h => ?_) (fun cdv A outer s H0 vs Q E hr h => ?_)
  · obtain ⟨_, _, rfl, _⟩ := h
    rfl
  · obtain ⟨a_, ns_, rfl, hS_, hl_, hQ_⟩ := h
    refine ⟨_, (pss_cons (ps_set (i := 1) sc_law.nd rfl (.inl rfl) (pe_call G_l_bag (hr.mono (by decide)) (by rfl) T.g_l_bag T.F_l_bag.kp b_l_bag .nil pass0 (pa_cons (pv 0) pa_nil))) (pss_cons (ps_set (i := 2) sc_law.nd rfl (.inl rfl) (pe_ix (ix_listK (K := K)) (pe_lst (pa_cons (pe_op op_add pe_int (pe_call G_l_draw (hr.mono (by decide)) (by rfl) T.g_l_draw T.F_l_draw.kp b_l_draw .nil pass0 (pa_cons (pv 1) (pa_cons pe_int pa_nil)))) (pa_cons (pe_op op_add pe_int (pe_call G_l_draw (hr.mono (by decide)) (by rfl) T.g_l_draw T.F_l_draw.kp b_l_draw .nil pass0 (pa_cons (pv 1) (pa_cons pe_int pa_nil)))) pa_nil))) (pe_call G_l_draw (hr.mono (by decide)) (by rfl) T.g_l_draw T.F_l_draw.kp b_l_draw .nil pass0 (pa_cons (pv 1) (pa_cons pe_int pa_nil))) (fun _ _ => rfl))) (pss_cons (ps_for PassesOwn.never rfl (pi_range1 (by rfl) T.n_range (pa_cons pe_int pa_nil)) (pg_name (i := 3) sc_law.nd rfl (Or.inl rfl)) (pss_cons (ps_set (i := 4) sc_law.nd rfl (.inl rfl) (pe_call G_l_some (hr.mono (by decide)) (by rfl) T.g_l_some T.F_l_some.kp b_l_some .nil pass0 (pa_cons (pv 1) (pa_cons (pv 2) (pa_cons pe_int pa_nil))))) (pss_cons (ps_set (i := 5) sc_law.nd rfl (.inl rfl) (pe_call G_l_stretches (hr.mono (by decide)) (by rfl) T.g_l_stretches T.F_l_stretches.kp b_l_stretches .nil pass0 (pa_cons (pv 1) (pa_cons (pv 2) pa_nil)))) (pss_cons (ps_if (PW.pt (pw_or (pt_not (pt_val (pe_call G_l_turned_right (hr.mono (by decide)) (by rfl) T.g_l_turned_right T.F_l_turned_right.kp b_l_turned_right .nil pass0 (pa_cons (pv 4) (pa_cons (pv 5) (pa_cons (pv 2) pa_nil)))))) (pw_or1 (pt_not (pt_val (pe_call G_l_ahead_right (hr.mono (by decide)) (by rfl) T.g_l_ahead_right T.F_l_ahead_right.kp b_l_ahead_right .nil pass0 (pa_cons (pv 4) (pa_cons (pv 5) (pa_cons (pv 2) pa_nil))))))))) (pss_one (ps_ret pe_bl)) pss_nil) (pss_one (ps_if (pt_not (pt_val (pe_call G_l_behind_right (hr.mono (by decide)) (by rfl) T.g_l_behind_right T.F_l_behind_right.kp b_l_behind_right .nil pass0 (pa_cons (pv 4) (pa_cons (pv 5) (pa_cons (pv 2) pa_nil)))))) (pss_one (ps_ret pe_bl)) pss_nil)))))) (pss_one (ps_ret pe_bl))))), ?_⟩
    refine p_seq ?_
    refine p_asg ?_
    refine ⟨_, rfl, a_, ns_, rfl, hS_, hl_, fun B C b F0 H0 hS0 hB hb_ => ?_⟩
    refine p_name ?_
    refine p_nx ?_
    obtain ⟨b_, hm⟩ := hlaw b hb_
    have hQ : ∀ F' H', Gr (Bc B C) F0 H0 F' H' → BagAt F' H' B C b_ → Q (.bl true) H' := fun _ H' _ _ => hQ_ H'
    have g0 : Gr (Bc B C) F0 H0 F0 H0 := Gr.refl hS0
    unfold m_law at hm
    refine p_seq ?_
    refine p_asg ?_
    obtain ⟨r1, b2, hb3, hm⟩ := bnd2 hm
    refine ⟨(V.ref B), rfl, F0, B, C, b, (5 : Int), r1, b2, rfl, g0.fh, hB, hb3, fun F4 H5 g6 hB7 => ?_⟩
    have g9 := Gr.trans g0 g6
    obtain ⟨r10, b11, hb12, hm⟩ := bnd2 hm
    refine ⟨_, _, rfl, rfl, (V.ref B), rfl, F4, B, C, b2, (29 : Int), r10, b11, rfl, g9.fh, hB7, hb12, fun F13 H14 g15 hB16 => ?_⟩
    have g18 := Gr.trans g9 g15
    refine ⟨_, _, rfl, rfl, (by show 2 ≤ sizeLine; decide), fun p19 np20 => ?_⟩
    have nb21 := hB16.nb np20
    have g22 := g18.own (o := (.lst [(V.int ((1 : Int) + r1)), (V.int ((1 : Int) + r10))])) np20
    have hB23 := hB16.own (o := (.lst [(V.int ((1 : Int) + r1)), (V.int ((1 : Int) + r10))])) np20
    have ow24 : Ow H0 F13 (upd H14 p19 (.lst [(V.int ((1 : Int) + r1)), (V.int ((1 : Int) + r10))])) p19 [(V.int ((1 : Int) + r1)), (V.int ((1 : Int) + r10))] := Ow.new g18 np20
    have hA25 : RL K F13 [(V.int ((1 : Int) + r1)), (V.int ((1 : Int) + r10))] ([((1 : Int) + r1), ((1 : Int) + r10)] : List Int) := (RpA.cons (Rp.int ((1 : Int) + r1)) (RpA.cons (Rp.int ((1 : Int) + r10)) RpA.nil))
    obtain ⟨r26, b27, hb28, hm⟩ := bnd2 hm
    refine ⟨(V.ref B), rfl, F13, B, C, b11, (2 : Int), r26, b27, rfl, g22.fh, hB23, hb28, fun F29 H30 g31 hB32 => ?_⟩
    have g34 := Gr.trans g22 g31
    have ow35 := ow24.gr g31 nb21
    obtain ⟨t36, hb37, hm⟩ := bnd hm
    obtain ⟨v38, ha39, r40⟩ := RL.at (hA25.up g31.ff) hb37
    obtain rfl := R.int_v r40
    refine ⟨p19, [(V.int ((1 : Int) + r1)), (V.int ((1 : Int) + r10))], _, (V.int t36), rfl, rfl, ow35.sq, ha39, ?_⟩
    refine p_name ?_
    refine p_nx ?_
    refine p_seq ?_
    refine p_for ?_
    refine ⟨_, rfl, (by decide), (by decide), ?_⟩
    obtain ⟨l42, ht43, hm⟩ := bndL1 hm
    refine for_range (lo := (0 : Int)) (n := (2 : Nat)) (fun i σ' H' => ∃ (F' : Hp) (o_y_k : Option V) (o_y_some_here : Option V) (o_y_ends : Option V) (b : Bag), σ' = [(some (V.ref a_)), (some (V.ref B)), (some (V.int t36)), o_y_k, o_y_some_here, o_y_ends] ∧ Gr (Bc B C) F0 H0 F' H' ∧ Same F29 F' ∧ BagAt F' H' B C b ∧ m_law_l1 t36 ((rangeL (0 : Int) 2).drop i) b = some l42) ?_ ?_ ?_
    · exact ⟨F29, none, none, none, b27, rfl, g34, (Same.refl _), hB32, ht43⟩
    · intro i44 σ' H46 hx45 hP
      obtain ⟨F48, o_y_k49, o_y_some_here50, o_y_ends51, b52, rfl, g53, sm54, hB55, hm56⟩ := hP
      have he58 := rangeL_at (lo := (0 : Int)) hx45
      rw [drop_at he58, m_law_l1.eq_2] at hm56
      refine p_name ?_
      refine p_seq ?_
      refine p_asg ?_
      obtain ⟨r59, b60, hb61, hm56⟩ := bnd2 hm56
      refine ⟨(V.ref B), rfl, (V.int t36), rfl, F48, B, C, b52, t36, (16 : Int), r59, b60, rfl, g53.fh, hB55, hb61, fun p66 ws67 F62 H63 g64 hB65 np68 h69 nF70 hl71 hA72 => ?_⟩
      have nb73 := hB55.nb np68
      have n074 := g53.none0 np68
      have g75 := Gr.trans g53 g64
      have ow76 : Ow H0 F62 H63 p66 ws67 := ⟨h69, nF70, n074⟩
      refine p_name ?_
      refine p_nx ?_
      refine p_seq ?_
      refine p_asg ?_
      obtain ⟨r77, b78, hb79, hm56⟩ := bnd2 hm56
      refine ⟨(V.ref B), rfl, (V.int t36), rfl, F62, B, C, b60, t36, r77, b78, rfl, g75.fh, hB65, hb79, fun p84 ws85 F80 H81 g82 hB83 np86 h87 nF88 hl89 hA90 => ?_⟩
      have ne91 := ow76.ne np86
      have nb92 := hB65.nb np86
      have n093 := g75.none0 np86
      have g94 := Gr.trans g75 g82
      have ow95 := ow76.gr g82 nb73
      have ow96 : Ow H0 F80 H81 p84 ws85 := ⟨h87, nF88, n093⟩
      refine p_name ?_
      refine p_nx ?_
      refine p_seq ?_
      refine p_if ?_
      obtain ⟨r97, hb98, hm56⟩ := bnd hm56
      refine ⟨(V.ref p66), rfl, (V.ref p84), rfl, (V.int t36), rfl, p66, ws67, r59, p84, ws85, r77, t36, r97, rfl, ow95.sq, hl71, (RpA.up (hA72.up g82.ff) g94.fh), id, ow96.sq, hl89, (RpA.up hA90 g94.fh), id, hb98, fun F99 H100 g101 => ?_⟩
      have g103 := Gr.apart g94 g101
      have ow104 := ow95.apart g101
      have ow105 := ow96.apart g101
      have hB106 := hB83.apart g101
      refine ⟨_, rfl, ?_⟩
      obtain ⟨c107, hc108, hm56⟩ := bnd hm56
      refine orJT (M := M0) (F := F80) (c := c107) (P := fun _ _ => True) (fun ha => ?_) (fun ha => ⟨(sjoin (ifT ha hc108)).symm, trivial⟩) g103.fh ?_
      · intro Q110 q111
        have hc108 := ifF ha hc108
        obtain ⟨r112, hb113, hc108⟩ := bnd hc108
        refine ⟨(V.ref p66), rfl, (V.ref p84), rfl, (V.int t36), rfl, p66, ws67, r59, p84, ws85, r77, t36, r112, rfl, ow104.sq, hl71, (RpA.up (hA72.up g82.ff) g103.fh), id, ow105.sq, hl89, (RpA.up hA90 g103.fh), id, hb113, fun F114 H115 g116 => ?_⟩
        have g118 := Gr.apart g103 g116
        have g119 := Gr.apart (Gr.refl (M := M0) g103.fh) g116
        have ow120 := ow104.apart g116
        have ow121 := ow105.apart g116
        have hB122 := hB106.apart g116
        obtain rfl := sjoin hc108
        refine ⟨_, rfl, (q111 _ _ g119 trivial)⟩
      intro F123 H124 g125 hB126
      have g127 := Gr.trans g103 (Gr.of0 g125)
      have ow128 := ow104.gr0 g125
      have ow129 := ow105.gr0 g125
      have hB130 := hB106.gr0 g125
      refine (iteB (fun hc => ?_) (fun hc => ?_))
      · have hm56 := ifT hc hm56
        refine p_ret ?_
        obtain rfl := sjoin hm56
        have hm := bret hm
        obtain ⟨he131, rfl⟩ := pjoin hm
        exact absurd he131 (by decide)
      · have hm56 := ifF hc hm56
        refine p_next ?_
        refine p_nx ?_
        refine p_if ?_
        obtain ⟨r132, hb133, hm56⟩ := bnd hm56
        refine ⟨(V.ref p66), rfl, (V.ref p84), rfl, (V.int t36), rfl, p66, ws67, r59, p84, ws85, r77, t36, r132, rfl, ow128.sq, hl71, (RpA.up (hA72.up (Same.trans g82.ff g125.ff)) g127.fh), id, ow129.sq, hl89, (RpA.up (hA90.up g125.ff) g127.fh), id, hb133, fun F134 H135 g136 => ?_⟩
        have g138 := Gr.apart g127 g136
        have ow139 := ow128.apart g136
        have ow140 := ow129.apart g136
        have hB141 := hB130.apart g136
        refine ⟨_, rfl, (iteB (fun hc => ?_) (fun hc => ?_))⟩
        · have hm56 := ifT hc hm56
          refine p_ret ?_
          obtain rfl := sjoin hm56
          have hm := bret hm
          obtain ⟨he142, rfl⟩ := pjoin hm
          exact absurd he142 (by decide)
        · have hm56 := ifF hc hm56
          refine p_next ?_
          exact ⟨F123, (some (V.int ((0 : Int) + ((i44 : Nat) : Int)))), (some (V.ref p66)), (some (V.ref p84)), b78, rfl, g138, (Same.trans sm54 (Same.trans g64.ff (Same.trans g82.ff g125.ff))), hB141, hm56⟩
    intro σ143 H144 hP
    obtain ⟨F145, o_y_k146, o_y_some_here147, o_y_ends148, b149, rfl, g150, sm151, hB152, hm153⟩ := hP
    rw [drop_end (rangeL_len _ _).symm, m_law_l1.eq_1] at hm153
    obtain rfl := sjoin hm153
    have hm := bgo1 hm
    refine p_nx ?_
    refine p_ret ?_
    obtain ⟨he154, rfl⟩ := pjoin hm
    exact (retQ (e := true) he154 (hQ _ _ g150 hB152))
end K06
namespace K06
open PySem PySem.Spec PyProof.Rows L2 TL G
theorem skip0_le : ∀ (l : List Int) (k : Nat), skip0 l k ≤ k + l.length
  | [], k => Nat.le_refl _
  | x :: r, k => by
    rw [skip0]
    split
    · have := skip0_le r (k + 1)
      rw [List.length_cons]
      omega
    · omega
theorem draw_O {b : Bag} {n : Int} (hb : BOk b) (h0 : 0 < n) (h1 : n < 18446744073709551616) : O2 BOk (m_l_draw b n) (fun r => 0 ≤ r ∧ r < n) := by
  have hlog : n.natAbs.log2 < 9000 := by
    have hn : n.natAbs < 2 ^ 64 := by omega
    have hz : n.natAbs ≠ 0 := by omega
    have := (Nat.log2_lt hz).mpr hn
    omega
  have h63 := hb.len
  unfold m_l_draw
  rw [if_pos ⟨⟨h0, hlog⟩, hb.lo, hb.hi, by rw [sizeLine_eq]; omega⟩]
  cases e : b.cells[skip0 (b.cells.drop b.at_) b.at_]? with
  | some x => exact O2.ret ⟨hb.lo, hb.hi, by show (b.cells.set _ _).length ≤ 63; rw [List.length_set]; exact h63⟩ ⟨Int.emod_nonneg _ (by omega), Int.emod_lt_of_pos _ h0⟩
  | none =>
    have h2 : 0 ≤ stir b.seed (b.cnt + 1) := Int.emod_nonneg _ (by decide)
    have h3 : stir b.seed (b.cnt + 1) < 2147483647 := Int.emod_lt_of_pos _ (by decide)
    exact O2.ret ⟨h2, by show stir b.seed (b.cnt + 1) < 2147483648; omega, h63⟩ ⟨Int.emod_nonneg _ (by omega), Int.emod_lt_of_pos _ h0⟩
/-! ### what is drawn -/
theorem bits_c1 : ∀ (l : List Int) (b : Bag), BOk b → O2 BOk (m_l_bits_c1 l b) (fun ys => ys.length = l.length ∧ ∀ y ∈ ys, ∃ c, isB c = true ∧ tl y = [c])
  | [], b, hb => O2.ret hb ⟨rfl, fun _ h => nomatch h⟩
  | x :: l, b, hb => by
    unfold m_l_bits_c1
    refine O2.bind (draw_O hb (by decide) (by decide)) fun r b hb hr => ?_
    refine O2.bind1 (codeAt_O (P := fun c => isB c = true) hr.1 (by rw [tl01]; exact hr.2) fun _ h => Bits.mem01 h) fun c hc => ?_
    refine O2.bind (bits_c1 l b hb) fun ys b hb hy => ?_
    refine O2.ret hb ⟨congrArg Nat.succ hy.1, fun y h => ?_⟩
    rcases List.mem_cons.mp h with rfl | h
    · exact ⟨c, hc, rfl⟩
    · exact hy.2 y h
theorem flat_bits : ∀ ys : List Str, (∀ y ∈ ys, ∃ c, isB c = true ∧ tl y = [c]) → Bits (ys.map tl).flatten ∧ (ys.map tl).flatten.length = ys.length
  | [], _ => ⟨Bits.nil, rfl⟩
  | y :: ys, h => by
    obtain ⟨c, hc, e⟩ := h y (List.mem_cons_self ..)
    obtain ⟨h1, h2⟩ := flat_bits ys fun z hz => h z (List.mem_cons_of_mem _ hz)
    rw [List.map_cons, List.flatten_cons, e]
    exact ⟨(Bits.one hc).app h1, by rw [List.length_append, h2]; exact Nat.add_comm 1 _⟩
theorem bits_O {b : Bag} {n : Int} (hb : BOk b) (h0 : -1000 ≤ n) (h1 : n ≤ 1000) : O2 BOk (m_l_bits b n) (fun x => Bits (tl x) ∧ (tl x).length = n.toNat) := by
  unfold m_l_bits
  refine O2.bind (draw_O hb (by decide) (by decide)) fun r b hb hr => ?_
  refine O2.ite (fun _ => ?_) (fun _ => ?_)
  · refine O2.bind (draw_O hb (by decide) (by decide)) fun r b hb hr => ?_
    refine O2.bind1 (codeAt_O (P := fun c => isB c = true) hr.1 (by rw [tl01]; exact hr.2) fun _ h => Bits.mem01 h) fun c hc => ?_
    refine O2.bind (P := fun x => Bits (tl x) ∧ (tl x).length = n.toNat) ?_ fun x b hb hx => O2.ret hb hx
    refine O2.ite (fun hn => ?_) (fun hn => ?_)
    · have hn : 0 < n := of_decide_eq_true hn
      refine O2.bind1 (mulS_O (P := fun x => tl x = List.replicate n.toNat c) (by omega) (by omega) (by rw [tl_sgn]; show 1 * _ ≤ _; omega) (by rw [tl_mul, tl_sgn]; simp)) fun x hx => ?_
      refine O2.bind (draw_O hb (by decide) (by decide)) fun r b hb hr => ?_
      refine O2.bind1 (codeAt_O (P := fun c => isB c = true) hr.1 (by rw [tl01]; exact hr.2) fun _ h => Bits.mem01 h) fun d hd => ?_
      refine O2.bind1 (catS_O (P := fun y => tl y = List.replicate n.toNat c ++ [d]) (by rw [hx, tl_sgn, List.length_replicate]; show _ + 1 ≤ _; omega) (by rw [tl_append, hx, tl_sgn])) fun y hy => ?_
      refine O2.ret hb ?_
      have e1 : (1 : Int) = ((1 : Nat) : Int) := rfl
      have e2 : n + 1 = ((n.toNat + 1 : Nat) : Int) := by omega
      have hl : (List.replicate n.toNat c ++ [d]).length = n.toNat + 1 := by rw [List.length_append, List.length_replicate]; rfl
      rw [tl_cut, hy, e2, e1, HT.sIx_nat, HT.sIx_nat, hl]
      have hb2 : Bits (List.replicate n.toNat c ++ [d]) := Bits.app (fun z hz => by rw [(List.mem_replicate.mp hz).2]; exact hc) (Bits.one hd)
      refine ⟨(hb2.drop _).take _, ?_⟩
      rw [List.length_take, List.length_drop, hl]
      omega
    · have hn : ¬ 0 < n := of_decide_eq_false hn
      exact O2.ret hb ⟨by rw [tl_empty]; exact Bits.nil, by rw [tl_empty]; show 0 = _; omega⟩
  · refine O2.bind1 (rangeO1_O (P := fun l => l.length = n.toNat) (by omega) (by omega) rangeL_length) fun l hl => ?_
    refine O2.bind (bits_c1 l b hb) fun ys b hb hy => ?_
    obtain ⟨hf1, hf2⟩ := flat_bits ys hy.2
    have hsum : (ys.map fun y => (tl y).length).sum = ys.length := by rw [← hf2, List.length_flatten, List.map_map]; rfl
    refine O2.bind1 (joinS_O (P := fun x => Bits (tl x) ∧ (tl x).length = n.toNat) (by rw [hsum, tl_empty, hy.1, hl]; show _ + _ * 0 ≤ _; omega) ⟨by rw [tl_join0]; exact hf1, by rw [tl_join0, hf2, hy.1, hl]⟩) fun x hx => O2.ret hb hx
theorem turned_ok (x : Str) (h : Bits (tl x)) : ∃ bs, Bits bs ∧ bs.length ≤ 1 ∧ tl (dgetS [(("0" : Str), ("1" : Str)), (("1" : Str), ("0" : Str))] x ("" : Str)) = bs := by
  unfold dgetS
  by_cases h0 : ("0" : Str) = x
  · subst h0
    exact ⟨[49], Bits.one (by decide), Nat.le_refl _, by decide +kernel⟩
  · by_cases h1 : ("1" : Str) = x
    · subst h1
      exact ⟨[48], Bits.one (by decide), Nat.le_refl _, by decide +kernel⟩
    · refine ⟨[], Bits.nil, Nat.zero_le _, ?_⟩
      simp only [List.find?_cons, decide_eq_false h0, decide_eq_false h1, List.find?_nil]
      exact tl_empty
theorem one_O {b : Bag} {n : Int} {w : Nat} {some_ : List Str} (hb : BOk b) (hn : n = (w : Nat)) (hw : 1 ≤ w ∧ w ≤ 30) (hs : ∀ x ∈ some_, ∃ bs, Pat w bs x) (hl : some_.length ≤ 1000) : O2 BOk (m_l_one b n some_) (fun x => ∃ bs, Pat w bs x) := by
  subst hn
  unfold m_l_one
  refine O2.bind (draw_O hb (by omega) (by omega)) fun r1 b hb h1 => ?_
  refine O2.bind (bits_O hb (by omega) (by omega)) fun x b hb hx => ?_
  refine O2.bind (draw_O hb (by decide) (by decide)) fun r3 b hb h3 => ?_
  refine O2.bind (P := fun y => Bits (tl y) ∧ (tl y).length ≤ 60) ?_ fun y b hb hy => ?_
  · refine O2.ite (fun hc => ?_) (fun _ => O2.ret hb ⟨hx.1, by omega⟩)
    obtain ⟨hc1, hc2⟩ := Bool.and_eq_true_iff.mp hc
    have hne : some_ ≠ [] := fun e => by rw [e, eqD_refl] at hc1; exact absurd hc1 (by decide)
    have hpos : 0 < some_.length := List.length_pos_iff.mpr hne
    refine O2.bind (draw_O hb (by omega) (by omega)) fun r4 b hb h4 => ?_
    refine O2.bind1 (atI_O (P := fun x => ∃ bs, Pat w bs x) h4.1 h4.2 hs) fun z hz => ?_
    obtain ⟨bs, pz⟩ := hz
    refine O2.bind1 (O1.ret (P := fun u => tl u = bs) pz.strip) fun u hu => ?_
    have hul := pz.le
    refine O2.bind1 (O1.ret (P := fun t => Bits (tl t) ∧ (tl t).length ≤ 1) ?_) fun t ht => ?_
    · obtain ⟨cs, h5, h6, h7⟩ := turned_ok (cutS u (some (-(1 : Int))) none) (by rw [tl_cut, hu]; exact (pz.bits.drop _).take _)
      rw [h7]
      exact ⟨h5, h6⟩
    refine O2.bind (draw_O hb (by rw [len_tl]; omega) (by rw [len_tl, hu]; omega)) fun cut b hb hcut => ?_
    refine O2.bind (draw_O hb (by decide) (by decide)) fun r b hb hr => ?_
    refine O2.bind1 (codeAt_O (P := fun c => isB c = true) hr.1 (by rw [tl01]; exact hr.2) fun _ h => Bits.mem01 h) fun c hcb => ?_
    refine O2.bind1 (catS_O (P := fun y => tl y = bs ++ [c]) (by rw [hu, tl_sgn]; show _ + 1 ≤ _; omega) (by rw [tl_append, hu, tl_sgn])) fun y1 hy1 => ?_
    have hcl : (tl (cutS u none (some (-(1 : Int))))).length ≤ 30 := by rw [tl_cut, List.length_take, List.length_drop, hu]; omega
    refine O2.bind1 (catS_O (P := fun y => Bits (tl y) ∧ (tl y).length ≤ 31) (by omega) ?_) fun y2 hy2 => ?_
    · rw [tl_append, List.length_append]
      exact ⟨Bits.app (by rw [tl_cut, hu]; exact (pz.bits.drop _).take _) ht.1, by omega⟩
    refine O2.bind1 (atI_O (P := fun y => Bits (tl y) ∧ (tl y).length ≤ 60) h3.1 (of_decide_eq_true hc2) fun y hy => ?_) fun y hy => O2.ret hb hy
    simp only [List.mem_cons, List.not_mem_nil, or_false] at hy
    rcases hy with rfl | rfl | rfl
    · rw [tl_cut, hu, List.length_take, List.length_drop]
      exact ⟨(pz.bits.drop _).take _, by omega⟩
    · rw [hy1, List.length_append]
      exact ⟨pz.bits.app (Bits.one hcb), by show _ + 1 ≤ _; omega⟩
    · exact ⟨hy2.1, by omega⟩
  refine O2.bind (P := fun y => Bits (tl y) ∧ (tl y).length ≤ 200) ?_ fun z b hb hz => ?_
  · refine O2.ite (fun _ => ?_) (fun _ => O2.ret hb ⟨hy.1, by omega⟩)
    refine O2.bind (bits_O hb (by rw [len_tl]; omega) (by rw [len_tl]; omega)) fun u b hb hu => ?_
    refine O2.bind1 (catS_O (P := fun v => Bits (tl v) ∧ (tl v).length ≤ 200) (by omega) ?_) fun v hv => O2.ret hb hv
    rw [tl_append, List.length_append]
    exact ⟨hy.1.app hu.1, by rw [hu.2]; omega⟩
  refine O2.bind1 (O1.ret (P := fun u => Bits (tl u) ∧ (tl u).length ≤ w) ?_) fun u hu => ?_
  · rw [tl_cut, HT.sIx_nat, sIx_n, List.length_take]
    exact ⟨(hz.1.drop _).take _, by omega⟩
  refine O2.bind1 (mulS_O (P := fun v => tl v = if (tl u).length < w then [42] else []) (by unfold toI; split <;> omega) (by unfold toI; split <;> omega) (by rw [tlStar]; unfold toI; split <;> decide) ?_) fun v hv => ?_
  · rw [tl_mul, tlStar, len_tl]
    by_cases h : (tl u).length < w
    · rw [if_pos h, decide_eq_true (by omega)]; rfl
    · rw [if_neg h, decide_eq_false (by omega)]; rfl
  refine O2.bind1 (catS_O (P := fun y => ∃ bs, Pat w bs y) ?_ ⟨tl u, hu.1, hu.2, ?_⟩) fun y hy => O2.ret hb hy
  · rw [hv]
    split
    · show _ + 1 ≤ _; omega
    · show _ + 0 ≤ _; omega
  · rw [tl_append, hv]
    rfl
end K06
namespace K06
open PySem PySem.Spec PyProof.Rows L2 TL G
/-! ### spans -/
theorem span_l1 : ∀ (cs : List Nat) (n : Nat), m_span_of_l1 cs (n : Int) = some ((n * 2 ^ cs.length + wr cs : Nat) : Int)
  | [], n => by unfold m_span_of_l1; simp [wr]
  | c :: cs, n => by
    unfold m_span_of_l1
    rw [toI_sgn1, Option.bind_some]
    have e : (2 : Int) * (n : Int) + ((if c = 49 then 1 else 0 : Nat) : Int) = ((2 * n + (if c = 49 then 1 else 0) : Nat) : Int) := by omega
    rw [e, span_l1 cs, wr_cons, List.length_cons, Nat.pow_succ]
    generalize (if c = 49 then 1 else 0) = d
    generalize 2 ^ cs.length = p
    congr 2
    rw [Nat.add_mul, Nat.mul_comm 2 n, Nat.mul_assoc, Nat.mul_comm 2 p, Nat.add_assoc]
theorem span_spec {w : Nat} {bs : List Nat} {x : Str} (p : Pat w bs x) (hw : w ≤ 60) : m_span_of x (w : Nat) = some (((spanL w bs).1 : Int), ((spanL w bs).2 : Int)) := by
  unfold m_span_of m_bits_of
  rw [Option.bind_some]
  have e1 : ((partS x ("*" : Str)).a).cps.toList = bs := p.part
  have e2 : (((partS x ("*" : Str)).a).length : Int) = (bs.length : Nat) := by rw [len_tl, p.part]
  have hle := p.le
  rw [e1, e2, show (0 : Int) = ((0 : Nat) : Int) from rfl, span_l1, Option.bind_some, Nat.zero_mul, Nat.zero_add]
  have e3 : (w : Int) - (bs.length : Nat) = ((w - bs.length : Nat) : Int) := by omega
  have h1 := wr_lt bs
  have h2 : 2 ^ bs.length < 2 ^ 62 := Nat.pow_lt_pow_right (by decide) (by omega)
  have h3 : 2 ^ (w - bs.length) < 2 ^ 64 := pow_lt64 (by omega)
  rw [e3, shlI_one (by omega), Option.bind_some, mulI_nat (by omega) h3, Option.bind_some]
  have e4 : ((wr bs : Nat) : Int) + 1 = ((wr bs + 1 : Nat) : Int) := rfl
  rw [e4, mulI_nat (by omega) h3, Option.bind_some]
  rfl
theorem worth_l1 : ∀ (cs : List Nat) (n : Nat), m_l_worth_l1 cs (n : Int) = some ((n * 2 ^ cs.length + wr cs : Nat) : Int)
  | [], n => by unfold m_l_worth_l1; simp [wr]
  | c :: cs, n => by
    unfold m_l_worth_l1
    rw [toI_sgn1, Option.bind_some]
    have e : (n : Int) * 2 + ((if c = 49 then 1 else 0 : Nat) : Int) = ((2 * n + (if c = 49 then 1 else 0) : Nat) : Int) := by omega
    rw [e, worth_l1 cs, wr_cons, List.length_cons, Nat.pow_succ]
    generalize (if c = 49 then 1 else 0) = d
    generalize 2 ^ cs.length = p
    congr 2
    rw [Nat.add_mul, Nat.mul_comm 2 n, Nat.mul_assoc, Nat.mul_comm 2 p, Nat.add_assoc]
theorem worth_spec (x : Str) : m_l_worth x = some ((wr (tl x) : Nat) : Int) := by
  unfold m_l_worth
  rw [show x.cps.toList = tl x from rfl, show (0 : Int) = ((0 : Nat) : Int) from rfl, worth_l1, Nat.zero_mul, Nat.zero_add]
  rfl
theorem spanI {w : Nat} {x : Str} (p : IsPat w x) (hw : w ≤ 60) : m_span_of x (w : Nat) = some (spI w x) := by
  obtain ⟨bs, p⟩ := p
  rw [span_spec p hw]
  unfold spI
  rw [bsOf_pat p]
theorem parts_l1 {w : Nat} (hw : w ≤ 60) : ∀ (ps : List Str) (ed : List Int), (∀ p ∈ ps, IsPat w p) → ed.length + 2 * ps.length ≤ 3000 → m_parts_of_l1 (w : Nat) ps ed = some (ed ++ flat2 (ps.map (spI w)))
  | [], ed, _, _ => by unfold m_parts_of_l1; simp [flat2]
  | p :: ps, ed, h, hl => by
    rw [List.length_cons] at hl
    unfold m_parts_of_l1
    rw [spanI (h p (List.mem_cons_self ..)) hw, Option.bind_some]
    have e : conL ed [(spI w p).1, (spI w p).2] = some (ed ++ [(spI w p).1, (spI w p).2]) := by
      unfold conL
      rw [if_pos (by rw [sizeLine_eq]; show _ + 2 ≤ _; omega)]
    rw [e, Option.bind_some, parts_l1 hw ps _ (fun q hq => h q (List.mem_cons_of_mem _ hq)) (by rw [List.length_append]; show _ + 2 + _ ≤ _; omega), List.append_assoc]
    rfl
theorem parts_spec {w : Nat} {ps : List Str} (hw : w ≤ 60) (h : ∀ p ∈ ps, IsPat w p) (hl : ps.length ≤ 1000) : m_parts_of ps (w : Nat) = some (prsL (edgesOf w (ps.map (spI w)))) := by
  unfold m_parts_of
  rw [shlI_one (by omega), Option.bind_some, Option.bind_some, parts_l1 hw ps _ h (by show 2 + _ ≤ _; omega), Option.bind_some]
  have hlen : ([0, ((2 ^ w : Nat) : Int)] ++ flat2 (ps.map (spI w))).length < 4000 := by
    rw [List.length_append, flat2_len, List.length_map]
    show 2 + _ < _
    omega
  have e : ssetO ([0, ((2 ^ w : Nat) : Int)] ++ flat2 (ps.map (spI w))) = some (edgesOf w (ps.map (spI w))) := by
    unfold ssetO
    rw [if_pos hlen]
    rfl
  rw [e, Option.bind_some]
  have e2 : ∀ l : List Int, cutL l (some (1 : Int)) none = l.drop 1 := fun l => by
    unfold cutL
    have e3 : HT.sIx l.length 0 (some 1) = min 1 l.length := HT.sIx_nat l.length 0 1
    rw [e3, sIx_n]
    cases l with
    | nil => rfl
    | cons x r =>
      rw [show min 1 (x :: r).length = 1 by rw [List.length_cons]; omega]
      exact List.take_of_length_le (by rw [List.length_drop]; exact Nat.le_refl _)
  rw [e2, zip_prs]
/-! ### the patterns drawn -/
theorem some_l1 {w : Nat} (hw : 1 ≤ w ∧ w ≤ 30) : ∀ (l : List Int) (s : List Str) (b : Bag), BOk b → (∀ x ∈ s, IsPat w x) → s.length + l.length ≤ 900 → O2 BOk (m_l_some_l1 (w : Nat) l s b) (fun r => (∀ x ∈ r, IsPat w x) ∧ r.length = s.length + l.length)
  | [], s, b, hb, hs, _ => O2.ret hb ⟨hs, rfl⟩
  | k :: l, s, b, hb, hs, hl => by
    rw [List.length_cons] at hl
    unfold m_l_some_l1
    refine O2.bind (one_O hb rfl hw hs (by omega)) fun x b hb hx => ?_
    have ea : appL s x = some (s ++ [x]) := by unfold appL; rw [if_pos (by rw [sizeLine_eq]; omega)]
    rw [ea, Option.bind_some]
    have := some_l1 hw l (s ++ [x]) b hb (fun y hy => (List.mem_append.mp hy).elim (hs y) fun h => by rw [List.mem_singleton.mp h]; exact hx) (by rw [List.length_append]; show s.length + 1 + _ ≤ _; omega)
    exact this.imp fun r h => ⟨h.1, by rw [h.2, List.length_append, List.length_cons, List.length_cons, List.length_nil]; omega⟩
theorem some_O {b : Bag} {w : Nat} {m : Int} (hb : BOk b) (hw : 1 ≤ w ∧ w ≤ 30) (hm : 0 ≤ m ∧ m ≤ 100) : O2 BOk (m_l_some b (w : Nat) m) (fun r => (∀ x ∈ r, IsPat w x) ∧ r.length ≤ 100) := by
  unfold m_l_some
  refine O2.bind (draw_O hb (by decide) (by decide)) fun r8 b hb h8 => ?_
  refine O2.bind (draw_O hb (by omega) (by omega)) fun r18 b hb h18 => ?_
  refine O2.bind (draw_O hb (by decide) (by decide)) fun r37 b hb h37 => ?_
  refine O2.bind1 (P := fun k => 0 ≤ k ∧ k ≤ 100) (atI_O h37.1 h37.2 fun x hx => ?_) fun k hk => ?_
  · rcases List.mem_cons.mp hx with rfl | hx
    · omega
    · rw [List.mem_singleton.mp hx]; omega
  refine O2.bind1 (rangeO1_O (P := fun l => l.length ≤ 100) (by omega) (by omega) (by rw [rangeL_length]; omega)) fun l hl => ?_
  refine O2.bind (some_l1 hw l [] b hb (fun _ h => nomatch h) (by show 0 + _ ≤ _; omega)) fun r b hb h => ?_
  exact O2.ret hb ⟨h.1, by rw [h.2]; show 0 + _ ≤ _; omega⟩
end K06
namespace K06
open PySem PySem.Spec PyProof.Rows L2 TL G
/-! ### pattern_at -/
theorem pa_l1 : ∀ (l : List Int) (x : Str) (n : Nat), (tl x).length + l.length ≤ 1000 → ∃ y n', m_pattern_at_l1 l x (n : Int) = some (y, n') ∧ tl y = bin l.length n ++ tl x
  | [], x, n, _ => ⟨x, _, rfl, rfl⟩
  | k :: l, x, n, h => by
    rw [List.length_cons] at h
    have hd : n % 2 < 2 := Nat.mod_lt _ (by decide)
    have hc : codeAt ("01" : Str) ((n : Int) % 2) = some (48 + n % 2) := code01 hd
    obtain ⟨y, ey, hy⟩ := catS_O (a := sgn (48 + n % 2)) (b := x) (P := fun z => tl z = [48 + n % 2] ++ tl x) (by rw [tl_sgn]; show 1 + _ ≤ _; omega) (by rw [tl_append, tl_sgn])
    obtain ⟨z, n', ez, hz⟩ := pa_l1 l y (n / 2) (by rw [hy, List.length_append]; show 1 + (tl x).length + _ ≤ _; omega)
    refine ⟨z, n', ?_, ?_⟩
    · unfold m_pattern_at_l1
      rw [hc, Option.bind_some, ey, Option.bind_some, Option.bind_some]
      exact ez
    · rw [hz, hy, List.length_cons, G.bin, List.append_assoc]
theorem pattern_at_spec {w j : Nat} {bs : List Nat} (hb : Bits bs) (hw : bs.length + j = w) (hw2 : w ≤ 60) : ∃ y, m_pattern_at ((wr bs * 2 ^ j : Nat) : Int) ((w : Int) - (j : Int)) (w : Int) = some y ∧ tl y = leaf j bs := by
  unfold m_pattern_at
  have e1 : (w : Int) - ((w : Int) - (j : Int)) = (j : Nat) := by omega
  have e2 : (w : Int) - (j : Int) = (bs.length : Nat) := by omega
  rw [e1, shrI_nat, Nat.mul_div_cancel _ (Nat.two_pow_pos j), Option.bind_some, e2]
  have e3 : rangeO1 ((bs.length : Nat) : Int) = some (rangeL 0 bs.length) := by
    unfold rangeO1
    rw [if_pos ⟨by omega, by rw [sizeLine_eq]; omega⟩, Int.toNat_natCast]
  rw [e3, Option.bind_some]
  obtain ⟨z, n', ez, hz⟩ := pa_l1 (rangeL 0 bs.length) ("" : Str) (wr bs) (by rw [rangeL_length, tl_empty]; show 0 + _ ≤ _; omega)
  rw [rangeL_length, tl_empty, List.append_nil, bin_wr hb] at hz
  rw [ez, bind2_some, eqI_iff]
  by_cases h : j = 0
  · rw [decide_eq_true (by omega), if_pos rfl]
    exact ⟨z, rfl, by rw [hz, leaf, if_pos h]⟩
  · rw [decide_eq_false (by omega), if_neg (by decide)]
    obtain ⟨y, ey, hy⟩ := catS_O (a := z) (b := ("*" : Str)) (P := fun y => tl y = bs ++ [42]) (by rw [hz, tlStar]; show _ + 1 ≤ _; omega) (by rw [tl_append, hz, tlStar])
    rw [ey]
    exact ⟨y, rfl, by rw [hy, leaf, if_neg h]⟩
theorem cov_l3 {w : Nat} {b at_ : Int} (hw : w ≤ 60) {j : Nat} (hj : at_ % H2 j = 0 ∧ at_ + H2 j ≤ b) : ∀ (d n : Nat), j + d ≤ w → d < n → (∀ k, j < k → k ≤ j + d → ¬ (at_ % H2 k = 0 ∧ at_ + H2 k ≤ b)) →
    m_cover_l3 (w : Int) b at_ n ((w : Int) - ((j + d : Nat) : Int)) = some ((w : Int) - (j : Int))
  | d, 0, _, hn, _ => absurd hn (Nat.not_lt_zero _)
  | 0, n + 1, hd, _, _ => by
    unfold m_cover_l3
    have hm : modI at_ (H2 j) = some (at_ % H2 j) := by unfold modI; rw [if_pos (H2_pos j)]
    rw [show j + 0 = j from rfl, shlI_w (by omega), Option.bind_some, hm, Option.bind_some, neI_iff, hj.1, if_neg (by decide), Option.bind_some, Option.bind_some, if_neg (by rw [decide_eq_true_iff]; omega)]
  | d + 1, n + 1, hd, hn, hk => by
    unfold m_cover_l3
    have hm : modI at_ (H2 (j + (d + 1))) = some (at_ % H2 (j + (d + 1))) := by unfold modI; rw [if_pos (H2_pos _)]
    have hno := hk (j + (d + 1)) (by omega) (by omega)
    have ih := cov_l3 (b := b) hw hj d n (by omega) (by omega) fun k h1 h2 => hk k h1 (by omega)
    rw [shlI_w (by omega), Option.bind_some, hm, Option.bind_some, neI_iff, Option.bind_some]
    have e : (w : Int) - ((j + (d + 1) : Nat) : Int) + 1 = (w : Int) - ((j + d : Nat) : Int) := by omega
    by_cases h1 : at_ % H2 (j + (d + 1)) = 0
    · rw [decide_eq_true h1, if_neg (by decide), Option.bind_some, if_pos (decide_eq_true (by have : ¬ _ := fun z => hno ⟨h1, z⟩; omega)), e]
      exact ih
    · rw [decide_eq_false h1, notF, Option.bind_some, if_pos rfl, e]
      exact ih
/-- the cover of one span, block by block -/
theorem cov_seg {w : Nat} (hw : w ≤ 60) {f b : Int} (hfb : f < b) : ∀ (j : Nat) (bs : List Nat), Bits bs → bs.length + j = w → (j < w → ¬ (beg bs j % H2 (j + 1) = 0 ∧ f ≤ beg bs j ∧ beg bs j + H2 (j + 1) ≤ b)) →
    ∃ ys : List Str, ys.map tl = can [(f, b)] j (beg bs j) bs ∧ (max f (beg bs j) < min b (beg bs j + H2 j) → ∀ (n : Nat) (F : List Str), F.length + ys.length ≤ 100000 →
      m_cover_l2 (w : Int) b (n + ys.length) (max f (beg bs j)) F = m_cover_l2 (w : Int) b n (min b (beg bs j + H2 j)) (F ++ ys)) := fun j => by
  have whole : ∀ (j : Nat) (bs : List Nat), Bits bs → bs.length + j = w → (j < w → ¬ (beg bs j % H2 (j + 1) = 0 ∧ f ≤ beg bs j ∧ beg bs j + H2 (j + 1) ≤ b)) → f ≤ beg bs j → beg bs j + H2 j ≤ b →
      ∃ ys : List Str, ys.map tl = can [(f, b)] j (beg bs j) bs ∧ (max f (beg bs j) < min b (beg bs j + H2 j) → ∀ (n : Nat) (F : List Str), F.length + ys.length ≤ 100000 →
      m_cover_l2 (w : Int) b (n + ys.length) (max f (beg bs j)) F = m_cover_l2 (w : Int) b n (min b (beg bs j + H2 j)) (F ++ ys)) := fun j bs hb hl hnp h1 h2 => by
    have hp := H2_pos j
    obtain ⟨y, ey, hy⟩ := pattern_at_spec hb hl hw
    refine ⟨[y], ?_, fun _ n F hF => ?_⟩
    · rw [can_full (by rw [ct_one]; unfold cn1; show max 0 (min _ b - max _ f) = _; omega), List.map_cons, hy]
      rfl
    · rw [Int.max_eq_right h1, Int.min_eq_right h2]
      have h3 := cov_l3 (b := b) (at_ := beg bs j) hw (j := j) ⟨beg_mod bs j, h2⟩ (w - j) 70 (by omega) (by omega) fun k hk1 hk2 hk => hnp (by omega) ⟨mod_up hk.1 hk1, h1, by have := H2_mono (j := j + 1) (k := k) hk1; omega⟩
      rw [show j + (w - j) = w by omega, Int.sub_self] at h3
      show m_cover_l2 (w : Int) b (n + 1) _ F = _
      conv => lhs; unfold m_cover_l2
      have ea : appL F y = some (F ++ [y]) := by unfold appL; rw [if_pos (by rw [sizeLine_eq]; have : [y].length = 1 := rfl; omega)]
      rw [if_pos (decide_eq_true (by omega)), h3, Option.bind_some, ey, Option.bind_some, ea, Option.bind_some, shlI_w (by omega), Option.bind_some]
  have none_ : ∀ (j : Nat) (bs : List Nat), ¬ (max f (beg bs j) < min b (beg bs j + H2 j)) →
      ∃ ys : List Str, ys.map tl = can [(f, b)] j (beg bs j) bs ∧ (max f (beg bs j) < min b (beg bs j + H2 j) → ∀ (n : Nat) (F : List Str), F.length + ys.length ≤ 100000 →
      m_cover_l2 (w : Int) b (n + ys.length) (max f (beg bs j)) F = m_cover_l2 (w : Int) b n (min b (beg bs j + H2 j)) (F ++ ys)) := fun j bs h =>
    ⟨[], by rw [can_none (by rw [ct_one]; unfold cn1; show max 0 (min _ b - max _ f) = _; omega)]; rfl, fun z => absurd z h⟩
  induction j with
  | zero =>
    intro bs hb hl hnp
    by_cases h : max f (beg bs 0) < min b (beg bs 0 + H2 0)
    · have := H2_zero
      exact whole 0 bs hb hl hnp (by omega) (by omega)
    · exact none_ 0 bs h
  | succ j ih =>
    intro bs hb hl hnp
    by_cases h : max f (beg bs (j + 1)) < min b (beg bs (j + 1) + H2 (j + 1))
    · by_cases hf : f ≤ beg bs (j + 1) ∧ beg bs (j + 1) + H2 (j + 1) ≤ b
      · exact whole (j + 1) bs hb hl hnp hf.1 hf.2
      · have hp := H2_pos j
        have hs := H2_succ j
        have hm := beg_mod bs (j + 1)
        obtain ⟨ys, ey, gy⟩ := ih (bs ++ [48]) (hb.app (Bits.one (by decide))) (by rw [List.length_append]; show bs.length + 1 + j = w; omega) (fun _ z => hf (by rw [beg0] at z; exact z.2))
        obtain ⟨zs, ez, gz⟩ := ih (bs ++ [49]) (hb.app (Bits.one (by decide))) (by rw [List.length_append]; show bs.length + 1 + j = w; omega) (fun _ z => by
          rw [beg1] at z
          have h1 := z.1
          have h2 : (beg bs (j + 1) + H2 j - beg bs (j + 1)) % H2 (j + 1) = 0 := by rw [Int.sub_emod, h1, hm]; rfl
          rw [show beg bs (j + 1) + H2 j - beg bs (j + 1) = H2 j by omega, Int.emod_eq_of_lt (by omega) (by omega)] at h2
          omega)
        rw [beg0] at ey gy
        rw [beg1] at ez gz
        have hne : ct [(f, b)] (beg bs (j + 1)) (beg bs (j + 1) + H2 (j + 1)) ≠ 0 := by rw [ct_one]; unfold cn1; show max 0 (min _ b - max _ f) ≠ _; omega
        have hnf : ct [(f, b)] (beg bs (j + 1)) (beg bs (j + 1) + H2 (j + 1)) ≠ H2 (j + 1) := by rw [ct_one]; unfold cn1; show max 0 (min _ b - max _ f) ≠ _; omega
        have hmid : beg bs (j + 1) + H2 j + H2 j = beg bs (j + 1) + H2 (j + 1) := by omega
        rw [hmid] at gz
        refine ⟨ys ++ zs, by rw [List.map_append, ey, ez, can_part hne hnf], fun _ n F hF => ?_⟩
        rw [List.length_append] at hF ⊢
        generalize beg bs (j + 1) = a at *
        by_cases hL : max f a < min b (a + H2 j)
        · by_cases hR : max f (a + H2 j) < min b (a + H2 (j + 1))
          · have e1 := gy hL (n + zs.length) F (by omega)
            have e2 := gz hR n (F ++ ys) (by rw [List.length_append]; omega)
            rw [show n + (ys.length + zs.length) = n + zs.length + ys.length by omega, e1, show min b (a + H2 j) = max f (a + H2 j) by omega, e2, List.append_assoc]
          · have hz0 : zs = [] := by
              have := ez
              rw [can_none (by rw [ct_one]; unfold cn1; show max 0 (min _ b - max _ f) = _; omega)] at this
              exact List.map_eq_nil_iff.mp this
            subst hz0
            have e1 := gy hL n F (by omega)
            rw [List.append_nil, show n + (ys.length + ([] : List Str).length) = n + ys.length from rfl, e1, show min b (a + H2 j) = min b (a + H2 (j + 1)) by omega]
        · have hy0 : ys = [] := by
            have := ey
            rw [can_none (by rw [ct_one]; unfold cn1; show max 0 (min _ b - max _ f) = _; omega)] at this
            exact List.map_eq_nil_iff.mp this
          subst hy0
          have e2 := gz (by omega) n F (by show F.length + zs.length ≤ _; have : ([] : List Str).length = 0 := rfl; omega)
          rw [List.nil_append, show ([] : List Str).length + zs.length = zs.length from Nat.zero_add _, show max f a = max f (a + H2 j) by omega, e2]
    · exact none_ (j + 1) bs h
theorem joined_l1 : ∀ (l F : List (Int × Int)), Rise l → Gaps F → (∀ s ∈ F, ∀ t ∈ l, s.2 ≤ t.1) → F.length + l.length ≤ 10000 →
    ∃ J, m_joined_l1 l F = some J ∧ Gaps J ∧ (∀ a e, ct J a e = ct F a e + ct l a e) ∧ J.length ≤ F.length + l.length ∧ (∀ lo hi : Int, (∀ s ∈ F, lo ≤ s.1 ∧ s.2 ≤ hi) → (∀ s ∈ l, lo ≤ s.1 ∧ s.2 ≤ hi) → ∀ s ∈ J, lo ≤ s.1 ∧ s.2 ≤ hi)
  | [], F, _, hF, _, _ => ⟨F, rfl, hF, fun a e => by rw [ct_nil]; omega, Nat.le_refl _, fun _ _ h _ => h⟩
  | t :: l, F, hl, hF, hb, hn => by
    rw [List.length_cons] at hn
    have ht := hl.1 t (List.mem_cons_self ..)
    have htl := (List.pairwise_cons.mp hl.2).1
    have fresh : (∀ s ∈ F, s.2 < t.1) → ∃ J, m_joined_l1 l (F ++ [(t.1, t.2)]) = some J ∧ Gaps J ∧ (∀ a e, ct J a e = ct F a e + ct (t :: l) a e) ∧ J.length ≤ F.length + (l.length + 1) ∧ (∀ lo hi : Int, (∀ s ∈ F, lo ≤ s.1 ∧ s.2 ≤ hi) → (∀ s ∈ t :: l, lo ≤ s.1 ∧ s.2 ≤ hi) → ∀ s ∈ J, lo ≤ s.1 ∧ s.2 ≤ hi) := fun hlt => by
      obtain ⟨J, e1, e2, e3, e4, e5⟩ := joined_l1 l (F ++ [(t.1, t.2)]) hl.tail (gaps_snoc hF ht hlt) (fun s hs u hu => (List.mem_append.mp hs).elim (fun h => hb s h u (List.mem_cons_of_mem _ hu)) fun h => by rw [List.mem_singleton.mp h]; exact htl u hu) (by rw [List.length_append]; show F.length + 1 + _ ≤ _; omega)
      refine ⟨J, e1, e2, fun a e => by rw [e3, ct_app, ct_one, ct_cons]; have : cn1 (t.1, t.2) a e = cn1 t a e := rfl; omega, by rw [List.length_append] at e4; have : [(t.1, t.2)].length = 1 := rfl; omega, fun lo hi h1 h2 => e5 lo hi (fun s hs => (List.mem_append.mp hs).elim (h1 s) fun h => by rw [List.mem_singleton.mp h]; exact h2 t (List.mem_cons_self ..)) fun s hs => h2 s (List.mem_cons_of_mem _ hs)⟩
    unfold m_joined_l1
    rcases List.eq_nil_or_concat F with rfl | ⟨Z, x, rfl⟩
    · rw [eqD_refl, notT, Option.bind_some, if_neg (by decide), appL_some (by show 0 ≤ _; omega), Option.bind_some]
      exact fresh fun _ h => nomatch h
    · rw [List.concat_eq_append] at *
      have hx := hF.1 x (List.mem_append.mpr (.inr (List.mem_singleton.mpr rfl)))
      have hxt := hb x (List.mem_append.mpr (.inr (List.mem_singleton.mpr rfl))) t (List.mem_cons_self ..)
      obtain ⟨p1, _, p3⟩ := List.pairwise_append.mp hF.2
      have hGx : ∀ s ∈ Z, s.2 < x.1 := fun s hs => p3 s hs x (List.mem_singleton.mpr rfl)
      rw [eqD_false (by simp), notF, atI_last, Option.bind_some, Option.bind_some, eqI_iff]
      by_cases he : x.2 = t.1
      · rw [decide_eq_true he, if_pos rfl, Option.bind_some, setL_last, Option.bind_some]
        obtain ⟨J, e1, e2, e3, e4, e5⟩ := joined_l1 l (Z ++ [(x.1, t.2)]) hl.tail (gaps_snoc ⟨fun s hs => hF.1 s (List.mem_append.mpr (.inl hs)), p1⟩ (by show x.1 < t.2; omega) hGx)
          (fun s hs u hu => (List.mem_append.mp hs).elim (fun h => hb s (List.mem_append.mpr (.inl h)) u (List.mem_cons_of_mem _ hu)) fun h => by rw [List.mem_singleton.mp h]; exact htl u hu) (by rw [List.length_append] at hn ⊢; show Z.length + 1 + _ ≤ _; have : [x].length = 1 := rfl; omega)
        refine ⟨J, e1, e2, fun a e => ?_, by rw [List.length_append] at e4 ⊢; have h1 : [(x.1, t.2)].length = 1 := rfl; have h2 : [x].length = 1 := rfl; rw [h1] at e4; rw [h2]; show _ ≤ _ + (l.length + 1); omega, fun lo hi h1 h2 => e5 lo hi (fun s hs => ?_) fun s hs => h2 s (List.mem_cons_of_mem _ hs)⟩
        · rw [e3, ct_app, ct_app, ct_one, ct_one, ct_cons]
          unfold cn1
          show _ + max 0 (min e t.2 - max a x.1) + _ = _
          omega
        · rcases List.mem_append.mp hs with h | h
          · exact h1 s (List.mem_append.mpr (.inl h))
          · rw [List.mem_singleton.mp h]
            exact ⟨(h1 x (List.mem_append.mpr (.inr (List.mem_singleton.mpr rfl)))).1, (h2 t (List.mem_cons_self ..)).2⟩
      · rw [decide_eq_false he, if_neg (by decide), appL_some (by omega), Option.bind_some]
        exact fresh fun s hs => by
          rcases List.mem_append.mp hs with h | h
          · have := hGx s h
            omega
          · rw [List.mem_singleton.mp h]; omega
theorem cover_l1 {w : Nat} (hw : w ≤ 30) : ∀ (J : List (Int × Int)) (F : List Str), (∀ s ∈ J, s.1 < s.2) → (∀ s ∈ J, 0 ≤ s.1 ∧ s.2 ≤ H2 w) → F.length + 61 * J.length ≤ 100000 →
    ∃ ys : List Str, m_cover_l1 (w : Int) J F = some (F ++ ys) ∧ ys.map tl = J.flatMap fun s => can [s] w 0 []
  | [], F, _, _, _ => ⟨[], by rw [List.append_nil]; rfl, rfl⟩
  | s :: J, F, h1, h2, hn => by
    rw [List.length_cons] at hn
    have k1 := h1 s (List.mem_cons_self ..)
    have k2 := h2 s (List.mem_cons_self ..)
    obtain ⟨ys, ey, gy⟩ := cov_seg (w := w) (by omega) k1 w [] Bits.nil (by rw [List.length_nil]; omega) (fun z => absurd z (Nat.lt_irrefl _))
    have e0 : beg [] w = 0 := by unfold beg; rw [show wr [] = 0 from rfl, Nat.zero_mul]; rfl
    rw [e0] at ey gy
    have hl : ys.length ≤ 61 := by
      have h3 := can_len (S := [(s.1, s.2)]) ⟨fun t ht => by rw [List.mem_singleton.mp ht]; exact k1, List.pairwise_singleton _ _⟩ w 0 []
      rw [← ey, List.length_map] at h3
      have h4 := ends_le [(s.1, s.2)] 0 (0 + H2 w)
      have h5 : w * ends [(s.1, s.2)] 0 (0 + H2 w) ≤ 30 * 2 := Nat.mul_le_mul hw h4
      omega
    have hg := gy (by omega) (70 - ys.length) F (by omega)
    rw [show max s.1 0 = s.1 by omega, show min s.2 (0 + H2 w) = s.2 by omega, show 70 - ys.length + ys.length = 70 by omega] at hg
    obtain ⟨zs, ez, gz⟩ := cover_l1 hw J (F ++ ys) (fun t ht => h1 t (List.mem_cons_of_mem _ ht)) (fun t ht => h2 t (List.mem_cons_of_mem _ ht)) (by rw [List.length_append]; omega)
    refine ⟨ys ++ zs, ?_, by rw [List.map_append, ey, gz]; rfl⟩
    unfold m_cover_l1
    have he : m_cover_l2 (w : Int) s.2 (70 - ys.length) s.2 (F ++ ys) = some (s.2, F ++ ys) := by
      rw [show 70 - ys.length = (69 - ys.length) + 1 by omega]
      unfold m_cover_l2
      rw [if_neg (by rw [decide_eq_true_iff]; omega)]
    rw [hg, he, bind2_some, ez, List.append_assoc]
theorem cover_spec {w : Nat} (hw : w ≤ 30) {S : List (Int × Int)} (hS : Rise S) (hb : ∀ s ∈ S, 0 ≤ s.1 ∧ s.2 ≤ H2 w) (hn : S.length ≤ 1000) : ∃ ys : List Str, m_cover S (w : Int) = some ys ∧ ys.map tl = can S w 0 [] := by
  obtain ⟨J, e1, e2, e3, e4, e5⟩ := joined_l1 S [] hS ⟨fun _ h => (List.not_mem_nil h).elim, List.Pairwise.nil⟩ (fun _ h => (List.not_mem_nil h).elim) (by show 0 + _ ≤ _; omega)
  have hJ : m_joined S = some J := by unfold m_joined; rw [Option.bind_some, e1]; rfl
  obtain ⟨ys, ey, gy⟩ := cover_l1 hw J [] e2.1 (e5 0 (H2 w) (fun _ h => (List.not_mem_nil h).elim) hb) (by have : ([] : List (Int × Int)).length = 0 := rfl; show 0 + _ ≤ _; omega)
  refine ⟨ys, ?_, ?_⟩
  · unfold m_cover
    rw [Option.bind_some, hJ, Option.bind_some, ey]
    rfl
  · rw [gy, ← can_each e2]
    exact can_congr w 0 [] fun f b _ _ => by rw [e3, ct_nil]; omega
end K06
namespace K06
open PySem PySem.Spec PyProof.Rows L2 TL G
theorem str_l1 {w : Nat} (hw : w ≤ 30) : ∀ (l : List Int) (E : List Int) (b : Bag), BOk b → (∀ e ∈ E, 0 ≤ e) → E ≠ [] → E.length + l.length ≤ 1000 → O2 BOk (m_l_stretches_l1 (w : Int) l E b) (fun R => (∀ e ∈ R, 0 ≤ e) ∧ R.length = E.length + l.length)
  | [], E, b, hb, hE, _, _ => O2.ret hb ⟨hE, rfl⟩
  | k :: l, E, b, hb, hE, hne, hl => by
    rw [List.length_cons] at hl
    have hE1 : 0 < E.length := List.length_pos_iff.mpr hne
    unfold m_l_stretches_l1
    refine O2.bind (draw_O hb (by omega) (by omega)) fun r84 b hb h84 => ?_
    refine O2.bind (bits_O hb (by omega) (by omega)) fun r94 b hb h94 => ?_
    refine O2.bind1 (P := fun z => (tl z).length ≤ 100) ?_ fun z hz => ?_
    · refine (Sh.mul_O (n := 1) (m := 100) (by unfold Sh; rw [tl0]; exact Nat.le_refl _) ?_ ?_ (by decide) (by decide)).imp fun z hz => hz
      · rw [len_tl, h94.2]; omega
      · omega
    refine O2.bind1 (P := fun _ => True) (catS_O (by rw [h94.2]; omega) trivial) fun z2 _ => ?_
    rw [worth_spec, Option.bind_some]
    refine O2.bind (draw_O hb (by omega) (by omega)) fun r119 b hb h119 => ?_
    refine O2.bind1 (P := fun x => 0 ≤ x) (atI_O h119.1 h119.2 hE) fun t129 ht => ?_
    refine O2.bind (draw_O hb (by decide) (by decide)) fun r134 b hb h134 => ?_
    rw [shlI_one (by omega), Option.bind_some]
    refine O2.bind (draw_O hb (by decide) (by decide)) fun r156 b hb h156 => ?_
    refine O2.bind1 (P := fun x => 0 ≤ x) (atI_O h156.1 h156.2 fun x hx => ?_) fun t167 h167 => ?_
    · simp only [List.mem_cons, List.not_mem_nil, or_false] at hx
      rcases hx with rfl | rfl | rfl | rfl | rfl
      · omega
      · omega
      · split <;> omega
      · exact Int.natCast_nonneg _
      · omega
    rw [appL_some (by omega), Option.bind_some]
    refine (str_l1 hw l (E ++ [t167]) b hb (fun e he => (List.mem_append.mp he).elim (hE e) fun h => by rw [List.mem_singleton.mp h]; exact h167) (by simp) (by rw [List.length_append]; show _ + 1 + _ ≤ _; omega)).imp fun R h => ⟨h.1, ?_⟩
    have e1 : (E ++ [t167]).length = E.length + 1 := by simp
    rw [h.2, e1]
    show _ = E.length + (l.length + 1)
    omega
theorem str_c2 {w : Nat} (hw : w ≤ 30) : ∀ l : List Int, ∃ r, m_l_stretches_c2 (w : Int) l = some r ∧ (∀ e ∈ r, e ∈ l ∧ e ≤ H2 w) ∧ r.length ≤ l.length
  | [] => ⟨[], rfl, fun _ h => (List.not_mem_nil h).elim, Nat.le_refl _⟩
  | e :: l => by
    obtain ⟨r, h1, h2, h3⟩ := str_c2 hw l
    unfold m_l_stretches_c2
    rw [shlI_one (by omega), Option.bind_some]
    by_cases h : e ≤ H2 w
    · rw [if_pos (decide_eq_true h), h1]
      refine ⟨e :: r, rfl, fun x hx => ?_, by rw [List.length_cons, List.length_cons]; omega⟩
      rcases List.mem_cons.mp hx with rfl | hx
      · exact ⟨List.mem_cons_self .., h⟩
      · exact ⟨List.mem_cons_of_mem _ (h2 x hx).1, (h2 x hx).2⟩
    · rw [if_neg (by rw [decide_eq_true_iff]; exact h), h1]
      exact ⟨r, rfl, fun x hx => ⟨List.mem_cons_of_mem _ (h2 x hx).1, (h2 x hx).2⟩, by rw [List.length_cons]; omega⟩
theorem str_l3 {w : Nat} {t : List Int} (ht : t.Pairwise (· < ·)) (hb0 : ∀ e ∈ t, 0 ≤ e ∧ e ≤ H2 w) (htl : t.length ≤ 2000) : ∀ (m k : Nat) (F : List (Int × Int)) (b : Bag), BOk b → 1 ≤ k → k + m ≤ t.length → Rise F → (∀ s ∈ F, 0 ≤ s.1 ∧ s.2 ≤ H2 w) → (∀ s ∈ F, ∀ (i : Nat) (h : i < t.length), k ≤ i + 1 → s.2 ≤ t[i]) → F.length + m ≤ 2000 →
    O2 BOk (m_l_stretches_l3 t (rangeL (k : Nat) m) F b) (fun R => Rise R ∧ (∀ s ∈ R, 0 ≤ s.1 ∧ s.2 ≤ H2 w) ∧ R.length ≤ F.length + m)
  | 0, k, F, b, hb, _, _, hF, hB, _, _ => O2.ret hb ⟨hF, hB, Nat.le_refl _⟩
  | m + 1, k, F, b, hb, h1, hk, hF, hB, hlast, hl => by
    rw [rangeL_succ, show ((k : Nat) : Int) + 1 = ((k + 1 : Nat) : Int) by omega]
    unfold m_l_stretches_l3
    refine O2.bind (draw_O hb (by decide) (by decide)) fun r b hb hr => ?_
    have hsort : ∀ (i j : Nat) (hi : i < t.length) (hj : j < t.length), i < j → t[i] < t[j] := fun i j hi hj hij => List.pairwise_iff_getElem.mp ht i j hi hj hij
    refine O2.ite (fun _ => ?_) (fun _ => ?_)
    · have a1 : atI t ((k : Nat) - (1 : Int)) = some t[k - 1] := by
        rw [show ((k : Nat) : Int) - 1 = ((k - 1 : Nat) : Int) by omega]
        exact atI_nat (List.getElem?_eq_getElem (by omega))
      have a2 : atI t ((k : Nat) : Int) = some t[k] := atI_nat (List.getElem?_eq_getElem (by omega))
      rw [a1, Option.bind_some, a2, Option.bind_some, appL_some (by omega), Option.bind_some]
      have hlt := hsort (k - 1) k (by omega) (by omega) (by omega)
      have p1 := hb0 _ (List.getElem_mem (l := t) (n := k - 1) (by omega))
      have p2 := hb0 _ (List.getElem_mem (l := t) (n := k) (by omega))
      refine (str_l3 ht hb0 htl m (k + 1) (F ++ [(t[k - 1], t[k])]) b hb (by omega) (by omega) ⟨fun s hs => ?_, List.pairwise_append.mpr ⟨hF.2, List.pairwise_singleton _ _, fun s hs u hu => ?_⟩⟩ (fun s hs => ?_) (fun s hs i hi hki => ?_) (by rw [List.length_append]; show _ + 1 + _ ≤ _; omega)).imp fun R h => ⟨h.1, h.2.1, Nat.le_trans h.2.2 (by rw [List.length_append]; show _ + 1 + _ ≤ _; omega)⟩
      · rcases List.mem_append.mp hs with h | h
        · exact hF.1 s h
        · rw [List.mem_singleton.mp h]; exact hlt
      · rw [List.mem_singleton.mp hu]
        exact hlast s hs (k - 1) (by omega) (by omega)
      · rcases List.mem_append.mp hs with h | h
        · exact hB s h
        · rw [List.mem_singleton.mp h]; exact ⟨p1.1, p2.2⟩
      · rcases List.mem_append.mp hs with h | h
        · exact hlast s h i hi (by omega)
        · rw [List.mem_singleton.mp h]
          by_cases e : i = k
          · subst e; exact Int.le_refl _
          · exact Int.le_of_lt (hsort k i (by omega) hi (by omega))
    · exact (str_l3 ht hb0 htl m (k + 1) F b hb (by omega) (by omega) hF hB (fun s hs i hi hki => hlast s hs i hi (by omega)) (by omega)).imp fun R h => ⟨h.1, h.2.1, Nat.le_trans h.2.2 (by omega)⟩
theorem stretches_O {b : Bag} {w : Nat} (hb : BOk b) (hw : w ≤ 30) : O2 BOk (m_l_stretches b (w : Int)) (fun S => Rise S ∧ (∀ s ∈ S, 0 ≤ s.1 ∧ s.2 ≤ H2 w) ∧ S.length ≤ 150) := by
  unfold m_l_stretches
  rw [Option.bind_some]
  refine O2.bind (draw_O hb (by decide) (by decide)) fun r12 b hb h12 => ?_
  refine O2.bind (draw_O hb (by decide) (by decide)) fun r22 b hb h22 => ?_
  refine O2.bind (draw_O hb (by decide) (by decide)) fun r41 b hb h41 => ?_
  refine O2.bind1 (P := fun k => 0 ≤ k ∧ k ≤ 100) (atI_O h41.1 h41.2 fun x hx => ?_) fun k hk => ?_
  · rcases List.mem_cons.mp hx with rfl | hx
    · omega
    · rw [List.mem_singleton.mp hx]; omega
  refine O2.bind1 (rangeO1_O (P := fun l => l.length ≤ 100) (by omega) (by omega) (by rw [rangeL_length]; omega)) fun l hl => ?_
  refine O2.bind (str_l1 hw l [0] b hb (fun e he => by rw [List.mem_singleton.mp he]; exact Int.le_refl _) (by simp) (by show 1 + _ ≤ _; omega)) fun E b hb hE => ?_
  obtain ⟨E2, e2, m2, l2⟩ := str_c2 hw E
  have hlen : E.length ≤ 1 + 100 := by rw [hE.2]; show 1 + _ ≤ _; omega
  have e3 : ssetO E2 = some (ssort E2) := by unfold ssetO; rw [if_pos (by omega)]
  have hl3 := ssort_len E2
  rw [e2, Option.bind_some, e3, Option.bind_some, Option.bind_some]
  have e4 : rangeO (1 : Int) (((ssort E2).length : Nat) : Int) = some (rangeL ((1 : Nat) : Int) ((ssort E2).length - 1)) := by
    unfold rangeO
    rw [if_pos ⟨by omega, by rw [sizeLine_eq]; omega⟩, show (((ssort E2).length : Nat) : Int) - 1 = (((ssort E2).length : Nat) : Int) - ((1 : Nat) : Int) from rfl, show ((((ssort E2).length : Nat) : Int) - ((1 : Nat) : Int)).toNat = (ssort E2).length - 1 by omega]
    rfl
  rw [e4, Option.bind_some]
  by_cases hz : (ssort E2).length = 0
  · rw [hz]
    exact O2.ret hb ⟨⟨fun _ h => (List.not_mem_nil h).elim, List.Pairwise.nil⟩, fun _ h => (List.not_mem_nil h).elim, Nat.zero_le _⟩
  · refine O2.bind (str_l3 (ssort_sorted E2) (fun e he => ⟨hE.1 e (m2 e (ssort_mem.mp he)).1, (m2 e (ssort_mem.mp he)).2⟩) (by omega) ((ssort E2).length - 1) 1 [] b hb (Nat.le_refl _) (by omega) ⟨fun _ h => (List.not_mem_nil h).elim, List.Pairwise.nil⟩ (fun _ h => (List.not_mem_nil h).elim) (fun _ h => (List.not_mem_nil h).elim) (by show 0 + _ ≤ _; omega)) fun R b hb hR => ?_
    exact O2.ret hb ⟨hR.1, hR.2.1, Nat.le_trans hR.2.2 (by show 0 + _ ≤ _; omega)⟩
end K06
namespace K06
open PySem PySem.Spec PyProof.Rows L2 TL G
/-! ### turned -/
def fs (c : Nat) : Nat := if c = 42 then 42 else flip c
abbrev tab : List (Str × Str) := [(("0" : Str), ("1" : Str)), (("1" : Str), ("0" : Str)), (("*" : Str), ("*" : Str))]
theorem tu_one {c : Nat} (h : c = 48 ∨ c = 49 ∨ c = 42) : ∃ y, dgetI tab (sgn c) = some y ∧ tl y = [fs c] := by
  rcases h with rfl | rfl | rfl
  · exact ⟨("1" : Str), by decide +kernel, tl1⟩
  · exact ⟨("0" : Str), by decide +kernel, tl0⟩
  · exact ⟨("*" : Str), by decide +kernel, tlStar⟩
theorem tu_c1 : ∀ cs : List Nat, (∀ c ∈ cs, c = 48 ∨ c = 49 ∨ c = 42) → ∃ l, m_l_turned_c1 cs = some l ∧ l.map tl = cs.map fun c => [fs c]
  | [], _ => ⟨[], rfl, rfl⟩
  | c :: cs, h => by
    obtain ⟨y, e1, h1⟩ := tu_one (h c (List.mem_cons_self ..))
    obtain ⟨l, e2, h2⟩ := tu_c1 cs fun d hd => h d (List.mem_cons_of_mem _ hd)
    unfold m_l_turned_c1
    rw [e1, Option.bind_some, e2]
    exact ⟨y :: l, rfl, by rw [List.map_cons, List.map_cons, h1, h2]⟩
theorem flat_one : ∀ cs : List Nat, (cs.map fun c => [fs c]).flatten = cs.map fs
  | [] => rfl
  | c :: cs => by rw [List.map_cons, List.flatten_cons, flat_one cs]; rfl
theorem turned_spec {w : Nat} {u : List Nat} {x : Str} (p : Pat w u x) (hw : w ≤ 60) : ∃ y, m_l_turned x = some y ∧ Pat w (fl u) y := by
  have hle := p.le
  have hsig : ∀ c ∈ tl x, c = 48 ∨ c = 49 ∨ c = 42 := fun c hc => by
    rw [p.eq, patL] at hc
    rcases List.mem_append.mp hc with h | h
    · have := isB_iff.mp (p.bits c h)
      omega
    · split at h
      · exact .inr (.inr (List.mem_singleton.mp h))
      · cases h
  obtain ⟨l, e1, h1⟩ := tu_c1 (tl x) hsig
  have hl : l.length = (tl x).length := by have := congrArg List.length h1; rwa [List.length_map, List.length_map] at this
  have hs : ∀ y ∈ l, Sh 1 y := fun y hy => by
    have : tl y ∈ l.map tl := List.mem_map.mpr ⟨y, hy, rfl⟩
    rw [h1] at this
    obtain ⟨c, _, e⟩ := List.mem_map.mp this
    unfold Sh
    rw [← e]
    exact Nat.le_refl _
  have hsum := sh_sum hs
  have hx := p.len
  obtain ⟨y, e2, h2⟩ := joinS_O (sep := ("" : Str)) (ys := l) (P := fun y => tl y = (tl x).map fs) (by rw [tl_empty]; show _ + _ * 0 ≤ _; omega) (by rw [tl_join0, h1, flat_one])
  refine ⟨y, ?_, fl_bits p.bits, by rw [fl_len]; exact hle, ?_⟩
  · unfold m_l_turned
    rw [show x.cps.toList = tl x from rfl, e1, Option.bind_some, e2]
    rfl
  · rw [h2, p.eq]
    unfold patL
    rw [List.map_append, fl_len]
    congr 1
    · refine List.map_congr_left fun c hc => ?_
      have := isB_iff.mp (p.bits c hc)
      unfold fs
      rw [if_neg (by omega)]
    · split <;> rfl
theorem tr_c1 {w : Nat} (hw : w ≤ 60) {us : List (List Nat)} {ys : List Str} (h : Pats w us ys) : ∃ zs, m_l_turned_right_c1 ys = some zs ∧ Pats w (us.map fl) zs :=
  Pats.rec_ (P := fun us ys => ∃ zs, m_l_turned_right_c1 ys = some zs ∧ Pats w (us.map fl) zs) ⟨[], rfl, Pats.nil⟩ (fun u us y ys p _ ih => by
    obtain ⟨zs, e, k⟩ := ih
    obtain ⟨z, e2, k2⟩ := turned_spec p hw
    refine ⟨z :: zs, ?_, Pats.cons k2 k⟩
    unfold m_l_turned_right_c1
    rw [e2, Option.bind_some, e]
    rfl) h
theorem tr_c2 {w : Nat} (hw : w ≤ 60) {us : List (List Nat)} {ys : List Str} (h : Pats w us ys) : ∃ zs, m_l_turned_right_c2 ys = some zs ∧ Pats w (us.map fl) zs :=
  Pats.rec_ (P := fun us ys => ∃ zs, m_l_turned_right_c2 ys = some zs ∧ Pats w (us.map fl) zs) ⟨[], rfl, Pats.nil⟩ (fun u us y ys p _ ih => by
    obtain ⟨zs, e, k⟩ := ih
    obtain ⟨z, e2, k2⟩ := turned_spec p hw
    refine ⟨z :: zs, ?_, Pats.cons k2 k⟩
    unfold m_l_turned_right_c2
    rw [e2, Option.bind_some, e]
    rfl) h
theorem mi_c1 {w : Nat} (hw : w ≤ 60) : ∀ S : List (Int × Int), m_l_mirrored_c1 (w : Int) S = some (S.map (mir (H2 w)))
  | [] => rfl
  | s :: S => by
    unfold m_l_mirrored_c1
    rw [shlI_H (by omega), Option.bind_some, Option.bind_some, mi_c1 hw S]
    rfl
theorem mirrored_spec {w : Nat} (hw : w ≤ 60) (S : List (Int × Int)) : m_l_mirrored S (w : Int) = some ((S.map (mir (H2 w))).reverse) := by
  unfold m_l_mirrored
  rw [mi_c1 hw, Option.bind_some, List.map_reverse]
theorem rise_mir {S : List (Int × Int)} (h : Rise S) (W : Int) : Rise ((S.map (mir W)).reverse) :=
  ⟨fun s hs => by
    obtain ⟨t, ht, rfl⟩ := List.mem_map.mp (List.mem_reverse.mp hs)
    have := h.1 t ht
    show W - t.2 < W - t.1
    omega, List.pairwise_reverse.mpr (List.pairwise_map.mpr (h.2.imp fun {s t} k => by show W - t.1 ≤ W - s.2; omega))⟩
theorem rise_shf {S : List (Int × Int)} (h : Rise S) (d : Int) : Rise (S.map (shf d)) :=
  ⟨fun s hs => by
    obtain ⟨t, ht, rfl⟩ := List.mem_map.mp hs
    have := h.1 t ht
    show t.1 + d < t.2 + d
    omega, List.pairwise_map.mpr (h.2.imp fun {s t} k => by show s.2 + d ≤ t.1 + d; omega)⟩
theorem rise_dbl {S : List (Int × Int)} (h : Rise S) : Rise (S.map dbl) :=
  ⟨fun s hs => by
    obtain ⟨t, ht, rfl⟩ := List.mem_map.mp hs
    have := h.1 t ht
    show 2 * t.1 < 2 * t.2
    omega, List.pairwise_map.mpr (h.2.imp fun {s t} k => by show 2 * s.2 ≤ 2 * t.1; omega)⟩
theorem spans_fl {w : Nat} {us : List (List Nat)} (h : ∀ u ∈ us, Bits u ∧ u.length ≤ w) : (us.map fl).map (spB w) = (us.map (spB w)).map (mir (H2 w)) := by
  rw [List.map_map, List.map_map]
  exact List.map_congr_left fun u hu => spB_fl (h u hu).1 (h u hu).2
theorem turned_true {w : Nat} (hw : 1 ≤ w ∧ w ≤ 29) {ps : List Str} {S : List (Int × Int)} (hp : ∀ p ∈ ps, IsPat w p) (hl : ps.length ≤ 100) (hS : Rise S) (hB : ∀ s ∈ S, 0 ≤ s.1 ∧ s.2 ≤ H2 w) (hn : S.length ≤ 150) : m_l_turned_right ps S (w : Int) = some true := by
  have P := Pats.of hp
  obtain ⟨qs, e1, Q⟩ := tr_c1 (by omega) P
  have ql : qs.length = ps.length := by rw [Q.len, List.length_map, List.length_map]
  have e2 := parts_spec (w := w) (by omega) Q.each (by omega)
  have e3 := parts_spec (w := w) (by omega) hp (by omega)
  rw [Q.spans, spans_fl P.ok, ← P.spans, parts_mir (spOk hp)] at e2
  obtain ⟨ys, e4, h4⟩ := cover_spec (w := w) (by omega) hS hB (by omega)
  obtain ⟨zs, e5, Z⟩ := tr_c2 (by omega) (can_pats hS h4).rev
  obtain ⟨vs, e6, h6⟩ := cover_spec (w := w) (by omega) (rise_mir hS (H2 w)) (fun s hs => by
    obtain ⟨t, ht, rfl⟩ := List.mem_map.mp (List.mem_reverse.mp hs)
    have := hB t ht
    show 0 ≤ H2 w - t.2 ∧ H2 w - t.1 ≤ H2 w
    omega) (by rw [List.length_reverse, List.length_map]; omega)
  have V := can_pats (rise_mir hS (H2 w)) h6
  have e7 := canB_mir hS (H2 w) w 0 []
  rw [show H2 w - (0 + H2 w) = 0 by omega, show fl [] = [] from rfl] at e7
  rw [e7, ← List.map_reverse] at V
  have e8 : vs = zs := V.uniq Z
  unfold m_l_turned_right
  rw [e1, Option.bind_some, e2, Option.bind_some, e3, Option.bind_some, mirrored_spec (by omega), Option.bind_some, eqD_refl, notT, e4, Option.bind_some, e5, Option.bind_some, mirrored_spec (by omega), Option.bind_some, e6, Option.bind_some, e8, eqD_refl]
/-! ### a sign ahead -/
theorem pat_0 {w : Nat} {u : List Nat} {x : Str} (p : Pat w u x) (hw : w ≤ 60) : ∃ y, catS ("0" : Str) x = some y ∧ Pat (w + 1) (48 :: u) y := by
  have hl := p.len
  have hle := p.le
  obtain ⟨y, e, h⟩ := catS_O (a := ("0" : Str)) (b := x) (P := fun y => tl y = 48 :: tl x) (by rw [tl0]; show 1 + _ ≤ _; omega) (by rw [tl_append, tl0]; rfl)
  refine ⟨y, e, (Bits.one (by decide)).app p.bits, by rw [List.length_cons]; omega, ?_⟩
  rw [h, p.eq]
  unfold patL
  rw [List.length_cons]
  by_cases k : u.length < w
  · rw [if_pos k, if_pos (by omega)]; rfl
  · rw [if_neg k, if_neg (by omega)]; rfl
theorem pat_1 {w : Nat} {u : List Nat} {x : Str} (p : Pat w u x) (hw : w ≤ 60) : ∃ y, catS ("1" : Str) x = some y ∧ Pat (w + 1) (49 :: u) y := by
  have hl := p.len
  have hle := p.le
  obtain ⟨y, e, h⟩ := catS_O (a := ("1" : Str)) (b := x) (P := fun y => tl y = 49 :: tl x) (by rw [tl1]; show 1 + _ ≤ _; omega) (by rw [tl_append, tl1]; rfl)
  refine ⟨y, e, (Bits.one (by decide)).app p.bits, by rw [List.length_cons]; omega, ?_⟩
  rw [h, p.eq]
  unfold patL
  rw [List.length_cons]
  by_cases k : u.length < w
  · rw [if_pos k, if_pos (by omega)]; rfl
  · rw [if_neg k, if_neg (by omega)]; rfl
theorem ah_c1 {w : Nat} (hw : w ≤ 60) {us : List (List Nat)} {ys : List Str} (h : Pats w us ys) : ∃ zs, m_l_ahead_right_c1 ys = some zs ∧ Pats (w + 1) (us.map (48 :: ·)) zs :=
  Pats.rec_ (P := fun us ys => ∃ zs, m_l_ahead_right_c1 ys = some zs ∧ Pats (w + 1) (us.map (48 :: ·)) zs) ⟨[], rfl, Pats.nil⟩ (fun u us y ys p _ ih => by
    obtain ⟨zs, e, k⟩ := ih
    obtain ⟨z, e2, k2⟩ := pat_0 p hw
    refine ⟨z :: zs, ?_, Pats.cons k2 k⟩
    unfold m_l_ahead_right_c1
    rw [e2, Option.bind_some, e]
    rfl) h
theorem ah_c2 {w : Nat} (hw : w ≤ 60) {us : List (List Nat)} {ys : List Str} (h : Pats w us ys) : ∃ zs, m_l_ahead_right_c2 ys = some zs ∧ Pats (w + 1) (us.map (49 :: ·)) zs :=
  Pats.rec_ (P := fun us ys => ∃ zs, m_l_ahead_right_c2 ys = some zs ∧ Pats (w + 1) (us.map (49 :: ·)) zs) ⟨[], rfl, Pats.nil⟩ (fun u us y ys p _ ih => by
    obtain ⟨zs, e, k⟩ := ih
    obtain ⟨z, e2, k2⟩ := pat_1 p hw
    refine ⟨z :: zs, ?_, Pats.cons k2 k⟩
    unfold m_l_ahead_right_c2
    rw [e2, Option.bind_some, e]
    rfl) h
theorem ah_c5 {w : Nat} (hw : w ≤ 60) {us : List (List Nat)} {ys : List Str} (h : Pats w us ys) : ∃ zs, m_l_ahead_right_c5 ys = some zs ∧ Pats (w + 1) (us.map (49 :: ·)) zs :=
  Pats.rec_ (P := fun us ys => ∃ zs, m_l_ahead_right_c5 ys = some zs ∧ Pats (w + 1) (us.map (49 :: ·)) zs) ⟨[], rfl, Pats.nil⟩ (fun u us y ys p _ ih => by
    obtain ⟨zs, e, k⟩ := ih
    obtain ⟨z, e2, k2⟩ := pat_1 p hw
    refine ⟨z :: zs, ?_, Pats.cons k2 k⟩
    unfold m_l_ahead_right_c5
    rw [e2, Option.bind_some, e]
    rfl) h
theorem ah_c3 (d : Int) : ∀ S, m_l_ahead_right_c3 d S = S.map (shf d)
  | [] => rfl
  | s :: S => by unfold m_l_ahead_right_c3; rw [ah_c3 d S]; rfl
theorem ah_c4 (d : Int) : ∀ S, m_l_ahead_right_c4 d S = S.map (shf d)
  | [] => rfl
  | s :: S => by unfold m_l_ahead_right_c4; rw [ah_c4 d S]; rfl
theorem ah_c7 (d : Int) : ∀ S, m_l_ahead_right_c7 d S = S.map (shf d)
  | [] => rfl
  | s :: S => by unfold m_l_ahead_right_c7; rw [ah_c7 d S]; rfl
theorem ah_c6 {w : Nat} (hw : w ≤ 60) : ∀ l : List Str, (∀ y ∈ l, IsPat w y) → m_l_ahead_right_c6 (w : Int) l = some (l.map (spI w))
  | [], _ => rfl
  | y :: l, h => by
    unfold m_l_ahead_right_c6
    rw [spanI (h y (List.mem_cons_self ..)) hw, Option.bind_some, ah_c6 hw l fun z hz => h z (List.mem_cons_of_mem _ hz)]
    rfl
theorem ah_c8 {w : Nat} (hw : w ≤ 50) : ∀ l : List Str, (∀ y ∈ l, IsPat w y) → m_l_ahead_right_c8 (w : Int) l = some ((l.map (spI w)).map (shf (H2 w)))
  | [], _ => rfl
  | y :: l, h => by
    obtain ⟨u, p⟩ := h y (List.mem_cons_self ..)
    obtain ⟨z, e, k⟩ := pat_1 p (by omega)
    unfold m_l_ahead_right_c8
    rw [e, Option.bind_some, show (w : Int) + 1 = ((w + 1 : Nat) : Int) by omega, spanI ⟨_, k⟩ (by omega), Option.bind_some, ah_c8 hw l fun z hz => h z (List.mem_cons_of_mem _ hz), spI_spB k, spB_1 p.le, ← spI_spB p]
    rfl
theorem spans_0 {w : Nat} {us : List (List Nat)} : (us.map (48 :: ·)).map (spB (w + 1)) = us.map (spB w) := by
  rw [List.map_map]
  exact List.map_congr_left fun u _ => spB_0
theorem spans_1 {w : Nat} {us : List (List Nat)} (h : ∀ u ∈ us, Bits u ∧ u.length ≤ w) : (us.map (49 :: ·)).map (spB (w + 1)) = (us.map (spB w)).map (shf (H2 w)) := by
  rw [List.map_map, List.map_map]
  exact List.map_congr_left fun u hu => spB_1 (h u hu).2
theorem ahead_true {w : Nat} (hw : 1 ≤ w ∧ w ≤ 29) {ps : List Str} {S : List (Int × Int)} (hp : ∀ p ∈ ps, IsPat w p) (hl : ps.length ≤ 100) (hS : Rise S) (hB : ∀ s ∈ S, 0 ≤ s.1 ∧ s.2 ≤ H2 w) (hn : S.length ≤ 150) : m_l_ahead_right ps S (w : Int) = some true := by
  have P := Pats.of hp
  have e0 := parts_spec (w := w) (by omega) hp (by omega)
  obtain ⟨qs, e1, Q⟩ := ah_c1 (by omega) P
  obtain ⟨rs, e2, R⟩ := ah_c2 (by omega) P
  have ql : qs.length = ps.length := by rw [Q.len, List.length_map, List.length_map]
  have rl : rs.length = ps.length := by rw [R.len, List.length_map, List.length_map]
  have Z0 : Pats (w + 1) [[48]] [("0*" : Str)] := Pats.cons ⟨Bits.one (by decide), by show 1 ≤ _; omega, by
    have : tl ("0*" : Str) = [48, 42] := by decide +kernel
    rw [this]
    unfold patL
    rw [if_pos (show [48].length < w + 1 by show 1 < _; omega)]
    rfl⟩ Pats.nil
  have A := (Q.app R).app Z0
  have e3 := parts_spec (w := w + 1) (by omega) A.each (by rw [List.length_append, List.length_append]; show _ + 1 ≤ _; omega)
  have es : (qs ++ rs ++ [("0*" : Str)]).map (spI (w + 1)) = ps.map (spI w) ++ (ps.map (spI w)).map (shf (H2 w)) ++ [(0, H2 w)] := by
    rw [A.spans, List.map_append, List.map_append, spans_0, spans_1 P.ok, ← P.spans]
    have e9 : spB (w + 1) [48] = (0, H2 w) := by
      rw [spB_0 (w := w) (u := [])]
      unfold spB
      rw [List.length_nil, Nat.sub_zero, beg_nil, Int.zero_add]
    rw [List.map_cons, List.map_nil, e9]
  rw [es, parts_ahead (spOk hp)] at e3
  have hle : (prsL (edgesOf w (ps.map (spI w)))).length ≤ 300 := by
    refine Nat.le_trans (prs_len _) ?_
    unfold edgesOf
    refine Nat.le_trans (ssort_len _) ?_
    rw [List.length_append, flat2_len, List.length_map]
    show 2 + _ ≤ _
    omega
  have h2 := H2_succ w
  have hp0 := H2_pos w
  obtain ⟨ys, e4, h4⟩ := cover_spec (w := w) (by omega) hS hB (by omega)
  obtain ⟨vs, e5, h5⟩ := cover_spec (w := w + 1) (by omega) (rise_shf hS (H2 w)) (fun s hs => by
    obtain ⟨t, ht, rfl⟩ := List.mem_map.mp hs
    have := hB t ht
    show 0 ≤ t.1 + H2 w ∧ t.2 + H2 w ≤ _
    omega) (by rw [List.length_map]; omega)
  obtain ⟨zs, e6, Z⟩ := ah_c5 (by omega) (can_pats hS h4)
  have V := can_pats (rise_shf hS (H2 w)) h5
  rw [canB_ahead hS hB] at V
  have e7 : vs = zs := V.uniq Z
  unfold m_l_ahead_right
  rw [shlI_H (by omega), Option.bind_some, e0, Option.bind_some, e1, Option.bind_some, e2, Option.bind_some, conL_some (by omega), Option.bind_some, conL_some (by rw [List.length_append]; show _ + 1 ≤ _; omega), Option.bind_some,
    show (w : Int) + 1 = ((w + 1 : Nat) : Int) by omega, e3, Option.bind_some, ah_c3, conL_some (by rw [List.length_map]; omega), Option.bind_some, eqD_refl, notT, Option.bind_some, ah_c4, e5, Option.bind_some, e4, Option.bind_some, e6, Option.bind_some, e7, eqD_refl, notT,
    ah_c6 (by omega) ps hp, Option.bind_some, Option.bind_some, ah_c7, ah_c8 (by omega) ps hp, Option.bind_some, eqD_refl]
/-! ### a sign behind -/
theorem last_star {w : Nat} {u : List Nat} {x : Str} (p : Pat w u x) : eqS (cutS x (some (-(1 : Int))) none) ("*" : Str) = decide (u.length < w) := by
  rw [eqS_tl, tl_cut, tlStar, sIx_neg1, sIx_n, List.take_of_length_le (by rw [List.length_drop]; exact Nat.le_refl _), p.eq]
  unfold patL
  by_cases h : u.length < w
  · rw [if_pos h, decide_eq_true h]
    exact decide_eq_true (by rw [List.length_append]; exact List.drop_left)
  · rw [if_neg h, decide_eq_false h, List.append_nil]
    exact decide_eq_false fun z => p.bits.no42 (List.mem_of_mem_drop (show 42 ∈ u.drop (u.length - 1) by rw [z]; exact List.mem_singleton.mpr rfl))
theorem pat_longer {w : Nat} {u : List Nat} {x : Str} (p : Pat w u x) (hw : w ≤ 60) : ∃ y, (if (eqS (cutS x (some (-(1 : Int))) none) ("*" : Str)) = true then some x else (Option.bind (catS x ("*" : Str)) fun t => some t)) = some y ∧ Pat (w + 1) u y := by
  have hl := p.len
  have hle := p.le
  rw [last_star p]
  by_cases h : u.length < w
  · rw [if_pos (decide_eq_true h)]
    exact ⟨x, rfl, p.bits, by omega, by rw [p.eq]; unfold patL; rw [if_pos h, if_pos (by omega)]⟩
  · rw [if_neg (by rw [decide_eq_true_iff]; exact h)]
    obtain ⟨y, e, k⟩ := catS_O (a := x) (b := ("*" : Str)) (P := fun y => tl y = tl x ++ [42]) (by rw [tlStar]; show _ + 1 ≤ _; omega) (by rw [tl_append, tlStar])
    rw [e]
    exact ⟨y, rfl, p.bits, by omega, by rw [k, p.eq]; unfold patL; rw [if_neg h, if_pos (by omega), List.append_nil]⟩
theorem be_c1 {w : Nat} (hw : w ≤ 60) {us : List (List Nat)} {ys : List Str} (h : Pats w us ys) : ∃ zs, m_l_behind_right_c1 ys = some zs ∧ Pats (w + 1) us zs :=
  Pats.rec_ (P := fun us ys => ∃ zs, m_l_behind_right_c1 ys = some zs ∧ Pats (w + 1) us zs) ⟨[], rfl, Pats.nil⟩ (fun u us y ys p _ ih => by
    obtain ⟨zs, e, k⟩ := ih
    obtain ⟨z, e2, k2⟩ := pat_longer p hw
    refine ⟨z :: zs, ?_, Pats.cons k2 k⟩
    unfold m_l_behind_right_c1
    rw [e2, Option.bind_some, e]
    rfl) h
theorem be_c3 {w : Nat} (hw : w ≤ 60) {us : List (List Nat)} {ys : List Str} (h : Pats w us ys) : ∃ zs, m_l_behind_right_c3 ys = some zs ∧ Pats (w + 1) us zs :=
  Pats.rec_ (P := fun us ys => ∃ zs, m_l_behind_right_c3 ys = some zs ∧ Pats (w + 1) us zs) ⟨[], rfl, Pats.nil⟩ (fun u us y ys p _ ih => by
    obtain ⟨zs, e, k⟩ := ih
    obtain ⟨z, e2, k2⟩ := pat_longer p hw
    refine ⟨z :: zs, ?_, Pats.cons k2 k⟩
    unfold m_l_behind_right_c3
    rw [e2, Option.bind_some, e]
    rfl) h
theorem be_c2 : ∀ S, m_l_behind_right_c2 S = S.map dbl
  | [] => rfl
  | s :: S => by unfold m_l_behind_right_c2; rw [be_c2 S]; rfl
theorem be_c4 : ∀ S, m_l_behind_right_c4 S = S.map dbl
  | [] => rfl
  | s :: S => by unfold m_l_behind_right_c4; rw [be_c4 S]; rfl
theorem spans_dbl {w : Nat} {us : List (List Nat)} (h : ∀ u ∈ us, Bits u ∧ u.length ≤ w) : us.map (spB (w + 1)) = (us.map (spB w)).map dbl := by
  rw [List.map_map]
  exact List.map_congr_left fun u hu => spB_dbl (h u hu).2
theorem behind_true {w : Nat} (hw : 1 ≤ w ∧ w ≤ 29) {ps : List Str} {S : List (Int × Int)} (hp : ∀ p ∈ ps, IsPat w p) (hl : ps.length ≤ 100) (hS : Rise S) (hB : ∀ s ∈ S, 0 ≤ s.1 ∧ s.2 ≤ H2 w) (hn : S.length ≤ 150) : m_l_behind_right ps S (w : Int) = some true := by
  have P := Pats.of hp
  have e0 := parts_spec (w := w) (by omega) hp (by omega)
  obtain ⟨qs, e1, Q⟩ := be_c1 (by omega) P
  have ql : qs.length = ps.length := by rw [Q.len, List.length_map]
  have e3 := parts_spec (w := w + 1) (by omega) Q.each (by omega)
  rw [Q.spans, spans_dbl P.ok, ← P.spans, parts_dbl (spOk hp)] at e3
  have h2 := H2_succ w
  obtain ⟨ys, e4, h4⟩ := cover_spec (w := w) (by omega) hS hB (by omega)
  obtain ⟨zs, e5, Z⟩ := be_c3 (by omega) (can_pats hS h4)
  obtain ⟨vs, e6, h6⟩ := cover_spec (w := w + 1) (by omega) (rise_dbl hS) (fun s hs => by
    obtain ⟨t, ht, rfl⟩ := List.mem_map.mp hs
    have := hB t ht
    show 0 ≤ 2 * t.1 ∧ 2 * t.2 ≤ _
    omega) (by rw [List.length_map]; omega)
  have V := can_pats (rise_dbl hS) h6
  have e8 := canB_dbl hS w 0 []
  rw [Int.mul_zero] at e8
  rw [e8] at V
  have e7 : vs = zs := V.uniq Z
  unfold m_l_behind_right
  rw [e1, Option.bind_some, show (w : Int) + 1 = ((w + 1 : Nat) : Int) by omega, e3, Option.bind_some, e0, Option.bind_some, be_c2, eqD_refl, notT, e4, Option.bind_some, e5, Option.bind_some, be_c4, e6, Option.bind_some, e7, eqD_refl]
/-! ### the law -/
theorem law_l1 {w : Nat} (hw : 1 ≤ w ∧ w ≤ 29) : ∀ (l : List Int) (b : Bag), BOk b → ∃ b', m_law_l1 (w : Int) l b = some (.go b') ∧ BOk b'
  | [], b, hb => ⟨b, rfl, hb⟩
  | k :: l, b, hb => by
    obtain ⟨ps, b2, e2, hb2, hp, hl⟩ := some_O (w := w) hb (by omega) (m := 16) (by omega)
    obtain ⟨S, b3, e3, hb3, hS, hB, hn⟩ := stretches_O (w := w) hb2 (by omega)
    obtain ⟨b', e4, hb'⟩ := law_l1 hw l b3 hb3
    refine ⟨b', ?_, hb'⟩
    unfold m_law_l1
    rw [e2, bind2_some, e3, bind2_some, turned_true hw hp hl hS hB hn, Option.bind_some, notT, ahead_true hw hp hl hS hB hn, Option.bind_some, Option.bind_some, if_neg (by decide), behind_true hw hp hl hS hB hn, Option.bind_some, notT]
    exact e4
theorem law_true (b : Bag) (hb : BOk b) : ∃ b', m_law b = some (true, b') := by
  obtain ⟨r1, b1, e1, hb1, h1⟩ := draw_O (n := 5) hb (by decide) (by decide)
  obtain ⟨r2, b2, e2, hb2, h2⟩ := draw_O (n := 29) hb1 (by decide) (by decide)
  obtain ⟨r3, b3, e3, hb3, h3⟩ := draw_O (n := 2) hb2 (by decide) (by decide)
  obtain ⟨n, e4, hn⟩ := atI_O (xs := ([((1 : Int) + r1), ((1 : Int) + r2)] : List Int)) (P := fun n => 1 ≤ n ∧ n ≤ 29) h3.1 h3.2 fun x hx => by
    simp only [List.mem_cons, List.not_mem_nil, or_false] at hx
    omega
  obtain ⟨w, rfl⟩ := Int.eq_ofNat_of_zero_le (show 0 ≤ n by omega)
  obtain ⟨b4, e5, hb4⟩ := law_l1 (w := w) (by omega) (rangeL (0 : Int) 2) b3 hb3
  refine ⟨b4, ?_⟩
  unfold m_law
  rw [e1, bind2_some, e2, bind2_some, e3, bind2_some, e4, Option.bind_some, e5, bL1_go]
end K06
namespace K06
open PySem PySem.Spec PyProof.Rows L2 TL G
def dd_bits_of : He.DefD := ⟨("bits_of", none), "bits_of", "bits_of", defArgs s_bits_of, defBody s_bits_of, defScope s_bits_of, [], []⟩
def dd_span_of : He.DefD := ⟨("span_of", none), "span_of", "span_of", defArgs s_span_of, defBody s_span_of, defScope s_span_of, [], []⟩
def dd_parts_of : He.DefD := ⟨("parts_of", none), "parts_of", "parts_of", defArgs s_parts_of, defBody s_parts_of, defScope s_parts_of, [], []⟩
def dd_joined : He.DefD := ⟨("joined", none), "joined", "joined", defArgs s_joined, defBody s_joined, defScope s_joined, [], []⟩
def dd_pattern_at : He.DefD := ⟨("pattern_at", none), "pattern_at", "pattern_at", defArgs s_pattern_at, defBody s_pattern_at, defScope s_pattern_at, [], []⟩
def dd_cover : He.DefD := ⟨("cover", none), "cover", "cover", defArgs s_cover, defBody s_cover, defScope s_cover, [], []⟩
def dd_l_bag : He.DefD := ⟨("_law_bag", none), "_law_bag", "_law_bag", defArgs s_l_bag, defBody s_l_bag, defScope s_l_bag, [], []⟩
def dd_l_draw : He.DefD := ⟨("_law_draw", none), "_law_draw", "_law_draw", defArgs s_l_draw, defBody s_l_draw, defScope s_l_draw, [], []⟩
def dd_l_bits : He.DefD := ⟨("_law_bits", none), "_law_bits", "_law_bits", defArgs s_l_bits, defBody s_l_bits, defScope s_l_bits, [], []⟩
def dd_l_worth : He.DefD := ⟨("_law_worth", none), "_law_worth", "_law_worth", defArgs s_l_worth, defBody s_l_worth, defScope s_l_worth, [], []⟩
def dd_l_one : He.DefD := ⟨("_law_one", none), "_law_one", "_law_one", defArgs s_l_one, defBody s_l_one, defScope s_l_one, [], []⟩
def dd_l_some : He.DefD := ⟨("_law_some", none), "_law_some", "_law_some", defArgs s_l_some, defBody s_l_some, defScope s_l_some, [], []⟩
def dd_l_stretches : He.DefD := ⟨("_law_stretches", none), "_law_stretches", "_law_stretches", defArgs s_l_stretches, defBody s_l_stretches, defScope s_l_stretches, [], []⟩
def dd_l_turned : He.DefD := ⟨("_law_turned", none), "_law_turned", "_law_turned", defArgs s_l_turned, defBody s_l_turned, defScope s_l_turned, [], []⟩
def dd_l_mirrored : He.DefD := ⟨("_law_mirrored", none), "_law_mirrored", "_law_mirrored", defArgs s_l_mirrored, defBody s_l_mirrored, defScope s_l_mirrored, [], []⟩
def dd_l_turned_right : He.DefD := ⟨("_law_turned_right", none), "_law_turned_right", "_law_turned_right", defArgs s_l_turned_right, defBody s_l_turned_right, defScope s_l_turned_right, [], []⟩
def dd_l_ahead_right : He.DefD := ⟨("_law_ahead_right", none), "_law_ahead_right", "_law_ahead_right", defArgs s_l_ahead_right, defBody s_l_ahead_right, defScope s_l_ahead_right, [], []⟩
def dd_l_behind_right : He.DefD := ⟨("_law_behind_right", none), "_law_behind_right", "_law_behind_right", defArgs s_l_behind_right, defBody s_l_behind_right, defScope s_l_behind_right, [], []⟩
def dd_law : He.DefD := ⟨("law", none), "law", "law", defArgs s_law, defBody s_law, defScope s_law, [], []⟩
def fnL : List He.DefD := [dd_bits_of, dd_span_of, dd_parts_of, dd_joined, dd_pattern_at, dd_cover, dd_l_bag, dd_l_draw, dd_l_bits, dd_l_worth, dd_l_one, dd_l_some, dd_l_stretches, dd_l_turned, dd_l_mirrored, dd_l_turned_right, dd_l_ahead_right, dd_l_behind_right, dd_law]
def faL : List He.Fa := [.glo "bits_of", .glo "span_of", .glo "parts_of", .glo "joined", .glo "pattern_at", .glo "cover", .glo "_law_bag", .glo "_law_draw", .glo "_law_bits", .glo "_law_worth", .glo "_law_one", .glo "_law_some", .glo "_law_stretches", .glo "_law_turned", .glo "_law_mirrored", .glo "_law_turned_right", .glo "_law_ahead_right", .glo "_law_behind_right", .glo "law", .free "abs", .free "all", .free "bool", .free "int", .free "isinstance", .free "len", .free "list", .free "max", .free "range", .free "set", .free "sorted", .free "str", .free "tuple", .free "zip", .str "BITS" "01", .str "STAR" "*"]
abbrev RR : PySem.W.OpenRow := PySem.W.OpenLaw.row PySem.Challenge.rw_wishnet_k06_whole_signs_turned_and_put
abbrev hk : PySem.W.Hook := He.hookD 4 faL fnL
def ob (s : PySem.W.SharedT) : He.AlD := He.obsDG 4 faL fnL (HandSHeadRun.getT s)
theorem ob_eq (s : PySem.W.SharedT) : ob s = hk.obs s.abs := He.obsDG_eq (HandSHeadRun.getT_eq s)
def looseL : List Str := ["STAR", "BITS", "bits_of", "span_of", "parts_of", "joined", "pattern_at", "cover", "_law_bag", "_law_draw", "_law_bits", "_law_worth", "_law_one", "_law_some", "_law_stretches", "_law_turned", "_law_mirrored", "_law_turned_right", "_law_ahead_right", "_law_behind_right"]
theorem run_top (w : World) : HandSHeadRun.RunEq RR (PySem.W.view RR.prog [22]) hk ob 4000 looseL w := by
  intro os
  kernel_rfl
theorem facts {P : Program} {w : World} {K : PySem.W.Frag} {h : Heap} {mg : Str → Option Value} {f : Addr} (X : K.In h) (Gh : h.Ns mainGlobals mg) (hfa : mg ("law" : Str) = some (.ref f)) (c : He.SaysD faL fnL K) :
    ∃ fd : FuncData, (∀ (s : Shared) (v : Value), BindsTo s fd ⟨[v], []⟩ [("_law_script", v)]) ∧ ∀ base : Heap, K.In base → base.Ns mainGlobals mg → FnOk P w K mg base CX0 5 f fd ["_law_script"] (sp_law K) := by
  obtain ⟨d0, F0⟩ := c.def_ 0 (d := dd_bits_of) rfl
  obtain ⟨d1, F1⟩ := c.def_ 1 (d := dd_span_of) rfl
  obtain ⟨d2, F2⟩ := c.def_ 2 (d := dd_parts_of) rfl
  obtain ⟨d3, F3⟩ := c.def_ 3 (d := dd_joined) rfl
  obtain ⟨d4, F4⟩ := c.def_ 4 (d := dd_pattern_at) rfl
  obtain ⟨d5, F5⟩ := c.def_ 5 (d := dd_cover) rfl
  obtain ⟨d6, F6⟩ := c.def_ 6 (d := dd_l_bag) rfl
  obtain ⟨d7, F7⟩ := c.def_ 7 (d := dd_l_draw) rfl
  obtain ⟨d8, F8⟩ := c.def_ 8 (d := dd_l_bits) rfl
  obtain ⟨d9, F9⟩ := c.def_ 9 (d := dd_l_worth) rfl
  obtain ⟨d10, F10⟩ := c.def_ 10 (d := dd_l_one) rfl
  obtain ⟨d11, F11⟩ := c.def_ 11 (d := dd_l_some) rfl
  obtain ⟨d12, F12⟩ := c.def_ 12 (d := dd_l_stretches) rfl
  obtain ⟨d13, F13⟩ := c.def_ 13 (d := dd_l_turned) rfl
  obtain ⟨d14, F14⟩ := c.def_ 14 (d := dd_l_mirrored) rfl
  obtain ⟨d15, F15⟩ := c.def_ 15 (d := dd_l_turned_right) rfl
  obtain ⟨d16, F16⟩ := c.def_ 16 (d := dd_l_ahead_right) rfl
  obtain ⟨d17, F17⟩ := c.def_ 17 (d := dd_l_behind_right) rfl
  obtain ⟨d18, F18⟩ := c.def_ 18 (d := dd_law) rfl
  have G0 := He.glo_ok X Gh (c.fact 0 (f := .glo "bits_of") rfl)
  have G1 := He.glo_ok X Gh (c.fact 1 (f := .glo "span_of") rfl)
  have G2 := He.glo_ok X Gh (c.fact 2 (f := .glo "parts_of") rfl)
  have G3 := He.glo_ok X Gh (c.fact 3 (f := .glo "joined") rfl)
  have G4 := He.glo_ok X Gh (c.fact 4 (f := .glo "pattern_at") rfl)
  have G5 := He.glo_ok X Gh (c.fact 5 (f := .glo "cover") rfl)
  have G6 := He.glo_ok X Gh (c.fact 6 (f := .glo "_law_bag") rfl)
  have G7 := He.glo_ok X Gh (c.fact 7 (f := .glo "_law_draw") rfl)
  have G8 := He.glo_ok X Gh (c.fact 8 (f := .glo "_law_bits") rfl)
  have G9 := He.glo_ok X Gh (c.fact 9 (f := .glo "_law_worth") rfl)
  have G10 := He.glo_ok X Gh (c.fact 10 (f := .glo "_law_one") rfl)
  have G11 := He.glo_ok X Gh (c.fact 11 (f := .glo "_law_some") rfl)
  have G12 := He.glo_ok X Gh (c.fact 12 (f := .glo "_law_stretches") rfl)
  have G13 := He.glo_ok X Gh (c.fact 13 (f := .glo "_law_turned") rfl)
  have G14 := He.glo_ok X Gh (c.fact 14 (f := .glo "_law_mirrored") rfl)
  have G15 := He.glo_ok X Gh (c.fact 15 (f := .glo "_law_turned_right") rfl)
  have G16 := He.glo_ok X Gh (c.fact 16 (f := .glo "_law_ahead_right") rfl)
  have G17 := He.glo_ok X Gh (c.fact 17 (f := .glo "_law_behind_right") rfl)
  have G18 := He.glo_ok X Gh (c.fact 18 (f := .glo "law") rfl)
  obtain ⟨tk0, hk0⟩ := He.str_ok X Gh (c.fact 33 (f := .str "BITS" "01") rfl)
  obtain ⟨tk1, hk1⟩ := He.str_ok X Gh (c.fact 34 (f := .str "STAR" "*") rfl)
  let T : Txt K mg := { a_bits_of := _, d_bits_of := d0, F_bits_of := F0, g_bits_of := G0, a_span_of := _, d_span_of := d1, F_span_of := F1, g_span_of := G1, a_parts_of := _, d_parts_of := d2, F_parts_of := F2, g_parts_of := G2, a_joined := _, d_joined := d3, F_joined := F3, g_joined := G3, a_pattern_at := _, d_pattern_at := d4, F_pattern_at := F4, g_pattern_at := G4, a_cover := _, d_cover := d5, F_cover := F5, g_cover := G5, a_l_bag := _, d_l_bag := d6, F_l_bag := F6, g_l_bag := G6, a_l_draw := _, d_l_draw := d7, F_l_draw := F7, g_l_draw := G7, a_l_bits := _, d_l_bits := d8, F_l_bits := F8, g_l_bits := G8, a_l_worth := _, d_l_worth := d9, F_l_worth := F9, g_l_worth := G9, a_l_one := _, d_l_one := d10, F_l_one := F10, g_l_one := G10, a_l_some := _, d_l_some := d11, F_l_some := F11, g_l_some := G11, a_l_stretches := _, d_l_stretches := d12, F_l_stretches := F12, g_l_stretches := G12, a_l_turned := _, d_l_turned := d13, F_l_turned := F13, g_l_turned := G13, a_l_mirrored := _, d_l_mirrored := d14, F_l_mirrored := F14, g_l_mirrored := G14, a_l_turned_right := _, d_l_turned_right := d15, F_l_turned_right := F15, g_l_turned_right := G15, a_l_ahead_right := _, d_l_ahead_right := d16, F_l_ahead_right := F16, g_l_ahead_right := G16, a_l_behind_right := _, d_l_behind_right := d17, F_l_behind_right := F17, g_l_behind_right := G17, a_law := _, d_law := d18, F_law := F18, g_law := G18, n_abs := He.free_ok X Gh (c.fact 19 (f := .free "abs") rfl), n_all := He.free_ok X Gh (c.fact 20 (f := .free "all") rfl), n_bool := He.free_ok X Gh (c.fact 21 (f := .free "bool") rfl), n_int := He.free_ok X Gh (c.fact 22 (f := .free "int") rfl), n_isinstance := He.free_ok X Gh (c.fact 23 (f := .free "isinstance") rfl), n_len := He.free_ok X Gh (c.fact 24 (f := .free "len") rfl), n_list := He.free_ok X Gh (c.fact 25 (f := .free "list") rfl), n_max := He.free_ok X Gh (c.fact 26 (f := .free "max") rfl), n_range := He.free_ok X Gh (c.fact 27 (f := .free "range") rfl), n_set := He.free_ok X Gh (c.fact 28 (f := .free "set") rfl), n_sorted := He.free_ok X Gh (c.fact 29 (f := .free "sorted") rfl), n_str := He.free_ok X Gh (c.fact 30 (f := .free "str") rfl), n_tuple := He.free_ok X Gh (c.fact 31 (f := .free "tuple") rfl), n_zip := He.free_ok X Gh (c.fact 32 (f := .free "zip") rfl), t_BITS := tk0, k_BITS := hk0, t_STAR := tk1, k_STAR := hk1 }
  have e := hfa.symm.trans G18
  cases e
  have b := FunD.bindsA (ps := ["_law_script"]) F18 fun _ _ _ _ _ _ us hl => match us, hl with | [_], _ => rfl
  exact ⟨d18, fun s v => b s [v] rfl, fun base _ _ => ok_law T law_true⟩
end K06
open PySem.Calls PySem.W PySem PyProof.Rows
set_option maxHeartbeats 0 in
theorem PySem.Challenge.cw_wishnet_k06_whole_signs_turned_and_put_holds : PySem.Challenge.rw_wishnet_k06_whole_signs_turned_and_put.Holds := by
  w_on; o_law
  refine HandSHeadRun.head_any (r := OpenLaw.row PySem.Challenge.rw_wishnet_k06_whole_signs_turned_and_put) (q := view (OpenLaw.row PySem.Challenge.rw_wishnet_k06_whole_signs_turned_and_put).prog [22]) (H := K06.hk) (ob := K06.ob) (M := 4000) (loose := K06.looseL) (d := HandSHeadRun.topDef (OpenLaw.row PySem.Challenge.rw_wishnet_k06_whole_signs_turned_and_put).prog 22) (kwd := []) K06.ob_eq
    (by kernel_rfl) (fun s => by kernel_rfl) K06.run_top (by kernel_rfl) (by kernel_rfl) (by kernel_rfl) (by rfl) (by first | assumption | decide +kernel) (by decide +kernel) ⟨rfl, rfl, rfl, rfl, rfl, by decide +kernel⟩ ?hw ?hc
  case hw => w_witness2
  case hc =>
    refine L2.walk_ofE (l := PySem.Challenge.rw_wishnet_k06_whole_signs_turned_and_put) (n := 63) (k := 5) (x := "_law_script") (CX := L2.CX0) rfl (by decide) (by kernel_rfl) ⟨rfl, by decide, by decide⟩ ?F (fun _ _ _ _ z => z)
    intro w mg fa h Y Gh hmg0
    obtain ⟨K, KX, c⟩ := Y
    have hmg : mg ("law" : PySem.Str) = some (.ref fa) := by
      have e : (HandSHeadRun.topDef (OpenLaw.row PySem.Challenge.rw_wishnet_k06_whole_signs_turned_and_put).prog 22).name = ("law" : PySem.Str) := by kernel_rfl
      rw [← e]
      exact hmg0
    obtain ⟨fd, hb, hF⟩ := K06.facts (P := (PySem.Challenge.rw_wishnet_k06_whole_signs_turned_and_put).prog) (w := w) KX Gh hmg c
    exact ⟨K, fd, K06.sp_law K, KX, hb, fun H a ns hl _ hS => ⟨a, ns, rfl, hS, hl, fun _ => rfl⟩, hF⟩
