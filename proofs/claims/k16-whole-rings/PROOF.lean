import PyProof.Rows.All
import Wide.All
import OpenK.AllK
import Wide.FinOn
import PySem.Challenge.RW_barredcrossings_k16_whole_rings
import HandS.ForMost
import HandS.Star
import HandS.TupAny
import HandS.Zip
import HandS.Conv
import HandS.DictTup
import HandS.TupLen
import HandS.DictComp
import HandS.IsInst
import HandS.Style
import HandS.Flow
import HandS.More
import HandS.Deep
import HandS.Strs
import HandS.TupSets
import HandS.SetKeys
import HandS.SortInts
import HandS.Walk
import HandS.Steps
import KE.DatumMoreOrd
import KE.DatumIndex
import KE.SortData
import KE.DataIsa
import KE.GoesEnum
import KE.KItemsList
import HandS.SetTxt0
import KE.KDictDisplayH
import KE.KDictPairs
import HandS.Iter
import HandS.Small
import HandS.SetFor
import HandS.Codes
set_option Elab.async false
set_option linter.all false
set_option maxRecDepth 100000
set_option maxHeartbeats 2000000
/-! B0: data that never change, pure evaluation (PV), tests (PB), statements (WS, WB). -/
namespace Bx
open PySem PySem.Spec PyProof.Rows L2
open PySem.W (Datum DatumOrd Holds HoldAll T3 T4 Tup)
abbrev St := L2.St

/-! ### data that never change -/
def hasT : List PyData → Bool
  | .tuple _ :: _ => true
  | _ => false
/-- the tuple at a; one that holds tuples may be known whole -/
def TupAt (H : Hp) (a : Addr) (xs : List V) (ds : List PyData) : Prop := H a = some (.tup xs) ∨ (∃ o, H a = some (.frz o (.tup xs)) ∧ o.dict = none) ∧ hasT ds = true
theorem TupAt.rd {H : Hp} {a : Addr} {xs : List V} {ds : List PyData} (h : TupAt H a xs ds) : Rd H a (.tup xs) := h.elim .inl fun ⟨⟨o, e, _⟩, _⟩ => .inr ⟨o, e⟩
theorem TupAt.sq {K : PySem.W.Frag} {H : Hp} {a : Addr} {xs : List V} {ds : List PyData} (h : TupAt H a xs ds) : SqT K H a xs := .inl h.rd
mutual
inductive DI (H : Hp) : V → PyData → Prop
  | non : DI H .non .none
  | bl (b : Bool) : DI H (.bl b) (.bool b)
  | int (i : Int) : DI H (.int i) (.int i)
  | str (x : Str) : DI H (.str x) (.str x)
  | tup {a : Addr} {xs : List V} {ds : List PyData} : TupAt H a xs ds → DIs H xs ds → DI H (.ref a) (.tuple ds)
inductive DIs (H : Hp) : List V → List PyData → Prop
  | nil : DIs H [] []
  | cons {v : V} {vs : List V} {d : PyData} {ds : List PyData} : DI H v d → DIs H vs ds → DIs H (v :: vs) (d :: ds)
end
theorem DI.mk {H : Hp} {a : Addr} {xs : List V} {ds : List PyData} (h : H a = some (.tup xs)) (hs : DIs H xs ds) : DI H (.ref a) (.tuple ds) := .tup (.inl h) hs
/-- the tuples stay -/
structure TK (H H' : Hp) : Prop where
  t : ∀ a xs, H a = some (.tup xs) → H' a = some (.tup xs)
  f : ∀ a o xs, H a = some (.frz o (.tup xs)) → H' a = some (.frz o (.tup xs))
theorem TK.refl (H : Hp) : TK H H := ⟨fun _ _ e => e, fun _ _ _ e => e⟩
theorem TK.trans {H H1 H2 : Hp} (a : TK H H1) (b : TK H1 H2) : TK H H2 := ⟨fun x xs e => b.t x xs (a.t x xs e), fun x o xs e => b.f x o xs (a.f x o xs e)⟩
theorem TK.same {H H' : Hp} (h : Same H H') : TK H H' := ⟨fun a xs e => h a _ e, fun a o xs e => h a _ e⟩
theorem TK.upd {H : Hp} {p : Addr} {o : HO} (h : ∀ xs, H p ≠ some (.tup xs)) (h2 : ∀ o xs, H p ≠ some (.frz o (.tup xs))) : TK H (upd H p o) := ⟨fun a xs e => by
  have hne : a ≠ p := fun z => h xs (z ▸ e)
  rw [upd_ne hne]; exact e, fun a o' xs e => by
  have hne : a ≠ p := fun z => h2 o' xs (z ▸ e)
  rw [upd_ne hne]; exact e⟩
theorem TupAt.ts {H H' : Hp} (t : TK H H') {a : Addr} {xs : List V} {ds : List PyData} (h : TupAt H a xs ds) : TupAt H' a xs ds := h.elim (fun e => .inl (t.t _ _ e)) fun ⟨⟨o, e, d⟩, n⟩ => .inr ⟨⟨o, t.f _ _ _ e, d⟩, n⟩
theorem TK.updL {H : Hp} {p : Addr} {o : HO} {xs : List V} (h : H p = some (.lst xs)) : TK H (L2.upd H p o) := TK.upd (fun ys e => by rw [h] at e; cases e) fun _ ys e => by rw [h] at e; cases e
theorem TK.updN {H : Hp} {p : Addr} {o : HO} (h : H p = none) : TK H (L2.upd H p o) := TK.upd (fun ys e => by rw [h] at e; cases e) fun _ ys e => by rw [h] at e; cases e
mutual
theorem DI.ts {H H' : Hp} (t : TK H H') : ∀ {v : V} {d : PyData}, DI H v d → DI H' v d
  | _, _, .non => .non
  | _, _, .bl b => .bl b
  | _, _, .int i => .int i
  | _, _, .str x => .str x
  | _, _, .tup h hs => .tup (h.ts t) (DIs.ts t hs)
theorem DIs.ts {H H' : Hp} (t : TK H H') : ∀ {vs : List V} {ds : List PyData}, DIs H vs ds → DIs H' vs ds
  | _, _, .nil => .nil
  | _, _, .cons h hs => .cons (DI.ts t h) (DIs.ts t hs)
end
theorem DI.same {H H' : Hp} (s : Same H H') {v : V} {d : PyData} (h : DI H v d) : DI H' v d := h.ts (.same s)
theorem DIs.same {H H' : Hp} (s : Same H H') {v : List V} {d : List PyData} (h : DIs H v d) : DIs H' v d := h.ts (.same s)
mutual
theorem DI.dp {K : PySem.W.Frag} {H : Hp} : ∀ {v : V} {d : PyData}, DI H v d → Dp K H v d
  | _, _, .non => .non
  | _, _, .bl b => .bl b
  | _, _, .int i => .int i
  | _, _, .str x => .str x
  | _, _, .tup h hs => .tup h.sq (DIs.dp hs)
theorem DIs.dp {K : PySem.W.Frag} {H : Hp} : ∀ {vs : List V} {ds : List PyData}, DIs H vs ds → DpAll K H vs ds
  | _, _, .nil => .nil
  | _, _, .cons h hs => .cons (DI.dp h) (DIs.dp hs)
end
theorem DIs.length {H : Hp} : ∀ {vs : List V} {ds : List PyData}, DIs H vs ds → vs.length = ds.length
  | _, _, .nil => rfl
  | _, _, .cons _ hs => congrArg (· + 1) hs.length
theorem DIs.append {H : Hp} : ∀ {vs ws : List V} {ds es : List PyData}, DIs H vs ds → DIs H ws es → DIs H (vs ++ ws) (ds ++ es)
  | _, _, _, _, .nil, k => k
  | _, _, _, _, .cons h hs, k => .cons h (hs.append k)
theorem DIs.get {H : Hp} : ∀ {vs : List V} {ds : List PyData} {i : Nat} {d : PyData}, DIs H vs ds → ds[i]? = some d → ∃ v, vs[i]? = some v ∧ DI H v d
  | _, _, _, _, .nil, e => by simp at e
  | _, _, 0, _, .cons h _, e => by
    simp at e; subst e
    exact ⟨_, rfl, h⟩
  | _, _, i + 1, _, .cons _ hs, e => hs.get (i := i) (by simpa using e)
theorem DIs.get' {H : Hp} : ∀ {vs : List V} {ds : List PyData} {i : Nat} {v : V}, DIs H vs ds → vs[i]? = some v → ∃ d, ds[i]? = some d ∧ DI H v d
  | _, _, _, _, .nil, e => by simp at e
  | _, _, 0, _, .cons h _, e => by
    simp at e; subst e
    exact ⟨_, rfl, h⟩
  | _, _, i + 1, _, .cons _ hs, e => hs.get' (i := i) (by simpa using e)
theorem DIs.take {H : Hp} : ∀ {vs : List V} {ds : List PyData} (n : Nat), DIs H vs ds → DIs H (vs.take n) (ds.take n)
  | _, _, 0, _ => .nil
  | _, _, _ + 1, .nil => .nil
  | _, _, n + 1, .cons h hs => .cons h (hs.take n)
theorem DIs.drop {H : Hp} : ∀ {vs : List V} {ds : List PyData} (n : Nat), DIs H vs ds → DIs H (vs.drop n) (ds.drop n)
  | _, _, 0, h => h
  | _, _, _ + 1, .nil => .nil
  | _, _, n + 1, .cons _ hs => hs.drop n
theorem DIs.dropLast {H : Hp} : ∀ {vs : List V} {ds : List PyData}, DIs H vs ds → DIs H vs.dropLast ds.dropLast
  | _, _, .nil => .nil
  | _, _, .cons _ .nil => .nil
  | _, _, .cons h (.cons h2 hs) => .cons h (DIs.dropLast (.cons h2 hs))
theorem DIs.set {H : Hp} {v : V} {d : PyData} (h0 : DI H v d) : ∀ {vs : List V} {ds : List PyData} (n : Nat), DIs H vs ds → DIs H (vs.set n v) (ds.set n d)
  | _, _, _, .nil => .nil
  | _, _, 0, .cons _ hs => .cons h0 hs
  | _, _, n + 1, .cons h hs => .cons h (DIs.set h0 n hs)

section
variable {α : Type} [DecidableEq α] [Datum α] {β : Type} [DecidableEq β] [Datum β] {γ : Type} [DecidableEq γ] [Datum γ] {δ : Type} [DecidableEq δ] [Datum δ]
/-- v is x -/
def HD (H : Hp) (v : V) (x : α) : Prop := DI H v (Datum.toD x)
def HDs (H : Hp) (vs : List V) (xs : List α) : Prop := DIs H vs (xs.map Datum.toD)
variable {H H' : Hp} {v : V} {vs : List V}
theorem HD.ts (t : TK H H') {x : α} (h : HD H v x) : HD H' v x := DI.ts t h
theorem HDs.ts (t : TK H H') {x : List α} (h : HDs H vs x) : HDs H' vs x := DIs.ts t h
theorem HD.same (t : Same H H') {x : α} (h : HD H v x) : HD H' v x := DI.same t h
theorem HDs.same (t : Same H H') {x : List α} (h : HDs H vs x) : HDs H' vs x := DIs.same t h
theorem HD.holds {X : Cx} {pins : List (Addr × Obj)} {σ : St} {s : Shared} {u : Value} {x : α} (h : HD H v x) (I : Inv X pins σ H s) (r : RelV v u) : Holds s.heap u x := Dp.reads I _ _ _ h.dp r
theorem HDs.holds {X : Cx} {pins : List (Addr × Obj)} {σ : St} {s : Shared} {us : List Value} {xs : List α} (h : HDs H vs xs) (I : Inv X pins σ H s) (r : Vals vs us) : HoldAll s.heap us xs := Dp.readsAll I _ _ _ h.dp r
theorem HDs.length {xs : List α} (h : HDs H vs xs) : vs.length = xs.length := by
  have e := DIs.length h
  rw [List.length_map] at e
  exact e
theorem HDs.nil : HDs H [] ([] : List α) := DIs.nil
theorem HDs.cons {x : α} {xs : List α} (h : HD H v x) (hs : HDs H vs xs) : HDs H (v :: vs) (x :: xs) := DIs.cons h hs
theorem HDs.append {ws : List V} {xs ys : List α} (h : HDs H vs xs) (k : HDs H ws ys) : HDs H (vs ++ ws) (xs ++ ys) := by
  unfold HDs; rw [List.map_append]; exact DIs.append h k
theorem HDs.one {x : α} (h : HD H v x) : HDs H [v] [x] := .cons h .nil
theorem HDs.get {xs : List α} {i : Nat} {x : α} (h : HDs H vs xs) (e : xs[i]? = some x) : ∃ v, vs[i]? = some v ∧ HD H v x :=
  DIs.get h (by rw [List.getElem?_map, e]; rfl)
theorem HDs.get' {xs : List α} {i : Nat} {v : V} (h : HDs H vs xs) (e : vs[i]? = some v) : ∃ x, xs[i]? = some x ∧ HD H v x := by
  obtain ⟨d, hd, hv⟩ := DIs.get' h e
  rw [List.getElem?_map] at hd
  obtain ⟨x, hx, rfl⟩ := Option.map_eq_some_iff.mp hd
  exact ⟨x, hx, hv⟩
theorem HDs.take {xs : List α} (n : Nat) (h : HDs H vs xs) : HDs H (vs.take n) (xs.take n) := by
  unfold HDs; rw [List.map_take]; exact DIs.take n h
theorem HDs.drop {xs : List α} (n : Nat) (h : HDs H vs xs) : HDs H (vs.drop n) (xs.drop n) := by
  unfold HDs; rw [List.map_drop]; exact DIs.drop n h
theorem HDs.dropLast {xs : List α} (h : HDs H vs xs) : HDs H vs.dropLast xs.dropLast := by
  unfold HDs; rw [List.map_dropLast]; exact DIs.dropLast h
theorem HDs.set {xs : List α} {x : α} (h0 : HD H v x) (n : Nat) (h : HDs H vs xs) : HDs H (vs.set n v) (xs.set n x) := by
  unfold HDs; rw [List.map_set]; exact DIs.set h0 n h
theorem HDs.inv {xs : List α} : HDs H (v :: vs) xs → ∃ x ys, xs = x :: ys ∧ HD H v x ∧ HDs H vs ys := fun h => by
  cases xs with
  | nil => cases h
  | cons x ys => cases h with
    | cons h1 h2 => exact ⟨x, ys, rfl, h1, h2⟩

/-! what stands there, by the type -/
theorem hd_int {i : Int} (h : HD H v i) : v = .int i := by cases h; rfl
theorem hd_str {i : Str} (h : HD H v i) : v = .str i := by cases h; rfl
theorem hd_bool {i : Bool} (h : HD H v i) : v = .bl i := by cases h; rfl
theorem HD.int (i : Int) : HD H (.int i) i := DI.int i
theorem HD.str (i : Str) : HD H (.str i) i := DI.str i
theorem HD.bool (i : Bool) : HD H (.bl i) i := DI.bl i
theorem hd_tup {t : Tup α} (h : HD H v t) : ∃ p vs, v = .ref p ∧ TupAt H p vs (t.items.map Datum.toD) ∧ HDs H vs t.items := by
  cases h with
  | tup e hs => exact ⟨_, _, rfl, e, hs⟩
theorem HD.tup {p : Addr} {xs : List α} (e : H p = some (.tup vs)) (h : HDs H vs xs) : HD H (.ref p) (Tup.mk xs) := DI.mk e h
theorem HD.tup' {p : Addr} {t : Tup α} (e : H p = some (.tup vs)) (h : HDs H vs t.items) : HD H (.ref p) t := DI.mk e h
theorem hd_pair {t : α × β} (h : HD H v t) : ∃ p v1 v2, v = .ref p ∧ Rd H p (.tup [v1, v2]) ∧ HD H v1 t.1 ∧ HD H v2 t.2 := by
  cases h with
  | tup e hs => cases hs with
    | cons h1 hs => cases hs with
      | cons h2 hs => cases hs; exact ⟨_, _, _, rfl, e.rd, h1, h2⟩
theorem HD.pair {p : Addr} {v1 v2 : V} {t : α × β} (e : H p = some (.tup [v1, v2])) (h1 : HD H v1 t.1) (h2 : HD H v2 t.2) : HD H (.ref p) t := DI.mk e (.cons h1 (.cons h2 .nil))
theorem hd_t3 {t : T3 α β γ} (h : HD H v t) : ∃ p v1 v2 v3, v = .ref p ∧ Rd H p (.tup [v1, v2, v3]) ∧ HD H v1 t.a ∧ HD H v2 t.b ∧ HD H v3 t.c := by
  cases h with
  | tup e hs => cases hs with
    | cons h1 hs => cases hs with
      | cons h2 hs => cases hs with
        | cons h3 hs => cases hs; exact ⟨_, _, _, _, rfl, e.rd, h1, h2, h3⟩
theorem HD.t3 {p : Addr} {v1 v2 v3 : V} {t : T3 α β γ} (e : H p = some (.tup [v1, v2, v3])) (h1 : HD H v1 t.a) (h2 : HD H v2 t.b) (h3 : HD H v3 t.c) : HD H (.ref p) t := DI.mk e (.cons h1 (.cons h2 (.cons h3 .nil)))
theorem hd_t4 {t : T4 α β γ δ} (h : HD H v t) : ∃ p v1 v2 v3 v4, v = .ref p ∧ Rd H p (.tup [v1, v2, v3, v4]) ∧ HD H v1 t.a ∧ HD H v2 t.b ∧ HD H v3 t.c ∧ HD H v4 t.d := by
  cases h with
  | tup e hs => cases hs with
    | cons h1 hs => cases hs with
      | cons h2 hs => cases hs with
        | cons h3 hs => cases hs with
          | cons h4 hs => cases hs; exact ⟨_, _, _, _, _, rfl, e.rd, h1, h2, h3, h4⟩
theorem HD.t4 {p : Addr} {v1 v2 v3 v4 : V} {t : T4 α β γ δ} (e : H p = some (.tup [v1, v2, v3, v4])) (h1 : HD H v1 t.a) (h2 : HD H v2 t.b) (h3 : HD H v3 t.c) (h4 : HD H v4 t.d) : HD H (.ref p) t := DI.mk e (.cons h1 (.cons h2 (.cons h3 (.cons h4 .nil))))
end
abbrev Bond := T4 Str Str Str Str
abbrev Pat := Tup Bond
theorem hd_bond {H : Hp} {v : V} {t : Bond} (h : HD H v t) : ∃ p, v = .ref p ∧ H p = some (.tup [.str t.a, .str t.b, .str t.c, .str t.d]) := by
  have h : DI H v (.tuple [.str t.a, .str t.b, .str t.c, .str t.d]) := h
  cases h with
  | @tup p xs _ e hs =>
    have e' : H p = some (.tup xs) := e.elim id fun z => nomatch z.2
    cases hs with
    | cons h1 hs => cases hs with
      | cons h2 hs => cases hs with
        | cons h3 hs => cases hs with
          | cons h4 hs =>
            cases hs
            cases h1; cases h2; cases h3; cases h4
            exact ⟨p, rfl, e'⟩
theorem HD.bond {H : Hp} {p : Addr} {t : Bond} (e : H p = some (.tup [.str t.a, .str t.b, .str t.c, .str t.d])) : HD H (.ref p) t := .t4 e (.str _) (.str _) (.str _) (.str _)

/-- a tuple known whole: it has no dict of its own -/
def Whole (H : Hp) (v : V) (ds : List PyData) : Prop := ∃ (q : Addr) (o : Obj) (xs : List V), v = .ref q ∧ H q = some (.frz o (.tup xs)) ∧ o.dict = none ∧ DIs H xs ds
theorem Whole.di {H : Hp} {v : V} {ds : List PyData} (h : Whole H v ds) (n : hasT ds = true) : DI H v (.tuple ds) := by
  obtain ⟨q, o, xs, rfl, e, d, hs⟩ := h
  exact .tup (.inr ⟨⟨o, e, d⟩, n⟩) hs
theorem Whole.same {H H' : Hp} {v : V} {ds : List PyData} (s : Same H H') (h : Whole H v ds) : Whole H' v ds := by
  obtain ⟨q, o, xs, rfl, e, d, hs⟩ := h
  exact ⟨q, o, xs, rfl, s _ _ e, d, hs.same s⟩
/-- (i, j, walk), the walk known whole -/
structure W3 (H : Hp) (v : V) (t : T3 Int Int Pat) : Prop where
  ex : ∃ (p : Addr) (v3 : V), v = .ref p ∧ H p = some (.tup [.int t.a, .int t.b, v3]) ∧ Whole H v3 (t.c.items.map Datum.toD)
  ne : t.c.items ≠ []
theorem W3.same {H H' : Hp} {v : V} {t : T3 Int Int Pat} (s : Same H H') (h : W3 H v t) : W3 H' v t := by
  obtain ⟨⟨p, v3, e, h1, h2⟩, n⟩ := h
  exact ⟨⟨p, v3, e, s _ _ h1, h2.same s⟩, n⟩
theorem hasT_pat {t : Pat} (h : t.items ≠ []) : hasT (t.items.map Datum.toD) = true := by
  obtain ⟨l⟩ := t
  cases l with
  | nil => exact absurd rfl h
  | cons x r => rfl
theorem W3.hd {H : Hp} {v : V} {t : T3 Int Int Pat} (h : W3 H v t) : HD H v t := by
  obtain ⟨⟨p, v3, rfl, h1, h2⟩, n⟩ := h
  exact .t3 h1 (.int _) (.int _) (h2.di (hasT_pat n))
inductive W3s (H : Hp) : List V → List (T3 Int Int Pat) → Prop
  | nil : W3s H [] []
  | cons {v : V} {vs : List V} {t : T3 Int Int Pat} {ts : List (T3 Int Int Pat)} : W3 H v t → W3s H vs ts → W3s H (v :: vs) (t :: ts)
theorem W3s.same {H H' : Hp} {vs : List V} {ts : List (T3 Int Int Pat)} (s : Same H H') (h : W3s H vs ts) : W3s H' vs ts := by
  induction h with
  | nil => exact .nil
  | cons h _ ih => exact .cons (h.same s) ih

/-! ### what a pure evaluation gives -/
inductive Rs where
  /-- data that never change -/
  | d (x : PyData)
  /-- a new list of such -/
  | l (xs : List PyData)
  /-- that very value -/
  | v (x : V)
  /-- a new dict: keys in tuples -/
  | m (kds : List (List Key × T3 Int Int Pat))
  /-- what φ says -/
  | p (φ : Hp → V → Prop) (mono : ∀ H H' v, Same H H' → φ H v → φ H' v)
def Rs.P : Rs → Hp → V → Hp → Prop
  | .d x => fun _ v H2 => DI H2 v x
  | .l xs => fun H1 v H2 => ∃ p vs, v = .ref p ∧ H1 p = none ∧ H2 p = some (.lst vs) ∧ DIs H2 vs xs
  | .v x => fun _ v _ => v = x
  | .m kds => fun H1 v H2 => ∃ p vs, v = .ref p ∧ H1 p = none ∧ H2 p = some (.dT ((kds.map (·.1)).zip vs)) ∧ W3s H2 vs (kds.map (·.2))
  | .p φ _ => fun _ v H2 => φ H2 v
theorem Rs.up {r : Rs} {H1 H2 H3 : Hp} {v : V} (h : r.P H1 v H2) (s : Same H2 H3) : r.P H1 v H3 := by
  cases r with
  | d x => exact DI.same s h
  | l xs => obtain ⟨p, vs, e, n, h, hs⟩ := h; exact ⟨p, vs, e, n, s _ _ h, hs.same s⟩
  | v x => exact h
  | m kds => obtain ⟨p, vs, e, n, h, hs⟩ := h; exact ⟨p, vs, e, n, s _ _ h, hs.same s⟩
  | p φ m => exact m _ _ _ s h
theorem Rs.down {r : Rs} {H0 H1 H2 : Hp} {v : V} (h : r.P H1 v H2) (s : Same H0 H1) : r.P H0 v H2 := by
  cases r with
  | d x => exact h
  | l xs => obtain ⟨p, vs, e, n, h, hs⟩ := h; exact ⟨p, vs, e, s.free n, h, hs⟩
  | v x => exact h
  | m kds => obtain ⟨p, vs, e, n, h, hs⟩ := h; exact ⟨p, vs, e, s.free n, h, hs⟩
  | p φ m => exact h
/-- typed -/
abbrev Rs.t {α : Type} [DecidableEq α] [Datum α] (x : α) : Rs := .d (Datum.toD x)
abbrev Rs.ts {α : Type} [DecidableEq α] [Datum α] (x : List α) : Rs := .l (x.map Datum.toD)
abbrev Rs.i (x : Int) : Rs := .d (.int x)
abbrev Rs.s (x : Str) : Rs := .d (.str x)
abbrev Rs.b (x : Bool) : Rs := .d (.bool x)
theorem Rs.pI {i : Int} {H1 H2 : Hp} {v : V} (h : (Rs.i i).P H1 v H2) : v = .int i := by
  have h : DI H2 v (.int i) := h
  cases h; rfl
theorem Rs.pS {i : Str} {H1 H2 : Hp} {v : V} (h : (Rs.s i).P H1 v H2) : v = .str i := by
  have h : DI H2 v (.str i) := h
  cases h; rfl
theorem Rs.pB {i : Bool} {H1 H2 : Hp} {v : V} (h : (Rs.b i).P H1 v H2) : v = .bl i := by
  have h : DI H2 v (.bool i) := h
  cases h; rfl
theorem Rs.pN {H1 H2 : Hp} {v : V} (h : (Rs.d .none).P H1 v H2) : v = .non := by
  have h : DI H2 v .none := h
  cases h; rfl

/-- e evaluates to r at any heap that keeps H, and keeps all that was tracked -/
def PV (X : Cx) (e : Expr) (σ : St) (H : Hp) (r : Rs) : Prop :=
  ∀ (pins : List (Addr × Obj)) (s : Shared) (H1 : Hp), Same H H1 → Inv X pins σ H1 s → wpAny (model X.prog X.w) X.A (eval e X.env) (EP X pins σ fun v H2 => Same H1 H2 ∧ r.P H1 v H2) X.xe s
def PB (X : Cx) (e : Expr) (σ : St) (H : Hp) (b : Bool) : Prop :=
  ∀ (pins : List (Addr × Obj)) (s : Shared) (H1 : Hp), Same H H1 → Inv X pins σ H1 s → wpAny (model X.prog X.w) X.A (isTrue e X.env (eval e X.env)) (TP X pins σ fun c H2 => Same H1 H2 ∧ c = b) X.xe s
def RsL : List Rs → Hp → List V → Hp → Prop
  | [], _, vs, _ => vs = []
  | r :: rs, H1, vs, H2 => ∃ v ws, vs = v :: ws ∧ r.P H1 v H2 ∧ RsL rs H1 ws H2
theorem RsL.up : ∀ {rs : List Rs} {H1 H2 H3 : Hp} {vs : List V}, RsL rs H1 vs H2 → Same H2 H3 → RsL rs H1 vs H3
  | [], _, _, _, _, h, _ => h
  | _ :: _, _, _, _, _, ⟨v, ws, e, h, hs⟩, s => ⟨v, ws, e, Rs.up h s, RsL.up hs s⟩
theorem RsL.down : ∀ {rs : List Rs} {H0 H1 H2 : Hp} {vs : List V}, RsL rs H1 vs H2 → Same H0 H1 → RsL rs H0 vs H2
  | [], _, _, _, _, h, _ => h
  | _ :: _, _, _, _, _, ⟨v, ws, e, h, hs⟩, s => ⟨v, ws, e, Rs.down h s, RsL.down hs s⟩
/-- an argument list -/
def PAs (X : Cx) (es : List Expr) (σ : St) (H : Hp) (rs : List Rs) : Prop :=
  ∀ (pos : Pos) (pins : List (Addr × Obj)) (s : Shared) (H1 : Hp), Same H H1 → Inv X pins σ H1 s → wpAny (model X.prog X.w) X.A (spliced (backTo pos (starEach es X.env))) (AP X pins σ fun vs H2 => Same H1 H2 ∧ RsL rs H1 vs H2) X.xe s

section
variable {X : Cx} {e : Expr} {es : List Expr} {σ : St} {H H' H1 : Hp} {r : Rs} {rs : List Rs} {b : Bool}
theorem PV.of {t : TE} (h : PE X e t) (q : ∀ H1, Same H H1 → t σ H1 fun v H2 => Same H1 H2 ∧ r.P H1 v H2) : PV X e σ H r := fun pins s H1 hs I => h.run pins s σ H1 _ I (q H1 hs)
theorem PB.of {t : TT} (h : PT X e t) (q : ∀ H1, Same H H1 → t σ H1 fun c H2 => Same H1 H2 ∧ c = b) : PB X e σ H b := fun pins s H1 hs I => h.run pins s σ H1 _ I (q H1 hs)
theorem PAs.of {t : TA} (h : PA X es t) (q : ∀ H1, Same H H1 → t σ H1 fun vs H2 => Same H1 H2 ∧ RsL rs H1 vs H2) : PAs X es σ H rs := fun pos pins s H1 hs I => h.run pos pins s σ H1 _ I (q H1 hs)
theorem PV.mono (h : PV X e σ H r) (hs : Same H H') : PV X e σ H' r := fun pins s H1 h1 I => h pins s H1 (hs.trans h1) I
theorem PB.mono (h : PB X e σ H b) (hs : Same H H') : PB X e σ H' b := fun pins s H1 h1 I => h pins s H1 (hs.trans h1) I
theorem PAs.mono (h : PAs X es σ H rs) (hs : Same H H') : PAs X es σ H' rs := fun pos pins s H1 h1 I => h pos pins s H1 (hs.trans h1) I
/-- as static readings -/
def tS (X : Cx) (e : Expr) : TE := fun σ H Q => ∀ (pins : List (Addr × Obj)) (s : Shared), Inv X pins σ H s → wpAny (model X.prog X.w) X.A (eval e X.env) (EP X pins σ Q) X.xe s
def tSB (X : Cx) (e : Expr) : TT := fun σ H Q => ∀ (pins : List (Addr × Obj)) (s : Shared), Inv X pins σ H s → wpAny (model X.prog X.w) X.A (isTrue e X.env (eval e X.env)) (TP X pins σ Q) X.xe s
def tSA (X : Cx) (es : List Expr) : TA := fun σ H Q => ∀ (pos : Pos) (pins : List (Addr × Obj)) (s : Shared), Inv X pins σ H s → wpAny (model X.prog X.w) X.A (spliced (backTo pos (starEach es X.env))) (AP X pins σ Q) X.xe s
theorem pe_s : PE X e (tS X e) := ⟨fun pins s σ H Q I h => h pins s I⟩
theorem pt_s : PT X e (tSB X e) := ⟨fun pins s σ H Q I h => h pins s I⟩
theorem pa_s : PA X es (tSA X es) := ⟨fun pos pins s σ H Q I h => h pos pins s I⟩
theorem PV.t (h : PV X e σ H r) (hs : Same H H1) {Q : VK} (q : ∀ v H2, Same H1 H2 → r.P H1 v H2 → Q v H2) : tS X e σ H1 Q :=
  fun pins s I => thn (h pins s H1 hs I) fun u s' ⟨v, H2, I2, rv, hs2, p⟩ => ⟨v, H2, I2, rv, q v H2 hs2 p⟩
theorem PB.t (h : PB X e σ H b) (hs : Same H H1) {Q : Bool → Hp → Prop} (q : ∀ H2, Same H1 H2 → Q b H2) : tSB X e σ H1 Q :=
  fun pins s I => thn (h pins s H1 hs I) fun c s' ⟨H2, I2, hs2, p⟩ => ⟨H2, I2, by subst p; exact q H2 hs2⟩
theorem PAs.t (h : PAs X es σ H rs) (hs : Same H H1) {Q : List V → Hp → Prop} (q : ∀ vs H2, Same H1 H2 → RsL rs H1 vs H2 → Q vs H2) : tSA X es σ H1 Q :=
  fun pos pins s I => thn (h pos pins s H1 hs I) fun u s' ⟨v, H2, I2, rv, hs2, p⟩ => ⟨v, H2, I2, rv, q v H2 hs2 p⟩
theorem PV.is {r' : Rs} (h : PV X e σ H r) (e' : r = r') : PV X e σ H r' := e' ▸ h
theorem PB.is {b' : Bool} (h : PB X e σ H b) (e' : b = b') : PB X e σ H b' := e' ▸ h

/-! ### statements -/
def WS (X : Cx) (st : Stmt) (D : Ends) (σ : St) (H : Hp) : Prop := ∀ (pins : List (Addr × Obj)) (s : Shared), Inv X pins σ H s → wpAny (model X.prog X.w) X.A (exec st X.env) (SP X pins D) X.xe s
def WB (X : Cx) (st : List Stmt) (D : Ends) (σ : St) (H : Hp) : Prop := ∀ (pins : List (Addr × Obj)) (s : Shared), Inv X pins σ H s → wpAny (model X.prog X.w) X.A (execs st X.env) (SP X pins D) X.xe s
variable {st : Stmt} {sts : List Stmt} {D : Ends}
theorem WS.of {t : L2.TS} (h : PS X st t) (q : t D σ H) : WS X st D σ H := fun pins s I => h.run pins s σ H D I q
theorem ps_w : PS X st (WS X st) := ⟨fun pins s σ H D I h => h pins s I⟩
theorem pss_w : PSs X sts (WB X sts) := ⟨fun pins s σ H D I h => h pins s I⟩
theorem wb_nil (q : D.nx σ H) : WB X [] D σ H := fun pins s I => pss_nil.run pins s σ H D I q
theorem wb_cons (h : WS X st { D with nx := WB X sts D } σ H) : WB X (st :: sts) D σ H := fun pins s I => (pss_cons ps_w pss_w).run pins s σ H D I h
theorem wb_one (h : WS X st D σ H) : WB X [st] D σ H := fun pins s I => (pss_one ps_w).run pins s σ H D I h
end
end Bx
set_option Elab.async false
set_option linter.all false
set_option maxRecDepth 100000
set_option maxHeartbeats 2000000
/-! B1: rules of pure evaluation. -/
namespace Bx
open PySem PySem.Spec PyProof.Rows L2
open PySem.W (Datum DatumOrd Holds HoldAll T3 T4 Tup)
section
variable {X : Cx} {e a b c : Expr} {es : List Expr} {σ : St} {H H' H1 : Hp} {r ra rb rz : Rs} {rs : List Rs} {pos : Pos} {ds ds1 ds2 : List PyData} {d : PyData}

/-! ### names, constants -/
theorem pv_of_pe {i : Nat} {v : V} (h : PE X e (tVar i)) (hσ : σ[i]? = some (some v)) : PV X e σ H (.v v) := .of h fun H1 _ => ⟨v, hσ, Same.refl _, rfl⟩
theorem pv_name (i : Nat) {x : Str} {pos : Pos} {v : V} (hσ : σ[i]? = some (some v)) (hN : X.N[i]? = some x := by rfl) (hv : Vis X.env.scope x := by first | exact Or.inl rfl | exact Or.inr (Or.inl rfl) | exact Or.inr (Or.inr rfl)) (hd : (x == ("__debug__" : Str)) = false := by decide)
    (hcd : (x == ("__classdict__" : Str)) = false := by decide) : PV X (.Name x pos) σ H (.v v) := pv_of_pe (pe_var hN hv hd hcd) hσ
theorem PV.dat {v : V} (h : PV X e σ H (.v v)) (hd : DI H v d) : PV X e σ H (.d d) := fun pins s H1 hs I => thn (h pins s H1 hs I) fun u s' ⟨w, H2, I2, rw', hs2, p⟩ => ⟨w, H2, I2, rw', hs2, by
  have p : w = v := p
  subst p
  exact hd.same (hs.trans hs2)⟩
/-- a slot that holds data -/
theorem pv_dat (i : Nat) {x : Str} {pos : Pos} {v : V} (hσ : σ[i]? = some (some v)) (hd : DI H v d) (hN : X.N[i]? = some x := by rfl) (hv : Vis X.env.scope x := by first | exact Or.inl rfl | exact Or.inr (Or.inl rfl) | exact Or.inr (Or.inr rfl)) (hdd : (x == ("__debug__" : Str)) = false := by decide)
    (hcd : (x == ("__classdict__" : Str)) = false := by decide) : PV X (.Name x pos) σ H (.d d) := (pv_name i hσ hN hv hdd hcd).dat hd
theorem pv_int {i : Int} {j pos} : PV X (.Constant (.int i) j pos) σ H (.i i) := .of pe_int fun _ _ => ⟨Same.refl _, DI.int i⟩
theorem pv_str {x j pos} : PV X (.Constant (.str x) j pos) σ H (.s x) := .of pe_str fun _ _ => ⟨Same.refl _, DI.str x⟩
theorem pv_bool {b : Bool} {j pos} : PV X (.Constant (.bool b) j pos) σ H (.b b) := .of pe_bl fun _ _ => ⟨Same.refl _, DI.bl b⟩
theorem pv_non {j pos} : PV X (.Constant .none j pos) σ H (.d .none) := .of pe_non fun _ _ => ⟨Same.refl _, DI.non⟩
theorem pv_gstr {x : Str} {z : Str} {t : Tok} {pos : Pos} (hm : X.mg x = some (.str z t)) (hg : Gl X x := by rfl) (hd : (x == ("__debug__" : Str)) = false := by decide) : PV X (.Name x pos) σ H (.s z) :=
  .of (pe_glob (v := .str z) hg hm ⟨t, rfl⟩ hd) fun _ _ => ⟨Same.refl _, DI.str z⟩
theorem pv_gint {x : Str} {z : Int} {t : Tok} {pos : Pos} (hm : X.mg x = some (.int z t)) (hg : Gl X x := by rfl) (hd : (x == ("__debug__" : Str)) = false := by decide) : PV X (.Name x pos) σ H (.i z) :=
  .of (pe_glob (v := .int z) hg hm ⟨t, rfl⟩ hd) fun _ _ => ⟨Same.refl _, DI.int z⟩

/-! ### operators -/
/-- what a two-place rule on values gives -/
def RR (r : R2) (H : Hp) (ra rb rz : Rs) : Prop := ∀ (H0 H' : Hp) (x y : V), Same H H0 → Same H0 H' → ra.P H0 x H' → rb.P H0 y H' → ∀ Q : VK, (∀ v H2, Same H' H2 → rz.P H' v H2 → Q v H2) → r x y H' Q
theorem tOp_of {r : R2} {ta tb : TE} (ha : ∀ H1, Same H H1 → ∀ Q : VK, (∀ v H2, Same H1 H2 → ra.P H1 v H2 → Q v H2) → ta σ H1 Q) (hb : ∀ H1, Same H H1 → ∀ Q : VK, (∀ v H2, Same H1 H2 → rb.P H1 v H2 → Q v H2) → tb σ H1 Q) (hr : RR r H ra rb rz)
    (H1 : Hp) (hs : Same H H1) {Q : VK} (q : ∀ v H2, Same H1 H2 → rz.P H1 v H2 → Q v H2) : tOp r ta tb σ H1 Q :=
  ha H1 hs _ fun x H2 s2 px => hb H2 (hs.trans s2) _ fun y H3 s3 py => hr H1 H3 x y hs (s2.trans s3) (Rs.up px s3) (Rs.down py s2) _ fun v H4 s4 pv => q v H4 ((s2.trans s3).trans s4) (Rs.down pv (s2.trans s3))
theorem pv_op {op : Operator} {r : R2} (ho : OpR X (binaryOp op) r) (ha : PV X a σ H ra) (hb : PV X b σ H rb) (hr : RR r H ra rb rz) : PV X (.BinOp a op b pos) σ H rz :=
  .of (pe_op ho pe_s pe_s) fun H1 hs => tOp_of (fun H1 hs Q q => ha.t hs q) (fun H1 hs Q q => hb.t hs q) hr H1 hs fun v H2 s2 p => ⟨s2, p⟩
theorem pv_cmp {op : CmpOp} {r : R2} (ho : OpR X (compareOp op) r) (ha : PV X a σ H ra) (hb : PV X b σ H rb) (hr : RR r H ra rb rz) (hm : behindInMarks op b = false := by first | exact nomark _ | rfl) : PV X (.Compare a [op] [b] pos) σ H rz :=
  .of (pe_cmpR ho pe_s pe_s hm) fun H1 hs => tOp_of (fun H1 hs Q q => ha.t hs q) (fun H1 hs Q q => hb.t hs q) hr H1 hs fun v H2 s2 p => ⟨s2, p⟩
theorem pb_cmp {op : CmpOp} {r : R2} {k : Bool} (ho : OpR X (compareOp op) r) (ha : PV X a σ H ra) (hb : PV X b σ H rb) (hr : RR r H ra rb (.b k)) (hm : behindInMarks op b = false := by first | exact nomark _ | rfl) : PB X (.Compare a [op] [b] pos) σ H k :=
  .of (pt_cmpR ho pe_s pe_s hm) fun H1 hs => tOp_of (fun H1 hs Q q => ha.t hs q) (fun H1 hs Q q => hb.t hs q) hr H1 hs fun v H2 s2 p => ⟨k, Rs.pB p, s2, rfl⟩
theorem pb_val {k : Bool} (h : PV X e σ H (.b k)) (he : ∀ whole, isTrue e X.env whole = (do let v ← whole; standAt e.pos; holding [v] (truthy v)) := by intro _; rfl) : PB X e σ H k :=
  .of (pt_val pe_s he) fun H1 hs => h.t hs fun v H2 s2 p => ⟨k, Rs.pB p, s2, rfl⟩
/-- ints -/
theorem rr_I0 {g : Int → Int → V} {d : PyData} {i j : Int} (hg : ∀ H, DI H (g i j) d) : RR (rI0 g) H (.i i) (.i j) (.d d) := fun H0 H' x y _ _ px py Q q => ⟨i, j, Rs.pI px, Rs.pI py, q _ H' (Same.refl _) (hg _)⟩
theorem rr_I {C : Int → Int → Prop} {g : Int → Int → V} {d : PyData} {i j : Int} (hC : C i j) (hg : ∀ H, DI H (g i j) d) : RR (rI C g) H (.i i) (.i j) (.d d) := fun H0 H' x y _ _ px py Q q => ⟨i, j, Rs.pI px, Rs.pI py, hC, q _ H' (Same.refl _) (hg _)⟩
section
variable {i j : Int}
theorem pv_add (ha : PV X a σ H (.i i)) (hb : PV X b σ H (.i j)) : PV X (.BinOp a .Add b pos) σ H (.i (i + j)) := pv_op op_add ha hb (rr_I0 fun _ => DI.int _)
theorem pv_sub (ha : PV X a σ H (.i i)) (hb : PV X b σ H (.i j)) : PV X (.BinOp a .Sub b pos) σ H (.i (i - j)) := pv_op op_sub ha hb (rr_I0 fun _ => DI.int _)
theorem pv_mul (ha : PV X a σ H (.i i)) (hb : PV X b σ H (.i j)) (hC : CMul i j) : PV X (.BinOp a .Mult b pos) σ H (.i (i * j)) := pv_op op_mul ha hb (rr_I hC fun _ => DI.int _)
theorem pv_mod (ha : PV X a σ H (.i i)) (hb : PV X b σ H (.i j)) (hC : 0 < j) : PV X (.BinOp a .Mod b pos) σ H (.i (i % j)) := pv_op op_mod ha hb (rr_I hC fun _ => DI.int _)
theorem pv_fdiv (ha : PV X a σ H (.i i)) (hb : PV X b σ H (.i j)) (hC : CDiv i j) : PV X (.BinOp a .FloorDiv b pos) σ H (.i (i / j)) := pv_op op_fdiv ha hb (rr_I hC fun _ => DI.int _)
theorem pv_pow (ha : PV X a σ H (.i i)) (hb : PV X b σ H (.i j)) (hC : CPow i j) : PV X (.BinOp a .Pow b pos) σ H (.i (i ^ j.toNat)) := pv_op op_pow ha hb (rr_I hC fun _ => DI.int _)
theorem pv_ge (ha : PV X a σ H (.i i)) (hb : PV X b σ H (.i j)) : PV X (.Compare a [.GtE] [b] pos) σ H (.b (decide (j ≤ i))) := pv_cmp op_ge ha hb (rr_I0 fun _ => DI.bl _)
theorem pb_lt (ha : PV X a σ H (.i i)) (hb : PV X b σ H (.i j)) : PB X (.Compare a [.Lt] [b] pos) σ H (decide (i < j)) := pb_cmp op_lt ha hb (rr_I0 fun _ => DI.bl _)
theorem pb_gt (ha : PV X a σ H (.i i)) (hb : PV X b σ H (.i j)) : PB X (.Compare a [.Gt] [b] pos) σ H (decide (j < i)) := pb_cmp op_gt ha hb (rr_I0 fun _ => DI.bl _)
theorem pb_ge (ha : PV X a σ H (.i i)) (hb : PV X b σ H (.i j)) : PB X (.Compare a [.GtE] [b] pos) σ H (decide (j ≤ i)) := pb_cmp op_ge ha hb (rr_I0 fun _ => DI.bl _)
end
/-! ### == and order of typed data -/
section
variable {α : Type} [DecidableEq α] [Datum α] {x y : α}
theorem hu_dep {A : Around} {n : Nat} (hu : A.units + 64 < cLine) (h : n ≤ 60) : A.units + n < cLine := by omega
def rTT {α : Type} [DecidableEq α] [Datum α] (f : α → α → Bool) : R2 := fun x y H Q => ∃ a b : α, HD H x a ∧ HD H y b ∧ Q (.bl (f a b)) H
theorem op_eqT {α : Type} [DecidableEq α] [Datum α] (hu : X.A.units + 64 < cLine) (hd : Datum.depth α ≤ 60) : OpR X (compareOp .Eq) (rTT fun a b : α => decide (a = b)) := fun pins s σ H x y v u Q I rx ry ⟨a, b, ha, hb, q⟩ =>
  PySem.W.eq_datum (ha.holds I rx) (hb.holds I ry) (hu_dep hu hd) ⟨.bl _, H, I, rfl, q⟩
theorem op_neT {α : Type} [DecidableEq α] [Datum α] (hu : X.A.units + 64 < cLine) (hd : Datum.depth α ≤ 60) : OpR X (compareOp .NotEq) (rTT fun a b : α => decide (a ≠ b)) := fun pins s σ H x y v u Q I rx ry ⟨a, b, ha, hb, q⟩ =>
  PySem.W.ne_datum (ha.holds I rx) (hb.holds I ry) (hu_dep hu hd) ⟨.bl _, H, I, rfl, q⟩
theorem rr_TT {f : α → α → Bool} : RR (rTT f) H (.t x) (.t y) (.b (f x y)) := fun H0 H' u v _ _ px py Q q => ⟨x, y, px, py, q _ H' (Same.refl _) (DI.bl _)⟩
theorem pv_eqT (ha : PV X a σ H (.t x)) (hb : PV X b σ H (.t y)) (hu : X.A.units + 64 < cLine := by assumption) (hd : Datum.depth α ≤ 60 := by decide) : PV X (.Compare a [.Eq] [b] pos) σ H (.b (decide (x = y))) := pv_cmp (op_eqT hu hd) ha hb rr_TT
theorem pb_eqT (ha : PV X a σ H (.t x)) (hb : PV X b σ H (.t y)) (hu : X.A.units + 64 < cLine := by assumption) (hd : Datum.depth α ≤ 60 := by decide) : PB X (.Compare a [.Eq] [b] pos) σ H (decide (x = y)) := pb_cmp (op_eqT hu hd) ha hb rr_TT
theorem pv_neT (ha : PV X a σ H (.t x)) (hb : PV X b σ H (.t y)) (hu : X.A.units + 64 < cLine := by assumption) (hd : Datum.depth α ≤ 60 := by decide) : PV X (.Compare a [.NotEq] [b] pos) σ H (.b (decide (x ≠ y))) := pv_cmp (op_neT hu hd) ha hb rr_TT
theorem pb_neT (ha : PV X a σ H (.t x)) (hb : PV X b σ H (.t y)) (hu : X.A.units + 64 < cLine := by assumption) (hd : Datum.depth α ≤ 60 := by decide) : PB X (.Compare a [.NotEq] [b] pos) σ H (decide (x ≠ y)) := pb_cmp (op_neT hu hd) ha hb rr_TT
end
section
variable {α : Type} [DecidableEq α] [DatumOrd α] {x y : α}
theorem op_ltD {α : Type} [DecidableEq α] [DatumOrd α] (hu : X.A.units + 64 < cLine) (hd : Datum.depth α ≤ 60) : OpR X (compareOp .Lt) (rTT fun a b : α => DatumOrd.lt a b) := fun pins s σ H x y v u Q I rx ry ⟨a, b, ha, hb, q⟩ =>
  PySem.W.lt_datum (ha.holds I rx) (hb.holds I ry) (hu_dep hu hd) ⟨.bl _, H, I, rfl, q⟩
theorem op_gtD {α : Type} [DecidableEq α] [DatumOrd α] (hu : X.A.units + 64 < cLine) (hd : Datum.depth α ≤ 60) : OpR X (compareOp .Gt) (rTT fun a b : α => DatumOrd.lt b a) := fun pins s σ H x y v u Q I rx ry ⟨a, b, ha, hb, q⟩ =>
  PySem.W.gt_datum (ha.holds I rx) (hb.holds I ry) (hu_dep hu hd) ⟨.bl _, H, I, rfl, q⟩
theorem pb_ltD (ha : PV X a σ H (.t x)) (hb : PV X b σ H (.t y)) (hu : X.A.units + 64 < cLine := by assumption) (hd : Datum.depth α ≤ 60 := by decide) : PB X (.Compare a [.Lt] [b] pos) σ H (DatumOrd.lt x y) := pb_cmp (op_ltD hu hd) ha hb rr_TT
theorem pb_gtD (ha : PV X a σ H (.t x)) (hb : PV X b σ H (.t y)) (hu : X.A.units + 64 < cLine := by assumption) (hd : Datum.depth α ≤ 60 := by decide) : PB X (.Compare a [.Gt] [b] pos) σ H (DatumOrd.lt y x) := pb_cmp (op_gtD hu hd) ha hb rr_TT
end
/-! ### is None -/
def isNone : PyData → Bool
  | .none => true
  | _ => false
theorem di_none {H : Hp} {u : V} {x : PyData} (h : DI H u x) : decide (u = V.non) = isNone x := by cases h <;> rfl
theorem rr_isN {x : PyData} : RR rIsN H (.d x) (.d .none) (.b (isNone x)) := fun H0 H' u v _ _ px py Q q => by
  have px : DI H' u x := px
  refine ⟨Rs.pN py, ?_⟩
  rw [di_none px]
  exact q _ H' (Same.refl _) (DI.bl _)
theorem rr_notN {x : PyData} : RR rNotN H (.d x) (.d .none) (.b (!isNone x)) := fun H0 H' u v _ _ px py Q q => by
  have px : DI H' u x := px
  refine ⟨Rs.pN py, ?_⟩
  rw [di_none px]
  exact q _ H' (Same.refl _) (DI.bl _)
theorem pv_isN {x : PyData} {j p} (ha : PV X a σ H (.d x)) : PV X (.Compare a [.Is] [.Constant .none j p] pos) σ H (.b (isNone x)) := pv_cmp op_isN1 ha pv_non rr_isN
theorem pb_isN {x : PyData} {j p} (ha : PV X a σ H (.d x)) : PB X (.Compare a [.Is] [.Constant .none j p] pos) σ H (isNone x) := pb_cmp op_isN1 ha pv_non rr_isN
theorem pb_notN {x : PyData} {j p} (ha : PV X a σ H (.d x)) : PB X (.Compare a [.IsNot] [.Constant .none j p] pos) σ H (!isNone x) := pb_cmp op_notN1 ha pv_non rr_notN

/-! ### and, or, not, if -/
theorem pb_not {k : Bool} (h : PB X a σ H k) : PB X (.UnaryOp .Not a pos) σ H (!k) := .of (pt_not pt_s) fun H1 hs => h.t hs fun H2 s2 => ⟨s2, rfl⟩
def PBW (X : Cx) (e : Expr) (σ : St) (H : Hp) (b : Bool) : Prop :=
  ∀ (whole : Sem Value) (pins : List (Addr × Obj)) (s : Shared) (H1 : Hp), Same H H1 → Inv X pins σ H1 s → wpAny (model X.prog X.w) X.A (isTrue e X.env whole) (TP X pins σ fun c H2 => Same H1 H2 ∧ c = b) X.xe s
def tSW (X : Cx) (e : Expr) : TT := fun σ H Q => ∀ (whole : Sem Value) (pins : List (Addr × Obj)) (s : Shared), Inv X pins σ H s → wpAny (model X.prog X.w) X.A (isTrue e X.env whole) (TP X pins σ Q) X.xe s
theorem pw_s : PW X e (tSW X e) := ⟨fun wh pins s σ H Q I h => h wh pins s I⟩
theorem PBW.pb {k : Bool} (h : PBW X e σ H k) : PB X e σ H k := h _
theorem PBW.t {k : Bool} (h : PBW X e σ H k) (hs : Same H H1) {Q : Bool → Hp → Prop} (q : ∀ H2, Same H1 H2 → Q k H2) : tSW X e σ H1 Q :=
  fun wh pins s I => thn (h wh pins s H1 hs I) fun c s' ⟨H2, I2, hs2, p⟩ => ⟨H2, I2, by subst p; exact q H2 hs2⟩
theorem PBW.of {t : TT} {k : Bool} (h : PW X e t) (q : ∀ H1, Same H H1 → t σ H1 fun c H2 => Same H1 H2 ∧ c = k) : PBW X e σ H k := fun wh pins s H1 hs I => h.run wh pins s σ H1 _ I (q H1 hs)
theorem pw_a1 {k : Bool} (h : PB X a σ H k) : PBW X (.BoolOp .And [a] pos) σ H k := .of (pw_and1 pt_s) fun H1 hs => h.t hs fun H2 s2 => ⟨s2, rfl⟩
theorem pw_o1 {k : Bool} (h : PB X a σ H k) : PBW X (.BoolOp .Or [a] pos) σ H k := .of (pw_or1 pt_s) fun H1 hs => h.t hs fun H2 s2 => ⟨s2, rfl⟩
theorem pw_a {k l : Bool} (h : PB X a σ H k) (h2 : k = true → PBW X (.BoolOp .And (b :: es) pos) σ H l) : PBW X (.BoolOp .And (a :: b :: es) pos) σ H (k && l) :=
  .of (pw_and pt_s pw_s) fun H1 hs => h.t hs fun H2 s2 => by
    cases k with
    | true => exact iteT ((h2 rfl).t (hs.trans s2) fun H3 s3 => ⟨s2.trans s3, rfl⟩)
    | false => exact iteF ⟨s2, rfl⟩
theorem pw_o {k l : Bool} (h : PB X a σ H k) (h2 : k = false → PBW X (.BoolOp .Or (b :: es) pos) σ H l) : PBW X (.BoolOp .Or (a :: b :: es) pos) σ H (k || l) :=
  .of (pw_or pt_s pw_s) fun H1 hs => h.t hs fun H2 s2 => by
    cases k with
    | true => exact iteT ⟨s2, rfl⟩
    | false => exact iteF ((h2 rfl).t (hs.trans s2) fun H3 s3 => ⟨s2.trans s3, rfl⟩)
/-- as values -/
theorem pv_one {op} (h : PV X a σ H r) : PV X (.BoolOp op [a] pos) σ H r := .of (pe_one pe_s) fun H1 hs => h.t hs fun v H2 s2 p => ⟨s2, p⟩
theorem pv_a {k l : Bool} (h : PV X a σ H (.b k)) (h2 : k = true → PV X (.BoolOp .And (b :: es) pos) σ H (.b l)) : PV X (.BoolOp .And (a :: b :: es) pos) σ H (.b (k && l)) :=
  .of (pe_and pe_s pe_s) fun H1 hs => h.t hs fun v H2 s2 p => ⟨k, Rs.pB p, by
    cases k with
    | true => exact iteT ((h2 rfl).t (hs.trans s2) fun v H3 s3 p => ⟨s2.trans s3, Rs.down p s2⟩)
    | false => exact iteF ⟨s2, DI.bl _⟩⟩
theorem pv_o {k l : Bool} (h : PV X a σ H (.b k)) (h2 : k = false → PV X (.BoolOp .Or (b :: es) pos) σ H (.b l)) : PV X (.BoolOp .Or (a :: b :: es) pos) σ H (.b (k || l)) :=
  .of (pe_or pe_s pe_s) fun H1 hs => h.t hs fun v H2 s2 p => ⟨k, Rs.pB p, by
    cases k with
    | true => exact iteT ⟨s2, DI.bl _⟩
    | false => exact iteF ((h2 rfl).t (hs.trans s2) fun v H3 s3 p => ⟨s2.trans s3, Rs.down p s2⟩)⟩
theorem pv_not {k : Bool} (h : PV X a σ H (.b k)) : PV X (.UnaryOp .Not a pos) σ H (.b (!k)) := .of (pe_not pe_s) fun H1 hs => h.t hs fun v H2 s2 p => ⟨k, Rs.pB p, s2, DI.bl _⟩
theorem pv_ifE {k : Bool} (h : PB X c σ H k) (h1 : k = true → PV X a σ H r) (h2 : k = false → PV X b σ H r) : PV X (.IfExp c a b pos) σ H r :=
  .of (pe_ifExp pt_s pe_s pe_s) fun H1 hs => h.t hs fun H2 s2 => by
    cases k with
    | true => exact iteT ((h1 rfl).t (hs.trans s2) fun v H3 s3 p => ⟨s2.trans s3, Rs.down p s2⟩)
    | false => exact iteF ((h2 rfl).t (hs.trans s2) fun v H3 s3 p => ⟨s2.trans s3, Rs.down p s2⟩)

/-! ### arguments, displays -/
theorem pas_nil : PAs X [] σ H [] := .of pa_nil fun H1 _ => ⟨Same.refl _, rfl⟩
theorem pas_cons (h : PV X e σ H r) (hr : PAs X es σ H rs) (hs : starEach (e :: es) X.env = (false, eval e X.env) :: starEach es X.env := by rfl) : PAs X (e :: es) σ H (r :: rs) :=
  .of (pa_cons pe_s pa_s hs) fun H1 h1 => h.t h1 fun x H2 s2 px => hr.t (h1.trans s2) fun xs H3 s3 pxs => ⟨s2.trans s3, x, xs, rfl, Rs.up px s3, RsL.down pxs s2⟩
/-- data alone -/
def PAd (X : Cx) (es : List Expr) (σ : St) (H : Hp) (ds : List PyData) : Prop :=
  ∀ (pos : Pos) (pins : List (Addr × Obj)) (s : Shared) (H1 : Hp), Same H H1 → Inv X pins σ H1 s → wpAny (model X.prog X.w) X.A (spliced (backTo pos (starEach es X.env))) (AP X pins σ fun vs H2 => Same H1 H2 ∧ DIs H2 vs ds) X.xe s
theorem PAd.of {t : TA} (h : PA X es t) (q : ∀ H1, Same H H1 → t σ H1 fun vs H2 => Same H1 H2 ∧ DIs H2 vs ds) : PAd X es σ H ds := fun pos pins s H1 hs I => h.run pos pins s σ H1 _ I (q H1 hs)
theorem PAd.t (h : PAd X es σ H ds) (hs : Same H H1) {Q : List V → Hp → Prop} (q : ∀ vs H2, Same H1 H2 → DIs H2 vs ds → Q vs H2) : tSA X es σ H1 Q :=
  fun pos pins s I => thn (h pos pins s H1 hs I) fun u s' ⟨v, H2, I2, rv, hs2, p⟩ => ⟨v, H2, I2, rv, q v H2 hs2 p⟩
theorem pad_nil : PAd X [] σ H [] := .of pa_nil fun H1 _ => ⟨Same.refl _, .nil⟩
theorem pad_cons (h : PV X e σ H (.d d)) (hr : PAd X es σ H ds) (hs : starEach (e :: es) X.env = (false, eval e X.env) :: starEach es X.env := by rfl) : PAd X (e :: es) σ H (d :: ds) :=
  .of (pa_cons pe_s pa_s hs) fun H1 h1 => h.t h1 fun x H2 s2 px => hr.t (h1.trans s2) fun xs H3 s3 pxs => ⟨s2.trans s3, .cons (DI.same s3 px) pxs⟩
/-- *e, e a tuple -/
theorem pad_star {p : Pos} (h : PV X e σ H (.d (.tuple ds1))) (hr : PAd X es σ H ds2) (hs : starEach (.Starred e p :: es) X.env = (true, eval e X.env) :: starEach es X.env := by rfl) : PAd X (.Starred e p :: es) σ H (ds1 ++ ds2) :=
  .of (StX.pa_star pe_s pa_s hs) fun H1 h1 => h.t h1 fun x H2 s2 px => by
    have px : DI H2 x (.tuple ds1) := px
    cases px with
    | tup ea hd => exact ⟨_, _, rfl, .inl (ea.sq), hr.t (h1.trans s2) fun ys H3 s3 pys => ⟨s2.trans s3, (hd.same s3).append pys⟩⟩
theorem same_new {H : Hp} {p : Addr} {o : HO} (h : H p = none) : Same H (upd H p o) := fun b u e => by
  rw [upd_ne (ne_of_none e h)]; exact e
theorem pv_tup {k} (h : PAd X es σ H ds) (hl : ds.length ≤ 1000000 := by simp) : PV X (.Tuple es k pos) σ H (.d (.tuple ds)) :=
  .of (pe_tup pa_s) fun H1 hs => h.t hs fun vs H2 s2 pd => ⟨by rw [pd.length]; exact Nat.le_trans hl (by decide), fun p np => ⟨s2.trans (same_new np), .mk upd_same (pd.same (same_new np))⟩⟩
theorem pv_lst (h : PAd X es σ H ds) (hl : ds.length ≤ 1000000 := by simp) : PV X (.List es pos) σ H (.l ds) :=
  .of (pe_lst pa_s) fun H1 hs => h.t hs fun vs H2 s2 pd => ⟨by rw [pd.length]; exact Nat.le_trans hl (by decide), fun p np => ⟨s2.trans (same_new np), p, vs, rfl, s2.free np, upd_same, pd.same (same_new np)⟩⟩

/-! ### subscripts -/
theorem DIs.atI {vs : List V} (h : DIs H vs ds) {i : Int} (e : L2.atI ds i = some d) : ∃ v, L2.atI vs i = some v ∧ DI H v d := by
  unfold L2.atI at e ⊢
  rw [h.length]
  cases q : ixN ds.length i with
  | none => rw [q] at e; cases e
  | some j =>
    rw [q] at e
    exact h.get e
theorem pv_ixD {i : Int} (ha : PV X a σ H (.d (.tuple ds))) (hb : PV X b σ H (.i i)) (hi : L2.atI ds i = some d) (hs : PlainIx b := by exact fun _ _ => rfl) : PV X (.Subscript a b pos) σ H (.d d) :=
  .of (pe_ix ix_tup pe_s pe_s hs) fun H1 hs => tOp_of (rz := .d d) (fun H1 hs Q q => ha.t hs q) (fun H1 hs Q q => hb.t hs q) (fun H0 H' x y _ _ px py Q q => by
    have px : DI H' x (.tuple ds) := px
    cases px with
    | tup ea hd =>
      obtain ⟨v, hv, dv⟩ := hd.atI hi
      exact ⟨_, _, i, v, rfl, Rs.pI py, ea.sq, hv, q _ H' (Same.refl _) dv⟩) H1 hs fun v H2 s2 p => ⟨s2, p⟩
/-- an item of a list that stands at a -/
theorem pv_ixL {i : Int} {p : Addr} {vs : List V} (ha : PV X a σ H (.v (.ref p))) (hp : H p = some (.lst vs)) (hd : DIs H vs ds) (hb : PV X b σ H (.i i)) (hi : L2.atI ds i = some d) (hs : PlainIx b := by exact fun _ _ => rfl) : PV X (.Subscript a b pos) σ H (.d d) :=
  .of (pe_ix ix_list pe_s pe_s hs) fun H1 hs => tOp_of (rz := .d d) (fun H1 hs Q q => ha.t hs q) (fun H1 hs Q q => hb.t hs q) (fun H0 H' x y s0 s1 px py Q q => by
    have px : x = .ref p := px
    subst px
    have s' := s0.trans s1
    obtain ⟨v, hv, dv⟩ := (hd.same s').atI hi
    exact ⟨_, _, i, v, rfl, Rs.pI py, SqL.of (s' _ _ hp), hv, q _ H' (Same.refl _) dv⟩) H1 hs fun v H2 s2 p => ⟨s2, p⟩
/-- .. of a new list -/
theorem pv_ixN {i : Int} (ha : PV X a σ H (.l ds)) (hb : PV X b σ H (.i i)) (hi : L2.atI ds i = some d) (hs : PlainIx b := by exact fun _ _ => rfl) : PV X (.Subscript a b pos) σ H (.d d) :=
  .of (pe_ix ix_list pe_s pe_s hs) fun H1 hs => tOp_of (rz := .d d) (fun H1 hs Q q => ha.t hs q) (fun H1 hs Q q => hb.t hs q) (fun H0 H' x y s0 s1 px py Q q => by
    obtain ⟨p, vs, rfl, _, hp, hd⟩ := px
    obtain ⟨v, hv, dv⟩ := hd.atI hi
    exact ⟨_, _, i, v, rfl, Rs.pI py, SqL.of hp, hv, q _ H' (Same.refl _) dv⟩) H1 hs fun v H2 s2 p => ⟨s2, p⟩
end
end Bx
set_option Elab.async false
set_option linter.all false
set_option maxRecDepth 100000
set_option maxHeartbeats 2000000
/-! B2: calls, comprehensions, statements, loops, defs. -/
namespace Bx
open PySem PySem.Spec PyProof.Rows L2
open PySem.W (Datum DatumOrd Holds HoldAll T3 T4 Tup)

/-! ### promises -/
def spY {Y : Type} (Pre : Y → List V → Hp → Prop) (res : Y → Rs) : Sp := fun vs H Q _ => ∃ y, Pre y vs H ∧ ∀ v H2, Same H H2 → (res y).P H v H2 → Q v H2
/-- a def of the text, with its promise -/
structure Dfn (P : Program) (w : World) (K : PySem.W.Frag) (mg : Str → Option Value) (base : Heap) (k : Nat) (x : Str) (ps : List Str) (sp : Sp) : Prop where
  ex : ∃ f fd, FnOk P w K mg base CX0 k f fd ps sp ∧ mg x = some (.ref f) ∧ PySem.W.keepIn K (.ref f) = true ∧ Binds K fd ps []
/-- a def of the text -/
structure Here (K : PySem.W.Frag) (mg : Str → Option Value) (x : Str) (st : Stmt) (ps : List Str) : Prop where
  ex : ∃ f fd, Fun K x x st f fd ∧ mg x = some (.ref f) ∧ Binds K fd ps []
theorem dfn_of {P : Program} {w : World} {K : PySem.W.Frag} {mg : Str → Option Value} {base : Heap} {k : Nat} {x : Str} {st : Stmt} {N ps : List Str} {sp : Sp} (h : Here K mg x st ps) (S : FnScope N ps (defScope st)) (len : ∀ vs H Q E, sp vs H Q E → vs.length = ps.length)
    (hbody : ∀ (f : Addr) (cdv : Value) (A : Around) (outer : List Env) (s : Shared) (H : Hp) (vs : List V) (Q : VK) (E : XK), Room k (A.deeper (envOfC x (defScope st) s.heap.objs.size f cdv)) → sp vs H Q E →
      WB (cxOf CX0 P w K mg base N x (defScope st) f cdv A outer s H E).nox (defBody st) { nx := fun _ H' => Q .non H', rt := Q } (start N vs) H) : Dfn P w K mg base (k + 1) x ps sp := by
  obtain ⟨f, fd, F, hm, hb⟩ := h.ex
  exact ⟨f, fd, F.ok S len fun cdv A outer s H vs Q E hr h => ⟨_, pss_w, hbody f cdv A outer s H vs Q E hr h⟩, hm, F.kp, hb⟩
theorem Dfn.mono {P : Program} {w : World} {K : PySem.W.Frag} {mg : Str → Option Value} {base : Heap} {j k : Nat} {x : Str} {ps : List Str} {sp : Sp} (h : Dfn P w K mg base j x ps sp) (hl : j ≤ k) : Dfn P w K mg base k x ps sp := by
  obtain ⟨f, fd, F, r⟩ := h.ex
  exact ⟨f, fd, F.mono hl, r⟩

section
variable {X : Cx} {e a b c : Expr} {es : List Expr} {σ : St} {H H' H1 : Hp} {r ra rb rz : Rs} {rs : List Rs} {pos : Pos} {ds ds1 ds2 : List PyData} {d : PyData}
/-- any call of a def, as a reading -/
theorem pe_dfn {k : Nat} {x : Str} {ps : List Str} {sp : Sp} {p : Pos} {t : TA} (D : Dfn X.prog X.w X.K X.mg X.base k x ps sp) (hr : Room k X.A) (ha : PA X (e :: es) t) (hg : Gl X x := by rfl) (hdb : (x == ("__debug__" : Str)) = false := by decide)
    (he : starEach (e :: es) X.env = (false, eval e X.env) :: starEach es X.env := by rfl) (hpl : (backTo pos (starEach es X.env)).any (·.1) = false := by rfl) : PE X (.Call (.Name x p) (e :: es) [] pos) (tCall sp [] E0 t) := by
  obtain ⟨f, fd, F, hm, hk, hb⟩ := D.ex
  exact pe_call F hr hg hm hk hb .nil pass0 ha hdb he hpl
theorem pv_call {Y : Type} {Pre : Y → List V → Hp → Prop} {res : Y → Rs} {k : Nat} {x : Str} {ps : List Str} {p : Pos} (D : Dfn X.prog X.w X.K X.mg X.base k x ps (spY Pre res)) (hr : Room k X.A) (ha : PAs X (e :: es) σ H rs) (y : Y)
    (hp : ∀ H0 H' vs, Same H H0 → Same H0 H' → RsL rs H0 vs H' → Pre y vs H') (hg : Gl X x := by rfl) (hdb : (x == ("__debug__" : Str)) = false := by decide)
    (he : starEach (e :: es) X.env = (false, eval e X.env) :: starEach es X.env := by rfl) (hpl : (backTo pos (starEach es X.env)).any (·.1) = false := by rfl) : PV X (.Call (.Name x p) (e :: es) [] pos) σ H (res y) :=
  .of (pe_dfn D hr pa_s hg hdb he hpl) fun H1 hs => ha.t hs fun vs H2 s2 pr => ⟨y, by rw [List.append_nil]; exact hp H1 H2 vs hs s2 pr, fun v H3 s3 pv => ⟨s2.trans s3, Rs.down pv s2⟩⟩
/-- a built-in function, a built-in type -/
theorem pv_callB {r : List V → Hp → VK → Prop} {x : Str} {id : String} {p : Pos} (hc : CallR X (.builtin id) r) (hm : X.mg x = none) (hv : bootBuiltins x = some (.builtin id)) (ha : PAs X (e :: es) σ H rs)
    (hr : ∀ H0 H' vs, Same H H0 → Same H0 H' → RsL rs H0 vs H' → ∀ Q : VK, (∀ v H2, Same H' H2 → rz.P H' v H2 → Q v H2) → r vs H' Q) (hg : Gl X x := by rfl) (hn : x ≠ "__name__" := by decide) (hdb : (x == ("__debug__" : Str)) = false := by decide)
    (he : starEach (e :: es) X.env = (false, eval e X.env) :: starEach es X.env := by rfl) (hpl : (backTo pos (starEach es X.env)).any (·.1) = false := by rfl) : PV X (.Call (.Name x p) (e :: es) [] pos) σ H rz :=
  .of (pe_callB hc hg hm hv pa_s hn hdb he hpl) fun H1 hs => ha.t hs fun vs H2 s2 pr => hr H1 H2 vs hs s2 pr _ fun v H3 s3 pv => ⟨s2.trans s3, Rs.down pv s2⟩
theorem pv_callTy {r : List V → Hp → VK → Prop} {x : Str} {T : String} {p : Pos} (hc : CallR X (.type T) r) (hm : X.mg x = none) (hv : bootBuiltins x = some (.type T)) (ha : PAs X (e :: es) σ H rs)
    (hr : ∀ H0 H' vs, Same H H0 → Same H0 H' → RsL rs H0 vs H' → ∀ Q : VK, (∀ v H2, Same H' H2 → rz.P H' v H2 → Q v H2) → r vs H' Q) (hg : Gl X x := by rfl) (hn : x ≠ "__name__" := by decide) (hdb : (x == ("__debug__" : Str)) = false := by decide)
    (he : starEach (e :: es) X.env = (false, eval e X.env) :: starEach es X.env := by rfl) (hpl : (backTo pos (starEach es X.env)).any (·.1) = false := by rfl) : PV X (.Call (.Name x p) (e :: es) [] pos) σ H rz :=
  .of (pe_callTy hc hg hm hv pa_s hn hdb he hpl) fun H1 hs => ha.t hs fun vs H2 s2 pr => hr H1 H2 vs hs s2 pr _ fun v H3 s3 pv => ⟨s2.trans s3, Rs.down pv s2⟩
/-- e is no *e -/
abbrev NS (X : Cx) (e : Expr) : Prop := starEach [e] X.env = (false, eval e X.env) :: starEach [] X.env
theorem rsl1 {H1 H2 : Hp} {vs : List V} {r : Rs} (h : RsL [r] H1 vs H2) : ∃ v, vs = [v] ∧ r.P H1 v H2 := by
  obtain ⟨v, ws, e, p, q⟩ := h
  have q : ws = [] := q
  subst q
  exact ⟨v, e, p⟩
theorem rsl2 {H1 H2 : Hp} {vs : List V} {r r' : Rs} (h : RsL [r, r'] H1 vs H2) : ∃ v w, vs = [v, w] ∧ r.P H1 v H2 ∧ r'.P H1 w H2 := by
  obtain ⟨v, ws, e, p, q⟩ := h
  obtain ⟨w, rfl, p2⟩ := rsl1 q
  exact ⟨v, w, e, p, p2⟩
theorem rsl3 {H1 H2 : Hp} {vs : List V} {r r' r'' : Rs} (h : RsL [r, r', r''] H1 vs H2) : ∃ v w u, vs = [v, w, u] ∧ r.P H1 v H2 ∧ r'.P H1 w H2 ∧ r''.P H1 u H2 := by
  obtain ⟨v, ws, e, p, q⟩ := h
  obtain ⟨w, u, rfl, p2, p3⟩ := rsl2 q
  exact ⟨v, w, u, e, p, p2, p3⟩
/-! ### built-ins -/
theorem pv_lenT {p : Pos} (hm : X.mg "len" = none) (ha : PV X e σ H (.d (.tuple ds))) (hg : Gl X "len" := by rfl) (ns : NS X e := by rfl) : PV X (.Call (.Name "len" p) [e] [] pos) σ H (.i ds.length) :=
  pv_callB call_len_seq hm PySem.boot_len (pas_cons ha pas_nil ns) (fun H0 H' vs _ _ pr Q q => by
    obtain ⟨v, rfl, pv⟩ := rsl1 pr
    have pv : DI H' v (.tuple ds) := pv
    cases pv with
    | tup ea hd => exact ⟨_, _, rfl, .inr ea.sq, by rw [hd.length]; exact q _ H' (Same.refl _) (DI.int _)⟩) hg (he := ns)
theorem pv_lenN {p : Pos} (hm : X.mg "len" = none) (ha : PV X e σ H (.l ds)) (hg : Gl X "len" := by rfl) (ns : NS X e := by rfl) : PV X (.Call (.Name "len" p) [e] [] pos) σ H (.i ds.length) :=
  pv_callB call_len_seq hm PySem.boot_len (pas_cons ha pas_nil ns) (fun H0 H' vs _ _ pr Q q => by
    obtain ⟨v, rfl, pv⟩ := rsl1 pr
    obtain ⟨p, ws, rfl, _, hp, hd⟩ := pv
    exact ⟨_, _, rfl, .inl (SqL.of hp), by rw [hd.length]; exact q _ H' (Same.refl _) (DI.int _)⟩) hg (he := ns)
theorem pv_lenV {p : Pos} {l : Addr} {ws : List V} (hm : X.mg "len" = none) (ha : PV X e σ H (.v (.ref l))) (hl : SqL X.K H l ws) (hg : Gl X "len" := by rfl) (ns : NS X e := by rfl) : PV X (.Call (.Name "len" p) [e] [] pos) σ H (.i ws.length) :=
  pv_callB call_len_seq hm PySem.boot_len (pas_cons ha pas_nil ns) (fun H0 H' vs s0 s1 pr Q q => by
    obtain ⟨v, rfl, pv⟩ := rsl1 pr
    have pv : v = .ref l := pv
    exact ⟨_, _, by rw [pv], .inl ((s0.trans s1).seq hl), q _ H' (Same.refl _) (DI.int _)⟩) hg (he := ns)
theorem pv_lenS {p : Pos} {z : Str} (hm : X.mg "len" = none) (ha : PV X e σ H (.s z)) (hz : z.length ≤ 1000 := by decide) (hg : Gl X "len" := by rfl) (ns : NS X e := by rfl) : PV X (.Call (.Name "len" p) [e] [] pos) σ H (.i z.length) :=
  pv_callB call_len_str hm PySem.boot_len (pas_cons ha pas_nil ns) (fun H0 H' vs s0 s1 pr Q q => by
    obtain ⟨v, rfl, pv⟩ := rsl1 pr
    exact ⟨z, by rw [Rs.pS pv], Nat.le_trans hz (by decide), q _ H' (Same.refl _) (DI.int _)⟩) hg (he := ns)
theorem pv_tupleN {p : Pos} (hm : X.mg "tuple" = none) (ha : PV X e σ H (.l ds)) (hg : Gl X "tuple" := by rfl) (ns : NS X e := by rfl) : PV X (.Call (.Name "tuple" p) [e] [] pos) σ H (.d (.tuple ds)) :=
  pv_callTy call_tuple_of hm (by decide +kernel) (pas_cons ha pas_nil ns) (fun H0 H' vs _ _ pr Q q => by
    obtain ⟨v, rfl, pv⟩ := rsl1 pr
    obtain ⟨p, ws, rfl, _, hp, hd⟩ := pv
    exact ⟨_, _, rfl, .inl ⟨SqL.of hp, fun l nl => q _ _ (same_new nl) (.mk upd_same (hd.same (same_new nl)))⟩⟩) hg (he := ns)
theorem pv_listT {p : Pos} (hm : X.mg "list" = none) (ha : PV X e σ H (.d (.tuple ds))) (hg : Gl X "list" := by rfl) (ns : NS X e := by rfl) : PV X (.Call (.Name "list" p) [e] [] pos) σ H (.l ds) :=
  pv_callTy call_list_of hm (by decide +kernel) (pas_cons ha pas_nil ns) (fun H0 H' vs _ _ pr Q q => by
    obtain ⟨v, rfl, pv⟩ := rsl1 pr
    have pv : DI H' v (.tuple ds) := pv
    cases pv with
    | tup ea hd => exact ⟨_, _, rfl, .inr ea.sq, fun l nl => q _ _ (same_new nl) ⟨l, _, rfl, nl, upd_same, hd.same (same_new nl)⟩⟩) hg (he := ns)
theorem pv_listN {p : Pos} (hm : X.mg "list" = none) (ha : PV X e σ H (.l ds)) (hg : Gl X "list" := by rfl) (ns : NS X e := by rfl) : PV X (.Call (.Name "list" p) [e] [] pos) σ H (.l ds) :=
  pv_callTy call_list_of hm (by decide +kernel) (pas_cons ha pas_nil ns) (fun H0 H' vs _ _ pr Q q => by
    obtain ⟨v, rfl, pv⟩ := rsl1 pr
    obtain ⟨p, ws, rfl, _, hp, hd⟩ := pv
    exact ⟨_, _, rfl, .inl (SqL.of hp), fun l nl => q _ _ (same_new nl) ⟨l, _, rfl, nl, upd_same, hd.same (same_new nl)⟩⟩) hg (he := ns)
theorem dis_ints {H : Hp} : ∀ {vs : List V} {ns : List Int}, DIs H vs (ns.map .int) → vs = ns.map V.int
  | [], [], _ => rfl
  | [], _ :: _, h => by cases h
  | _ :: _, [], h => by cases h
  | v :: vs, n :: ns, h => by
    cases h with
    | cons h1 h2 => rw [List.map_cons, ← dis_ints h2]; cases h1; rfl
theorem dis_bools {H : Hp} : ∀ {vs : List V} {ns : List Bool}, DIs H vs (ns.map .bool) → vs = ns.map V.bl
  | [], [], _ => rfl
  | [], _ :: _, h => by cases h
  | _ :: _, [], h => by cases h
  | v :: vs, n :: ns, h => by
    cases h with
    | cons h1 h2 => rw [List.map_cons, ← dis_bools h2]; cases h1; rfl
theorem dis_strs {H : Hp} : ∀ {vs : List V} {ns : List Str}, DIs H vs (ns.map .str) → vs = ns.map V.str
  | [], [], _ => rfl
  | [], _ :: _, h => by cases h
  | _ :: _, [], h => by cases h
  | v :: vs, n :: ns, h => by
    cases h with
    | cons h1 h2 => rw [List.map_cons, ← dis_strs h2]; cases h1; rfl
theorem ints_dis {H : Hp} : ∀ ns : List Int, DIs H (ns.map V.int) (ns.map .int)
  | [] => .nil
  | n :: ns => .cons (.int n) (ints_dis ns)
theorem strs_dis {H : Hp} : ∀ ns : List Str, DIs H (ns.map V.str) (ns.map .str)
  | [] => .nil
  | n :: ns => .cons (.str n) (strs_dis ns)
theorem pv_sum {p : Pos} {nz : List Int} (hc : X.calm = true) (hm : X.mg "sum" = none) (ha : PV X e σ H (.l (nz.map .int))) (hg : Gl X "sum" := by rfl) (ns : NS X e := by rfl) : PV X (.Call (.Name "sum" p) [e] [] pos) σ H (.i nz.sum) :=
  pv_callB (cr_sum hc) hm (by decide +kernel) (pas_cons ha pas_nil ns) (fun H0 H' vs _ _ pr Q q => by
    obtain ⟨v, rfl, pv⟩ := rsl1 pr
    obtain ⟨p, ws, rfl, _, hp, hd⟩ := pv
    exact ⟨p, nz, rfl, by rw [← dis_ints hd]; exact SqL.of hp, q _ H' (Same.refl _) (DI.int _)⟩) hg (he := ns)
theorem pv_all {p : Pos} {nz : List Bool} (hc : X.calm = true) (hm : X.mg "all" = none) (ha : PV X e σ H (.l (nz.map .bool))) (hg : Gl X "all" := by rfl) (ns : NS X e := by rfl) : PV X (.Call (.Name "all" p) [e] [] pos) σ H (.b (nz.all id)) :=
  pv_callB (cr_all hc) hm (by decide +kernel) (pas_cons ha pas_nil ns) (fun H0 H' vs _ _ pr Q q => by
    obtain ⟨v, rfl, pv⟩ := rsl1 pr
    obtain ⟨p, ws, rfl, _, hp, hd⟩ := pv
    exact ⟨p, nz, rfl, by rw [← dis_bools hd]; exact SqL.of hp, q _ H' (Same.refl _) (DI.bl _)⟩) hg (he := ns)
theorem pv_intI {p : Pos} {i : Int} (hm : X.mg "int" = none) (ha : PV X e σ H (.i i)) (hg : Gl X "int" := by rfl) (ns : NS X e := by rfl) : PV X (.Call (.Name "int" p) [e] [] pos) σ H (.i i) :=
  pv_callTy call_int1 hm (by decide +kernel) (pas_cons ha pas_nil ns) (fun H0 H' vs _ _ pr Q q => by
    obtain ⟨v, rfl, pv⟩ := rsl1 pr
    exact .inl ⟨i, by rw [Rs.pI pv], q _ H' (Same.refl _) (DI.int _)⟩) hg (he := ns)
theorem pv_intB {p : Pos} {i : Bool} (hm : X.mg "int" = none) (ha : PV X e σ H (.b i)) (hg : Gl X "int" := by rfl) (ns : NS X e := by rfl) : PV X (.Call (.Name "int" p) [e] [] pos) σ H (.i (if i = true then 1 else 0)) :=
  pv_callTy call_int1 hm (by decide +kernel) (pas_cons ha pas_nil ns) (fun H0 H' vs _ _ pr Q q => by
    obtain ⟨v, rfl, pv⟩ := rsl1 pr
    refine .inr ⟨i, by rw [Rs.pB pv], q _ H' (Same.refl _) ?_⟩
    cases i <;> exact DI.int _) hg (he := ns)
end

/-! ### what a loop, a comprehension walks -/
def YD (ds : List PyData) : Nat → Hp → V → Hp → Prop := fun i H x H' => Same H H' ∧ ∃ d, ds[i]? = some d ∧ DI H' x d
def PIt (S : Hp → Hp → Prop) (X : Cx) (tg iter : Expr) (σ : St) (H : Hp) (ds : List PyData) : Prop :=
  ∃ wi, PI X tg iter wi ∧ ∀ H1, Same H H1 → ∀ R : It → Hp → Prop, (∀ J H2, Same H1 H2 → Walk J ds.length (S H2) (YD ds) → R J H2) → wi σ H1 R
section
variable {X : Cx} {tg iter e a b c : Expr} {es : List Expr} {σ : St} {H H' H1 : Hp} {r ra rb rz : Rs} {rs : List Rs} {pos : Pos} {ds ds1 ds2 : List PyData} {d : PyData}
theorem PIt.weak (h : PIt TK X tg iter σ H ds) : PIt Same X tg iter σ H ds := by
  obtain ⟨wi, hp, hq⟩ := h
  exact ⟨wi, hp, fun H1 hs R hR => hq H1 hs R fun J H2 s2 w => hR J H2 s2 (w.mono (fun _ s => TK.same s) fun _ _ _ _ _ _ y => y)⟩
theorem pit_tup (h : PV X iter σ H (.d (.tuple ds))) : PIt TK X tg iter σ H ds := by
  refine ⟨_, pi_tup pe_s, fun H1 hs R hR => h.t hs fun v H2 s2 pd => ?_⟩
  have pd : DI H2 v (.tuple ds) := pd
  cases pd with
  | @tup a xs _ ea hd =>
    refine ⟨a, rfl, ⟨xs, ea.sq⟩, hR _ H2 s2 ?_⟩
    rw [← hd.length]
    exact walk_tup.mono (fun H' t => (ea.ts t).sq) fun i H' x H'' hi t y => by
      obtain ⟨rfl, hx⟩ := y
      obtain ⟨d, e1, e2⟩ := hd.get' hx
      exact ⟨Same.refl _, d, e1, e2.ts t⟩
theorem pit_new (h : PV X iter σ H (.l ds)) : PIt Same X tg iter σ H ds := by
  refine ⟨_, pi_list pe_s, fun H1 hs R hR => h.t hs fun v H2 s2 pd => ?_⟩
  obtain ⟨a, xs, rfl, _, ea, hd⟩ := pd
  refine ⟨a, rfl, ⟨xs, SqL.of ea⟩, hR _ H2 s2 ?_⟩
  rw [← hd.length]
  exact walk_list.mono (fun H' t => SqL.of (t _ _ ea)) fun i H' x H'' hi t y => by
    obtain ⟨rfl, hx⟩ := y
    obtain ⟨d, e1, e2⟩ := hd.get' hx
    exact ⟨Same.refl _, d, e1, e2.same t⟩
theorem pit_lst {l : Addr} {xs : List V} (h : PV X iter σ H (.v (.ref l))) (hl : H l = some (.lst xs)) (hd : DIs H xs ds) : PIt Same X tg iter σ H ds := by
  refine ⟨_, pi_list pe_s, fun H1 hs R hR => h.t hs fun v H2 s2 pd => ?_⟩
  have pd : v = .ref l := pd
  have s := hs.trans s2
  refine ⟨l, pd, ⟨xs, SqL.of (s _ _ hl)⟩, hR _ H2 s2 ?_⟩
  rw [← hd.length]
  exact walk_list.mono (fun H' t => SqL.of (t _ _ (s _ _ hl))) fun i H' x H'' hi t y => by
    obtain ⟨rfl, hx⟩ := y
    obtain ⟨d, e1, e2⟩ := hd.get' hx
    exact ⟨Same.refl _, d, e1, e2.same (s.trans t)⟩
theorem range_get {n i : Nat} (h : i < n) : ((List.range n).map fun (k : Nat) => PyData.int (k : Int))[i]? = some (.int (i : Int)) := by
  rw [List.getElem?_map, List.getElem?_range h]; rfl
theorem pit_range {p : Pos} {n : Nat} (hm : X.mg "range" = none) (h : PV X e σ H (.i (n : Int))) (hn : n < 1000000) (hg : Gl X "range" := by rfl) (hs : starEach [e] X.env = [(false, eval e X.env)] := by rfl) :
    PIt TK X tg (.Call (.Name "range" p) [e] [] pos) σ H ((List.range n).map fun (k : Nat) => PyData.int (k : Int)) := by
  refine ⟨_, pi_range1 hg hm pa_s hs, fun H1 h1 R hR => (PAs.t (pas_cons h pas_nil hs) h1 fun vs H2 s2 pr => ?_)⟩
  obtain ⟨v, rfl, pv⟩ := rsl1 pr
  have hn2 : n < 2 ^ 62 := Nat.lt_of_lt_of_le hn (by decide)
  refine ⟨(n : Int), by rw [Rs.pI pv], by omega, by omega, hR _ H2 s2 ?_⟩
  rw [List.length_map, List.length_range, Int.toNat_natCast]
  exact walk_range.mono (fun _ _ => trivial) fun i H' x H'' hi t y => by
    obtain ⟨rfl, rfl⟩ := y
    exact ⟨Same.refl _, _, range_get hi, by show DI _ (V.int (0 + (i : Int))) _; rw [Int.zero_add]; exact DI.int _⟩
end

/-! ### comprehensions -/
/-- an expression, a test in the block, whatever its frame is -/
def tSF (X : Cx) (scope : Scope) (e : Expr) : TE := fun σ H Q => ∀ (s0 : Shared) (H0 : Hp) (C : Addr) (cl : List (Str × Addr)) (fp : List Addr), tS (X.blk s0 H0 scope (compEnvC scope cl C X.env) fp) e σ H Q
def tSBF (X : Cx) (scope : Scope) (e : Expr) : TT := fun σ H Q => ∀ (s0 : Shared) (H0 : Hp) (C : Addr) (cl : List (Str × Addr)) (fp : List Addr), tSB (X.blk s0 H0 scope (compEnvC scope cl C X.env) fp) e σ H Q
theorem take_succ' {α : Type} {l : List α} {i : Nat} {x : α} (h : l[i]? = some x) : l.take (i + 1) = l.take i ++ [x] := by
  rw [List.take_add_one, h]; rfl
section
variable {X : Cx} {tg iter elt e a b c : Expr} {es ifs : List Expr} {σ : St} {H H' H1 : Hp} {r ra rb rz : Rs} {rs : List Rs} {pos : Pos} {ds ds1 ds2 : List PyData} {d : PyData} {scope : Scope} {own : List (Str × Nat)}
theorem pv_lc_core {α : Type} {xs : List α} {enc : α → PyData} {g : TG} {tt : TT} {te : TE} {p : α → Bool} {f : α → PyData} (hc : X.calm = true) (hN : X.N.Nodup) (hi : PIt Same X tg iter σ H (xs.map enc)) (ok : BlkOk X.N X.env.scope scope own)
    (hg : ∀ (s : Shared) (H : Hp) (C : Addr) (cl : List (Str × Addr)) (fp : List Addr), PG (X.blk s H scope (compEnvC scope cl C X.env) fp) tg g) (ht : ∀ (s : Shared) (H : Hp) (C : Addr) (cl : List (Str × Addr)) (fp : List Addr), PTs (X.blk s H scope (compEnvC scope cl C X.env) fp) ifs tt)
    (he : ∀ (s : Shared) (H : Hp) (C : Addr) (cl : List (Str × Addr)) (fp : List Addr), PE (X.blk s H scope (compEnvC scope cl C X.env) fp) elt te)
    (hz : xs.length ≤ 1000000)
    (turn : ∀ (a : α) (v : V) (H1 : Hp), a ∈ xs → Same H H1 → DI H1 v (enc a) → ∀ (Kt : VK) (Kf : Hp → Prop), (∀ y H4, Same H1 H4 → p a = true → DI H4 y (f a) → Kt y H4) → (∀ H3, Same H1 H3 → p a = false → Kf H3) →
      g v (wipe σ (own.map (·.2))) H1 fun σ2 H2 => wipe σ2 (own.map (·.2)) = wipe σ (own.map (·.2)) ∧ tt σ2 H2 fun b H3 => if b = true then te σ2 H3 Kt else Kf H3)
    (hs : ∀ x, foldedSetIterable iter X.env x = pure x := by intro _; rfl) : PV X (.ListComp elt [⟨tg, iter, ifs, 0⟩] scope pos) σ H (.l ((xs.filter p).map f)) := by
  obtain ⟨wi, hp, hq⟩ := hi
  refine .of (pe_lc hc hN hp ok hg ht he hs) fun H1 h1 => hq H1 h1 _ fun J H2 s2 w D nD => ?_
  rw [List.length_map] at w
  refine lc_it w (fun i Hc => Same H2 Hc ∧ ∃ acc, Hc D = some (.lst acc) ∧ acc.length ≤ i ∧ DIs Hc acc (((xs.take i).filter p).map f)) ⟨same_new nD, [], upd_same, Nat.le_refl _, .nil⟩ (fun i Hc _ q => q.1) (fun i x Hc Hc' hi q y => ?_) fun Hc q => ?_
  · obtain ⟨sc, acc, hD, hl, hacc⟩ := q
    obtain ⟨sy, d, hd, dx⟩ := y
    rw [List.getElem?_map] at hd
    obtain ⟨a, ha, rfl⟩ := Option.map_eq_some_iff.mp hd
    have s3 : Same H Hc' := ((h1.trans s2).trans sc).trans sy
    have ne : ∀ {Hx : Hp}, Same Hc' Hx → Hx D = some (.lst acc) := fun s => s _ _ (sy _ _ hD)
    refine turn a x Hc' (List.mem_of_getElem? ha) s3 dx _ _ (fun y H4 s4 hp dy => ?_) fun H3 s4 hp => ?_
    · refine ⟨acc, ne s4, Nat.lt_of_le_of_lt hl (Nat.lt_of_lt_of_le hi (Nat.le_trans hz (by decide))), fun b u hb => ?_, acc ++ [y], upd_same, by rw [List.length_append]; exact Nat.succ_le_succ hl, ?_⟩
      · have nb : b ≠ D := ne_of_none hb nD
        rw [upd_ne nb]
        exact (sc.trans (sy.trans s4)) _ _ hb
      · rw [take_succ' ha, List.filter_append, List.map_append]
        have e1 : (List.filter p [a]).map f = [f a] := by rw [List.filter_cons_of_pos hp]; rfl
        rw [e1]
        have t := TK.updL (o := .lst (acc ++ [y])) (ne s4)
        exact ((hacc.same (sy.trans s4)).ts t).append (.cons (dy.ts t) .nil)
    · refine ⟨(sc.trans sy).trans s4, acc, ne s4, Nat.le_succ_of_le hl, ?_⟩
      rw [take_succ' ha, List.filter_append, List.map_append]
      have e1 : (List.filter p [a]).map f = [] := by rw [List.filter_cons_of_neg (by rw [hp]; exact Bool.false_ne_true)]; rfl
      rw [e1, List.append_nil]
      exact hacc.same (sy.trans s4)
  · obtain ⟨sc, acc, hD, _, hacc⟩ := q
    rw [List.take_length] at hacc
    exact ⟨s2.trans sc, D, acc, rfl, s2.free nD, hD, hacc⟩
/-- what the target's store gives: σ' -/
def GTo (g : TG) (σ : St) (H : Hp) (v : V) (P : St → Prop) : Prop := ∀ K : St → Hp → Prop, (∀ σ', P σ' → K σ' H) → g v σ H K
/-- one for, no test -/
theorem pv_lc0 {α : Type} {xs : List α} {enc : α → PyData} {g : TG} {f : α → PyData} (hc : X.calm = true) (hN : X.N.Nodup) (hi : PIt Same X tg iter σ H (xs.map enc)) (ok : BlkOk X.N X.env.scope scope own)
    (hg : ∀ (s : Shared) (H : Hp) (C : Addr) (cl : List (Str × Addr)) (fp : List Addr), PG (X.blk s H scope (compEnvC scope cl C X.env) fp) tg g)
    (hz : xs.length ≤ 1000000)
    (turn : ∀ (a : α) (v : V) (H1 : Hp), a ∈ xs → Same H H1 → DI H1 v (enc a) → GTo g (wipe σ (own.map (·.2))) H1 v fun σ2 => wipe σ2 (own.map (·.2)) = wipe σ (own.map (·.2)) ∧
      ∀ (s0 : Shared) (H0 : Hp) (C : Addr) (cl : List (Str × Addr)) (fp : List Addr), PV (X.blk s0 H0 scope (compEnvC scope cl C X.env) fp) elt σ2 H1 (.d (f a)))
    (hs : ∀ x, foldedSetIterable iter X.env x = pure x := by intro _; rfl) : PV X (.ListComp elt [⟨tg, iter, [], 0⟩] scope pos) σ H (.l (xs.map f)) := by
  have h := pv_lc_core (pos := pos) (p := fun _ => true) (f := f) (tt := tYes) (te := tSF X scope elt) hc hN hi ok hg (fun _ _ _ _ _ => pts_nil) (fun s0 H0 C cl fp => ⟨fun pins s σ H Q I h => h s0 H0 C cl fp pins s I⟩) hz
    (fun a v H1 ha h1 dv Kt Kf kt kf => turn a v H1 ha h1 dv _ fun σ2 ⟨w2, q⟩ => ⟨w2, iteT (B := Kf H1) fun s0 H0 C cl fp => (q s0 H0 C cl fp).t (Same.refl _) fun y H4 s4 py => kt y H4 s4 rfl py⟩) hs
  have e : List.filter (fun _ => true) xs = xs := List.filter_eq_self.mpr fun _ _ => rfl
  rw [e] at h
  exact h
/-- one for, one test -/
theorem pv_lc1 {α : Type} {xs : List α} {enc : α → PyData} {g : TG} {p : α → Bool} {f : α → PyData} {c : Expr} (hc : X.calm = true) (hN : X.N.Nodup) (hi : PIt Same X tg iter σ H (xs.map enc)) (ok : BlkOk X.N X.env.scope scope own)
    (hg : ∀ (s : Shared) (H : Hp) (C : Addr) (cl : List (Str × Addr)) (fp : List Addr), PG (X.blk s H scope (compEnvC scope cl C X.env) fp) tg g)
    (hz : xs.length ≤ 1000000)
    (turn : ∀ (a : α) (v : V) (H1 : Hp), a ∈ xs → Same H H1 → DI H1 v (enc a) → GTo g (wipe σ (own.map (·.2))) H1 v fun σ2 => wipe σ2 (own.map (·.2)) = wipe σ (own.map (·.2)) ∧
      (∀ (s0 : Shared) (H0 : Hp) (C : Addr) (cl : List (Str × Addr)) (fp : List Addr), PB (X.blk s0 H0 scope (compEnvC scope cl C X.env) fp) c σ2 H1 (p a)) ∧
      ∀ (s0 : Shared) (H0 : Hp) (C : Addr) (cl : List (Str × Addr)) (fp : List Addr), p a = true → PV (X.blk s0 H0 scope (compEnvC scope cl C X.env) fp) elt σ2 H1 (.d (f a)))
    (hs : ∀ x, foldedSetIterable iter X.env x = pure x := by intro _; rfl) : PV X (.ListComp elt [⟨tg, iter, [c], 0⟩] scope pos) σ H (.l ((xs.filter p).map f)) := by
  refine pv_lc_core (p := p) (f := f) (tt := tSBF X scope c) (te := tSF X scope elt) hc hN hi ok hg (fun s0 H0 C cl fp => pts_one ⟨fun pins s σ H Q I h => h s0 H0 C cl fp pins s I⟩) (fun s0 H0 C cl fp => ⟨fun pins s σ H Q I h => h s0 H0 C cl fp pins s I⟩) hz
    (fun a v H1 ha h1 dv Kt Kf kt kf => turn a v H1 ha h1 dv _ fun σ2 ⟨w2, q1, q2⟩ => ⟨w2, fun s0 H0 C cl fp => (q1 s0 H0 C cl fp).t (Same.refl _) fun H2 s2 => ?_⟩) hs
  cases e : p a with
  | true => exact iteT fun s0 H0 C cl fp => ((q2 s0 H0 C cl fp e).mono s2).t (Same.refl _) fun y H4 s4 py => kt y H4 (s2.trans s4) e py
  | false => exact iteF (kf H2 s2 e)
/-- a name as the target -/
theorem gto_name {i : Nat} {v : V} {P : St → Prop} (h : P (σ.set i (some v))) : GTo (gName i) σ H v P := fun K k => k _ h
/-- names as the target -/
theorem gto_t2 {K : PySem.W.Frag} {i j : Nat} {v : V} {d1 d2 : PyData} {P : St → Prop} (h : DI H v (.tuple [d1, d2])) (k : ∀ v1 v2, DI H v1 d1 → DI H v2 d2 → P ((σ.set i (some v1)).set j (some v2))) :
    GTo (gTup K 2 (gCons (gName i) (gCons (gName j) gNil))) σ H v P := fun Q q => by
  cases h with
  | tup e hs => cases hs with
    | cons h1 hs => cases hs with
      | cons h2 hs =>
        cases hs
        exact ⟨_, _, rfl, e.sq, rfl, _, _, rfl, _, _, rfl, rfl, q _ (k _ _ h1 h2)⟩
theorem gto_t4 {K : PySem.W.Frag} {i j l m : Nat} {v : V} {d1 d2 d3 d4 : PyData} {P : St → Prop} (h : DI H v (.tuple [d1, d2, d3, d4])) (k : ∀ v1 v2 v3 v4, DI H v1 d1 → DI H v2 d2 → DI H v3 d3 → DI H v4 d4 → P ((((σ.set i (some v1)).set j (some v2)).set l (some v3)).set m (some v4))) :
    GTo (gTup K 4 (gCons (gName i) (gCons (gName j) (gCons (gName l) (gCons (gName m) gNil))))) σ H v P := fun Q q => by
  cases h with
  | tup e hs => cases hs with
    | cons h1 hs => cases hs with
      | cons h2 hs => cases hs with
        | cons h3 hs => cases hs with
          | cons h4 hs =>
            cases hs
            exact ⟨_, _, rfl, e.sq, rfl, _, _, rfl, _, _, rfl, _, _, rfl, _, _, rfl, rfl, q _ (k _ _ _ _ h1 h2 h3 h4)⟩
end

/-! ### statements -/
section
variable {X : Cx} {tg iter elt e a b c : Expr} {es ifs : List Expr} {σ : St} {H H' H1 : Hp} {r ra rb rz : Rs} {rs : List Rs} {pos : Pos} {ds ds1 ds2 : List PyData} {d : PyData} {D : Ends} {body orelse : List Stmt}
theorem ws_set {i : Nat} {x : Str} {pos' : Pos} (hN : X.N.Nodup) (h : PV X e σ H r) (k : ∀ v H1, Same H H1 → r.P H v H1 → D.nx (σ.set i (some v)) H1) (hi : X.N[i]? = some x := by rfl) (hx : Loc X.env.scope x := by first | exact Or.inl rfl | exact Or.inr rfl)
    (hs : swapsWith e (some (.Name x pos')) pos.line X.env = pure false := by rfl) (hf : X.fn x = true ∨ X.env.scope.names.lookup x = some .local := by first | exact .inl rfl | exact .inr rfl | assumption) : WS X (.Assign [.Name x pos'] e pos) D σ H :=
  .of (ps_set hN hi hx pe_s hs hf) (h.t (Same.refl _) fun v H1 s1 p => k v H1 s1 p)
theorem ws_ret (h : PV X e σ H r) (k : ∀ v H1, Same H H1 → r.P H v H1 → D.rt v H1) : WS X (.Return (some e) pos) D σ H := .of (ps_ret pe_s) (h.t (Same.refl _) fun v H1 s1 p => k v H1 s1 p)
theorem ws_if {k : Bool} (h : PB X c σ H k) (h1 : k = true → ∀ H1, Same H H1 → WB X body D σ H1) (h2 : k = false → ∀ H1, Same H H1 → WB X orelse D σ H1) : WS X (.If c body orelse pos) D σ H :=
  .of (ps_if pt_s pss_w pss_w) (h.t (Same.refl _) fun H1 s1 => by
    cases k with
    | true => exact iteT (h1 rfl H1 s1)
    | false => exact iteF (h2 rfl H1 s1))
/-- a for: S what keeps the walked things readable -/
theorem ws_for {S : Hp → Hp → Prop} {g : TG} (hp : PassesOwn (model X.prog X.w) X.A X.env X.xe) (hc : X.calm = true) (hi : PIt S X tg iter σ H ds) (hg : PG X tg g) (Pv : Nat → St → Hp → Prop)
    (h0 : ∀ H1, Same H H1 → Pv 0 σ H1) (hS : ∀ H1 i σ' H', Same H H1 → i ≤ ds.length → Pv i σ' H' → S H1 H')
    (hs : ∀ i d x σ' H', ds[i]? = some d → Pv i σ' H' → ∀ H'', Same H' H'' → DI H'' x d → GTo g σ' H'' x fun σ2 => WB X body { D with nx := Pv (i + 1), ct := Pv (i + 1), bk := D.nx } σ2 H'')
    (hd : ∀ σ' H', Pv ds.length σ' H' → D.nx σ' H') (hf : ∀ x, foldedSetIterable iter X.env x = pure x := by intro _; rfl) : WS X (.For tg iter body [] pos) D σ H := by
  obtain ⟨wi, hpi, hq⟩ := hi
  refine .of (ps_for hp hc hpi hg pss_w hf) (hq H (Same.refl _) _ fun J H2 s2 w => for_it w Pv (h0 H2 s2) (fun i σ' H' hi p => hS H2 i σ' H' s2 hi p) (fun i x σ' H' H'' hi p y => ?_) hd)
  obtain ⟨sy, d, hd, dx⟩ := y
  exact hs i d x σ' H' hd p H'' sy dx _ fun σ2 h => h
/-- a while: Pv the word, μ the number that falls -/
theorem ws_while {k : St → Hp → Bool} (hp : PassesOwn (model X.prog X.w) X.A X.env X.xe) (Pv : Nat → St → Hp → Prop) (m0 : Nat) (h0 : Pv m0 σ H) (hc : ∀ m σ' H', Pv m σ' H' → ∃ b, PB X c σ' H' b ∧
      (b = true → ∀ H1, Same H' H1 → WB X body { D with nx := fun σ2 H2 => ∃ m', m' < m ∧ Pv m' σ2 H2, ct := fun σ2 H2 => ∃ m', m' < m ∧ Pv m' σ2 H2, bk := D.nx } σ' H1) ∧ (b = false → ∀ H1, Same H' H1 → D.nx σ' H1)) : WS X (.While c body [] pos) D σ H := by
  refine .of (ps_while hp pt_s pss_w) ⟨Pv, ⟨m0, h0⟩, fun m σ' H' p => ?_⟩
  obtain ⟨b, hb, h1, h2⟩ := hc m σ' H' p
  refine hb.t (Same.refl _) fun H1 s1 => ?_
  cases b with
  | true => exact iteT ⟨fun σ2 H2 => ∃ m', m' < m ∧ Pv m' σ2 H2, fun _ _ h => h, h1 rfl H1 s1⟩
  | false => exact iteF (h2 rfl H1 s1)
/-- x.append(e) -/
theorem ws_append {o : Expr} {l : Addr} {xs : List V} {apos cpos : Pos} (ho : PV X o σ H (.v (.ref l))) (hl : H l = some (.lst xs)) (hz : xs.length < 2000000) (h : PV X e σ H r) (k : ∀ v H1, Same H H1 → r.P H v H1 → D.nx σ (upd H1 l (.lst (xs ++ [v]))))
    (hbase : attributeBase o "append" X.env (eval o X.env) = eval o X.env := by rfl) (hline : (apos.endLine == cpos.line) = true := by rfl)
    (hs : swapsWith (.Call (.Attribute o "append" apos) [e] [] cpos) none pos.line X.env = pure false := by rfl)
    (hfew : ((backTo cpos (starEach [e] X.env)).all (fun x => !x.1) && (backToKw cpos (keywordEach [] X.env)).all (fun x => x.1.isSome) && decide ([e].length + ([] : List Keyword).length + (if ([] : List Keyword).isEmpty then 0 else 1) < 30)) = true := by rfl)
    (hst : starEach [e] X.env = (false, eval e X.env) :: starEach [] X.env := by rfl) (hplain : (backTo cpos (starEach [] X.env)).any (·.1) = false := by rfl) : WS X (.Expr (.Call (.Attribute o "append" apos) [e] [] cpos) pos) D σ H := by
  refine .of (ps_expr (pe_bm PySem.F.plainAttrs_list PySem.F.slot_list_append PySem.F.type_list_append mt_append pe_s pa_s (hbase := hbase) (hfew := hfew) (hline := hline) (hs := hst) (hplain := hplain)) hs) ?_
  refine ho.t (Same.refl _) fun v H1 s1 pv => ?_
  have pv : v = .ref l := pv
  subst pv
  refine ⟨.inl ⟨rfl, _, SqL.of (s1 _ _ hl)⟩, PAs.t (pas_cons h pas_nil hst) s1 fun vs H2 s2 pr => ?_⟩
  obtain ⟨v, rfl, pv⟩ := rsl1 pr
  exact ⟨l, xs, v, rfl, rfl, s2 _ _ (s1 _ _ hl), Nat.lt_of_lt_of_le hz (by decide), k v H2 (s1.trans s2) (Rs.down pv s1)⟩
end
end Bx
set_option Elab.async false
set_option linter.all false
set_option maxRecDepth 100000
set_option maxHeartbeats 2000000
/-! B3: the text by places (printed by gen_txt.py). -/
namespace Bx
open PySem PySem.Spec PyProof.Rows L2
def topS (i : Nat) : Stmt := PySem.Challenge.pw_barredcrossings_k16_whole_rings.main.body.getD i (.Pass ⟨0, 0, 0, 0⟩)
/- tupled: 0 thing, 1 own -/
abbrev st_tupled : Stmt := topS 4
abbrev N_tupled : List Str := ["thing", "own"]
theorem sc_tupled : FnScope N_tupled ["thing"] (defScope st_tupled) := ⟨rfl, rfl, rfl, by decide +kernel, rfl, by decide +kernel, by decide +kernel⟩
/- rises: 0 things, 1 one, 2 other -/
abbrev st_rises : Stmt := topS 5
abbrev N_rises : List Str := ["things", "one", "other"]
theorem sc_rises : FnScope N_rises ["things"] (defScope st_rises) := ⟨rfl, rfl, rfl, by decide +kernel, rfl, by decide +kernel, by decide +kernel⟩
/- is_name: 0 thing -/
abbrev st_is_name : Stmt := topS 12
abbrev N_is_name : List Str := ["thing"]
theorem sc_is_name : FnScope N_is_name ["thing"] (defScope st_is_name) := ⟨rfl, rfl, rfl, by decide +kernel, rfl, by decide +kernel, by decide +kernel⟩
/- is_place: 0 thing -/
abbrev st_is_place : Stmt := topS 13
abbrev N_is_place : List Str := ["thing"]
theorem sc_is_place : FnScope N_is_place ["thing"] (defScope st_is_place) := ⟨rfl, rfl, rfl, by decide +kernel, rfl, by decide +kernel, by decide +kernel⟩
/- is_bond: 0 thing, 1 one, 2 end, 3 other, 4 place -/
abbrev st_is_bond : Stmt := topS 14
abbrev N_is_bond : List Str := ["thing", "one", "end", "other", "place"]
theorem sc_is_bond : FnScope N_is_bond ["thing"] (defScope st_is_bond) := ⟨rfl, rfl, rfl, by decide +kernel, rfl, by decide +kernel, by decide +kernel⟩
/- is_pattern: 0 thing, 1 own -/
abbrev st_is_pattern : Stmt := topS 15
abbrev N_is_pattern : List Str := ["thing", "own"]
theorem sc_is_pattern : FnScope N_is_pattern ["thing"] (defScope st_is_pattern) := ⟨rfl, rfl, rfl, by decide +kernel, rfl, by decide +kernel, by decide +kernel⟩
/- names_of: 0 pattern, 1 one, 2 end, 3 other, 4 place, 5 name -/
abbrev st_names_of : Stmt := topS 16
abbrev N_names_of : List Str := ["pattern", "one", "end", "other", "place", "name"]
theorem sc_names_of : FnScope N_names_of ["pattern"] (defScope st_names_of) := ⟨rfl, rfl, rfl, by decide +kernel, rfl, by decide +kernel, by decide +kernel⟩
/- check_names: 0 pattern, 1 some, 2 own, 3 name -/
abbrev st_check_names : Stmt := topS 17
abbrev N_check_names : List Str := ["pattern", "some", "own", "name"]
theorem sc_check_names : FnScope N_check_names ["pattern", "some"] (defScope st_check_names) := ⟨rfl, rfl, rfl, by decide +kernel, rfl, by decide +kernel, by decide +kernel⟩
/- renamed: 0 pattern, 1 pairs, 2 table, 3 names, 4 rows, 5 name, 6 one, 7 end, 8 other, 9 place -/
abbrev st_renamed : Stmt := topS 18
abbrev N_renamed : List Str := ["pattern", "pairs", "table", "names", "rows", "name", "one", "end", "other", "place"]
theorem sc_renamed : FnScope N_renamed ["pattern", "pairs"] (defScope st_renamed) := ⟨rfl, rfl, rfl, by decide +kernel, rfl, by decide +kernel, by decide +kernel⟩
/- other_end: 0 end -/
abbrev st_other_end : Stmt := topS 19
abbrev N_other_end : List Str := ["end"]
theorem sc_other_end : FnScope N_other_end ["end"] (defScope st_other_end) := ⟨rfl, rfl, rfl, by decide +kernel, rfl, by decide +kernel, by decide +kernel⟩
/- turned_about: 0 pattern, 1 one, 2 end, 3 other, 4 place -/
abbrev st_turned_about : Stmt := topS 20
abbrev N_turned_about : List Str := ["pattern", "one", "end", "other", "place"]
theorem sc_turned_about : FnScope N_turned_about ["pattern"] (defScope st_turned_about) := ⟨rfl, rfl, rfl, by decide +kernel, rfl, by decide +kernel, by decide +kernel⟩
/- turning: 0 near, 1 far -/
abbrev st_turning : Stmt := topS 24
abbrev N_turning : List Str := ["near", "far"]
theorem sc_turning : FnScope N_turning ["near", "far"] (defScope st_turning) := ⟨rfl, rfl, rfl, by decide +kernel, rfl, by decide +kernel, by decide +kernel⟩
/- steps_of: 0 ring, 1 own -/
abbrev st_steps_of : Stmt := topS 25
abbrev N_steps_of : List Str := ["ring", "own"]
theorem sc_steps_of : FnScope N_steps_of ["ring"] (defScope st_steps_of) := ⟨rfl, rfl, rfl, by decide +kernel, rfl, by decide +kernel, by decide +kernel⟩
/- ring_names: 0 ring, 1 bond -/
abbrev st_ring_names : Stmt := topS 26
abbrev N_ring_names : List Str := ["ring", "bond"]
theorem sc_ring_names : FnScope N_ring_names ["ring"] (defScope st_ring_names) := ⟨rfl, rfl, rfl, by decide +kernel, rfl, by decide +kernel, by decide +kernel⟩
/- turns: 0 ring, 1 near, 2 far -/
abbrev st_turns : Stmt := topS 27
abbrev N_turns : List Str := ["ring", "near", "far"]
theorem sc_turns : FnScope N_turns ["ring"] (defScope st_turns) := ⟨rfl, rfl, rfl, by decide +kernel, rfl, by decide +kernel, by decide +kernel⟩
/- turning_names: 0 ring, 1 near, 2 far -/
abbrev st_turning_names : Stmt := topS 28
abbrev N_turning_names : List Str := ["ring", "near", "far"]
theorem sc_turning_names : FnScope N_turning_names ["ring"] (defScope st_turning_names) := ⟨rfl, rfl, rfl, by decide +kernel, rfl, by decide +kernel, by decide +kernel⟩
/- is_round: 0 bonds, 1 near, 2 far -/
abbrev st_is_round : Stmt := topS 29
abbrev N_is_round : List Str := ["bonds", "near", "far"]
theorem sc_is_round : FnScope N_is_round ["bonds"] (defScope st_is_round) := ⟨rfl, rfl, rfl, by decide +kernel, rfl, by decide +kernel, by decide +kernel⟩
/- is_ring: 0 pattern, 1 thing, 2 own -/
abbrev st_is_ring : Stmt := topS 30
abbrev N_is_ring : List Str := ["pattern", "thing", "own"]
theorem sc_is_ring : FnScope N_is_ring ["pattern", "thing"] (defScope st_is_ring) := ⟨rfl, rfl, rfl, by decide +kernel, rfl, by decide +kernel, by decide +kernel⟩
/- rings: 0 pattern, 1 own, 2 found, 3 rest, 4 bond, 5 path, 6 goal -/
abbrev st_rings : Stmt := topS 31
abbrev N_rings : List Str := ["pattern", "own", "found", "rest", "bond", "path", "goal"]
theorem sc_rings : FnScope N_rings ["pattern"] (defScope st_rings) := ⟨rfl, rfl, rfl, by decide +kernel, rfl, by decide +kernel, by decide +kernel⟩
/- how_many_rings: 0 pattern, 1 many, 2 ring -/
abbrev st_how_many_rings : Stmt := topS 32
abbrev N_how_many_rings : List Str := ["pattern", "many", "ring"]
theorem sc_how_many_rings : FnScope N_how_many_rings ["pattern", "many"] (defScope st_how_many_rings) := ⟨rfl, rfl, rfl, by decide +kernel, rfl, by decide +kernel, by decide +kernel⟩
/- walks_from: 0 pattern, 1 first, 2 is_weighed, 3 best, 4 edge, 5 later, 6 near, 7 more, 8 many, 9 walk, 10 far, 11 own, 12 bond -/
abbrev st_walks_from : Stmt := topS 33
abbrev N_walks_from : List Str := ["pattern", "first", "is_weighed", "best", "edge", "later", "near", "more", "many", "walk", "far", "own", "bond"]
theorem sc_walks_from : FnScope N_walks_from ["pattern", "first", "is_weighed"] (defScope st_walks_from) := ⟨rfl, rfl, rfl, by decide +kernel, rfl, by decide +kernel, by decide +kernel⟩
/- least_walk: 0 pattern, 1 is_weighed, 2 own, 3 found, 4 first, 5 last, 6 more, 7 many, 8 walk -/
abbrev st_least_walk : Stmt := topS 34
abbrev N_least_walk : List Str := ["pattern", "is_weighed", "own", "found", "first", "last", "more", "many", "walk"]
theorem sc_least_walk : FnScope N_least_walk ["pattern", "is_weighed"] (defScope st_least_walk) := ⟨rfl, rfl, rfl, by decide +kernel, rfl, by decide +kernel, by decide +kernel⟩
/- begun_least: 0 bonds, 1 place -/
abbrev st_begun_least : Stmt := topS 35
abbrev N_begun_least : List Str := ["bonds", "place"]
theorem sc_begun_least : FnScope N_begun_least ["bonds"] (defScope st_begun_least) := ⟨rfl, rfl, rfl, by decide +kernel, rfl, by decide +kernel, by decide +kernel⟩
/- least_turns: 0 pattern, 1 found -/
abbrev st_least_turns : Stmt := topS 36
abbrev N_least_turns : List Str := ["pattern", "found"]
theorem sc_least_turns : FnScope N_least_turns ["pattern"] (defScope st_least_turns) := ⟨rfl, rfl, rfl, by decide +kernel, rfl, by decide +kernel, by decide +kernel⟩
/- least_ring: 0 pattern, 1 found -/
abbrev st_least_ring : Stmt := topS 37
abbrev N_least_ring : List Str := ["pattern", "found"]
theorem sc_least_ring : FnScope N_least_ring ["pattern"] (defScope st_least_ring) := ⟨rfl, rfl, rfl, by decide +kernel, rfl, by decide +kernel, by decide +kernel⟩
/- is_least_ring: 0 pattern, 1 thing -/
abbrev st_is_least_ring : Stmt := topS 38
abbrev N_is_least_ring : List Str := ["pattern", "thing"]
theorem sc_is_least_ring : FnScope N_is_least_ring ["pattern", "thing"] (defScope st_is_least_ring) := ⟨rfl, rfl, rfl, by decide +kernel, rfl, by decide +kernel, by decide +kernel⟩
/- on_rings: 0 pattern, 1 own, 2 leads, 3 lap, 4 bond, 5 name -/
abbrev st_on_rings : Stmt := topS 39
abbrev N_on_rings : List Str := ["pattern", "own", "leads", "lap", "bond", "name"]
theorem sc_on_rings : FnScope N_on_rings ["pattern"] (defScope st_on_rings) := ⟨rfl, rfl, rfl, by decide +kernel, rfl, by decide +kernel, by decide +kernel⟩
/- l_box: 0 _law_script, 1 _law_k, 2 _law_cell -/
abbrev st_l_box : Stmt := topS 41
abbrev N_l_box : List Str := ["_law_script", "_law_k", "_law_cell"]
theorem sc_l_box : FnScope N_l_box ["_law_script", "_law_k"] (defScope st_l_box) := ⟨rfl, rfl, rfl, by decide +kernel, rfl, by decide +kernel, by decide +kernel⟩
/- l_take: 0 _law_box_here, 1 _law_below_so, 2 _law_drawn_so, 3 _law_once, 4 _law_far_so, 5 _law_twice_so -/
abbrev st_l_take : Stmt := topS 42
abbrev N_l_take : List Str := ["_law_box_here", "_law_below_so", "_law_drawn_so", "_law_once", "_law_far_so", "_law_twice_so"]
theorem sc_l_take : FnScope N_l_take ["_law_box_here", "_law_below_so"] (defScope st_l_take) := ⟨rfl, rfl, rfl, by decide +kernel, rfl, by decide +kernel, by decide +kernel⟩
/- l_cells: 0 _law_script, 1 _law_most_so, 2 _law_cells_here, 3 _law_k, 4 _law_cell, 5 _law_at_so -/
abbrev st_l_cells : Stmt := topS 43
abbrev N_l_cells : List Str := ["_law_script", "_law_most_so", "_law_cells_here", "_law_k", "_law_cell", "_law_at_so"]
theorem sc_l_cells : FnScope N_l_cells ["_law_script", "_law_most_so"] (defScope st_l_cells) := ⟨rfl, rfl, rfl, by decide +kernel, rfl, by decide +kernel, by decide +kernel⟩
/- l_of: 0 _law_box_here, 1 _law_pool_so -/
abbrev st_l_of : Stmt := topS 44
abbrev N_l_of : List Str := ["_law_box_here", "_law_pool_so"]
theorem sc_l_of : FnScope N_l_of ["_law_box_here", "_law_pool_so"] (defScope st_l_of) := ⟨rfl, rfl, rfl, by decide +kernel, rfl, by decide +kernel, by decide +kernel⟩
/- l_same: 0 _law_got, 1 _law_due_so, 2 _law_own, 3 _law_far -/
abbrev st_l_same : Stmt := topS 45
abbrev N_l_same : List Str := ["_law_got", "_law_due_so", "_law_own", "_law_far"]
theorem sc_l_same : FnScope N_l_same ["_law_got", "_law_due_so"] (defScope st_l_same) := ⟨rfl, rfl, rfl, by decide +kernel, rfl, by decide +kernel, by decide +kernel⟩
/- l_mixed: 0 _law_box_here, 1 _law_rows_so, 2 _law_rest_so, 3 _law_found, 4 _law_turn, 5 _law_at_so -/
abbrev st_l_mixed : Stmt := topS 46
abbrev N_l_mixed : List Str := ["_law_box_here", "_law_rows_so", "_law_rest_so", "_law_found", "_law_turn", "_law_at_so"]
theorem sc_l_mixed : FnScope N_l_mixed ["_law_box_here", "_law_rows_so"] (defScope st_l_mixed) := ⟨rfl, rfl, rfl, by decide +kernel, rfl, by decide +kernel, by decide +kernel⟩
/- l_bond: 0 _law_box_here, 1 _law_names_so, 2 _law_own -/
abbrev st_l_bond : Stmt := topS 47
abbrev N_l_bond : List Str := ["_law_box_here", "_law_names_so", "_law_own"]
theorem sc_l_bond : FnScope N_l_bond ["_law_box_here", "_law_names_so"] (defScope st_l_bond) := ⟨rfl, rfl, rfl, by decide +kernel, rfl, by decide +kernel, by decide +kernel⟩
/- l_pattern: 0 _law_box_here, 1 _law_many_so, 2 _law_bonds_so, 3 _law_names_so, 4 _law_turn -/
abbrev st_l_pattern : Stmt := topS 48
abbrev N_l_pattern : List Str := ["_law_box_here", "_law_many_so", "_law_bonds_so", "_law_names_so", "_law_turn"]
theorem sc_l_pattern : FnScope N_l_pattern ["_law_box_here", "_law_many_so", "_law_bonds_so"] (defScope st_l_pattern) := ⟨rfl, rfl, rfl, by decide +kernel, rfl, by decide +kernel, by decide +kernel⟩
/- l_patterns_by_hand: 0 _law_found, 1 _law_own -/
abbrev st_l_patterns_by_hand : Stmt := topS 49
abbrev N_l_patterns_by_hand : List Str := ["_law_found", "_law_own"]
theorem sc_l_patterns_by_hand : FnScope N_l_patterns_by_hand [] (defScope st_l_patterns_by_hand) := ⟨rfl, rfl, rfl, by decide +kernel, rfl, by decide +kernel, by decide +kernel⟩
/- l_pattern_right: 0 _law_pattern_so, 1 _law_new_so, 2 _law_every_so, 3 _law_told_so, 4 _law_back_so, 5 _law_other_so, 6 _law_many_so, 7 _law_got, 8 _law_due, 9 _law_own, 10 _law_some, 11 _law_less_so, 12 _law_k, 13 _law_bit -/
abbrev st_l_pattern_right : Stmt := topS 50
abbrev N_l_pattern_right : List Str := ["_law_pattern_so", "_law_new_so", "_law_every_so", "_law_told_so", "_law_back_so", "_law_other_so", "_law_many_so", "_law_got", "_law_due", "_law_own", "_law_some", "_law_less_so", "_law_k", "_law_bit"]
theorem sc_l_pattern_right : FnScope N_l_pattern_right ["_law_pattern_so", "_law_new_so"] (defScope st_l_pattern_right) := ⟨rfl, rfl, rfl, by decide +kernel, rfl, by decide +kernel, by decide +kernel⟩
/- l_by_hand_right: 0 _law_own -/
abbrev st_l_by_hand_right : Stmt := topS 51
abbrev N_l_by_hand_right : List Str := ["_law_own"]
theorem sc_l_by_hand_right : FnScope N_l_by_hand_right [] (defScope st_l_by_hand_right) := ⟨rfl, rfl, rfl, by decide +kernel, rfl, by decide +kernel, by decide +kernel⟩
/- l_right: 0 _law_box_here, 1 _law_turn, 2 _law_pattern_so -/
abbrev st_l_right : Stmt := topS 52
abbrev N_l_right : List Str := ["_law_box_here", "_law_turn", "_law_pattern_so"]
theorem sc_l_right : FnScope N_l_right ["_law_box_here"] (defScope st_l_right) := ⟨rfl, rfl, rfl, by decide +kernel, rfl, by decide +kernel, by decide +kernel⟩
/- law: 0 _law_script, 1 _law_cells_here, 2 _law_k -/
abbrev st_law : Stmt := topS 53
abbrev N_law : List Str := ["_law_script", "_law_cells_here", "_law_k"]
theorem sc_law : FnScope N_law ["_law_script"] (defScope st_law) := ⟨rfl, rfl, rfl, by decide +kernel, rfl, by decide +kernel, by decide +kernel⟩
/-- what the top has left -/
structure Txt (K : PySem.W.Frag) (mg : Str → Option Value) : Prop where
  h_tupled : Here K mg "tupled" st_tupled ["thing"]
  h_rises : Here K mg "rises" st_rises ["things"]
  h_is_name : Here K mg "is_name" st_is_name ["thing"]
  h_is_place : Here K mg "is_place" st_is_place ["thing"]
  h_is_bond : Here K mg "is_bond" st_is_bond ["thing"]
  h_is_pattern : Here K mg "is_pattern" st_is_pattern ["thing"]
  h_names_of : Here K mg "names_of" st_names_of ["pattern"]
  h_check_names : Here K mg "check_names" st_check_names ["pattern", "some"]
  h_renamed : Here K mg "renamed" st_renamed ["pattern", "pairs"]
  h_other_end : Here K mg "other_end" st_other_end ["end"]
  h_turned_about : Here K mg "turned_about" st_turned_about ["pattern"]
  h_turning : Here K mg "turning" st_turning ["near", "far"]
  h_steps_of : Here K mg "steps_of" st_steps_of ["ring"]
  h_ring_names : Here K mg "ring_names" st_ring_names ["ring"]
  h_turns : Here K mg "turns" st_turns ["ring"]
  h_turning_names : Here K mg "turning_names" st_turning_names ["ring"]
  h_is_round : Here K mg "is_round" st_is_round ["bonds"]
  h_is_ring : Here K mg "is_ring" st_is_ring ["pattern", "thing"]
  h_rings : Here K mg "rings" st_rings ["pattern"]
  h_how_many_rings : Here K mg "how_many_rings" st_how_many_rings ["pattern", "many"]
  h_walks_from : Here K mg "walks_from" st_walks_from ["pattern", "first", "is_weighed"]
  h_least_walk : Here K mg "least_walk" st_least_walk ["pattern", "is_weighed"]
  h_begun_least : Here K mg "begun_least" st_begun_least ["bonds"]
  h_least_turns : Here K mg "least_turns" st_least_turns ["pattern"]
  h_least_ring : Here K mg "least_ring" st_least_ring ["pattern"]
  h_is_least_ring : Here K mg "is_least_ring" st_is_least_ring ["pattern", "thing"]
  h_on_rings : Here K mg "on_rings" st_on_rings ["pattern"]
  h_l_box : Here K mg "_law_box" st_l_box ["_law_script", "_law_k"]
  h_l_take : Here K mg "_law_take" st_l_take ["_law_box_here", "_law_below_so"]
  h_l_cells : Here K mg "_law_cells" st_l_cells ["_law_script", "_law_most_so"]
  h_l_of : Here K mg "_law_of" st_l_of ["_law_box_here", "_law_pool_so"]
  h_l_same : Here K mg "_law_same" st_l_same ["_law_got", "_law_due_so"]
  h_l_mixed : Here K mg "_law_mixed" st_l_mixed ["_law_box_here", "_law_rows_so"]
  h_l_bond : Here K mg "_law_bond" st_l_bond ["_law_box_here", "_law_names_so"]
  h_l_pattern : Here K mg "_law_pattern" st_l_pattern ["_law_box_here", "_law_many_so", "_law_bonds_so"]
  h_l_patterns_by_hand : Here K mg "_law_patterns_by_hand" st_l_patterns_by_hand []
  h_l_pattern_right : Here K mg "_law_pattern_right" st_l_pattern_right ["_law_pattern_so", "_law_new_so"]
  h_l_by_hand_right : Here K mg "_law_by_hand_right" st_l_by_hand_right []
  h_l_right : Here K mg "_law_right" st_l_right ["_law_box_here"]
  h_law : Here K mg "law" st_law ["_law_script"]
  b_len : mg "len" = none
  b_tuple : mg "tuple" = none
  b_sorted : mg "sorted" = none
  b_set : mg "set" = none
  b_zip : mg "zip" = none
  b_list : mg "list" = none
  b_isinstance : mg "isinstance" = none
  b_int : mg "int" = none
  b_sum : mg "sum" = none
  b_all : mg "all" = none
  b_abs : mg "abs" = none
  b_min : mg "min" = none
  b_range : mg "range" = none
  b_enumerate : mg "enumerate" = none
  b_dict : mg "dict" = none
  b_bool : mg "bool" = none
  b_str : mg "str" = none
  c_NAMES : ∃ t, mg "NAMES" = some (.str "abcdefgh" t)
  c_HANDED_OVER : ∃ t, mg "HANDED_OVER" = some (.str "r" t)
  c_HANDED_IN : ∃ t, mg "HANDED_IN" = some (.str "s" t)
  c_LAST : ∃ t, mg "LAST" = some (.str "r" t)
  c_FIRST : ∃ t, mg "FIRST" = some (.str "s" t)
  c_FOUR : ∃ t, mg "FOUR" = some (.int 4 t)
  c_ENDS : ∃ a, mg "ENDS" = some (.ref a) ∧ ∀ H : Hp, SqT K H a [.str "r", .str "s"]
end Bx
set_option Elab.async false
set_option linter.all false
set_option maxRecDepth 100000
set_option maxHeartbeats 2000000
/-! B4: isinstance, in, min, index, sorted, slices of typed data. -/
namespace Bx
open PySem PySem.Spec PyProof.Rows L2
open PySem.W (Datum DatumOrd Holds HoldAll T3 T4 Tup)

section
variable {X : Cx} {e a b c : Expr} {es : List Expr} {σ : St} {H H' H1 : Hp} {r ra rb rz : Rs} {rs : List Rs} {pos : Pos} {ds ds1 ds2 : List PyData} {d : PyData}
/-! ### isinstance -/
def tyN : PyData → String
  | .none => "NoneType"
  | .bool _ => "bool"
  | .int _ => "int"
  | .str _ => "str"
  | .tuple _ => "tuple"
  | .list _ => "list"
  | .dict _ => "dict"
theorem di_ty {K : PySem.W.Frag} {H : Hp} {v : V} {d : PyData} (h : DI H v d) : TyX K H v (.type (tyN d)) := by
  cases h with
  | non => exact .base .non
  | bl b => exact .base (.bl b)
  | int i => exact .base (.int i)
  | str x => exact .base (.str x)
  | tup e _ => exact e.elim (fun e => .base (.tup e)) fun ⟨⟨_, e, _⟩, _⟩ => .fTuple e
/-- the values that isinstance is asked of -/
def TyR (K : PySem.W.Frag) (r : Rs) (T : String) (H : Hp) : Prop := ∀ H0 H' v, Same H H0 → Same H0 H' → r.P H0 v H' → TyX K H' v (.type T)
theorem tyr_d {K : PySem.W.Frag} : TyR K (.d d) (tyN d) H := fun _ _ _ _ _ p => di_ty p
theorem tyr_l {K : PySem.W.Frag} : TyR K (.l ds) "list" H := fun _ _ _ _ _ p => by
  obtain ⟨p, vs, rfl, _, h, _⟩ := p
  exact .base (.lst h)
theorem tyr_v {K : PySem.W.Frag} {l : Addr} {xs : List V} (h : H l = some (.lst xs)) : TyR K (.v (.ref l)) "list" H := fun H0 H' v s0 s1 p => by
  have p : v = .ref l := p
  subst p
  exact .base (.lst ((s0.trans s1) _ _ h))
/-- a built-in class as a value -/
theorem pv_ty {x : Str} {T : String} {p : Pos} (hm : X.mg x = none) (hv : bootBuiltins x = some (.type T)) (hg : Gl X x := by rfl) (hn : x ≠ "__name__" := by decide) (hd : (x == ("__debug__" : Str)) = false := by decide) : PV X (.Name x p) σ H (.v (.ty T)) :=
  .of (pe_bltn (v := .ty T) hg hm hv rfl hn hd) fun H1 _ => ⟨Same.refl _, rfl⟩
theorem pv_isi {T S : String} {k : Bool} {x : Str} {p p2 : Pos} (hm : X.mg "isinstance" = none) (hm2 : X.mg x = none) (h : PV X e σ H r) (ht : TyR X.K r T H) (hk : kitB T S = some k) (hv : bootBuiltins x = some (.type S)) (hg : Gl X "isinstance" := by rfl) (hg2 : Gl X x := by rfl)
    (hs : starEach (e :: [.Name x p2]) X.env = (false, eval e X.env) :: starEach [.Name x p2] X.env := by rfl) (hn : x ≠ "__name__" := by decide) (hd : (x == ("__debug__" : Str)) = false := by decide) : PV X (.Call (.Name "isinstance" p) [e, .Name x p2] [] pos) σ H (.b k) :=
  pv_callB call_isi hm (by decide +kernel) (pas_cons h (pas_cons (pv_ty hm2 hv hg2 hn hd) pas_nil) hs) (fun H0 H' vs s0 s1 pr Q q => by
    obtain ⟨v, w, rfl, pv, pw⟩ := rsl2 pr
    have pw : w = .ty S := pw
    subst pw
    exact ⟨v, _, _, _, k, rfl, .ty S, ht H0 H' v s0 s1 pv, kit_ty hk, q _ H' (Same.refl _) (DI.bl _)⟩) hg (he := hs)
/-- isinstance(e, (x, y)) -/
theorem pv_isi2 {T S S' : String} {k k' : Bool} {x y : Str} {p p2 p3 p4 : Pos} {kk} (hm : X.mg "isinstance" = none) (hm2 : X.mg x = none) (hm3 : X.mg y = none) (h : PV X e σ H r) (ht : TyR X.K r T H) (hk : kitB T S = some k) (hk' : kitB T S' = some k') (hv : bootBuiltins x = some (.type S)) (hv' : bootBuiltins y = some (.type S'))
    (hg : Gl X "isinstance" := by rfl) (hg2 : Gl X x := by rfl) (hg3 : Gl X y := by rfl) (hs : starEach (e :: [.Tuple [.Name x p2, .Name y p3] kk p4]) X.env = (false, eval e X.env) :: starEach [.Tuple [.Name x p2, .Name y p3] kk p4] X.env := by rfl)
    (hn : x ≠ "__name__" := by decide) (hd : (x == ("__debug__" : Str)) = false := by decide) (hn3 : y ≠ "__name__" := by decide) (hd3 : (y == ("__debug__" : Str)) = false := by decide) : PV X (.Call (.Name "isinstance" p) [e, .Tuple [.Name x p2, .Name y p3] kk p4] [] pos) σ H (.b (k || k')) := by
  refine .of (pe_callB call_isiT hg hm (by decide +kernel) (pa_cons pe_s (pa_cons (pe_tup (pa_cons (pe_bltn (v := .ty S) hg2 hm2 hv rfl hn hd) (pa_cons (pe_bltn (v := .ty S') hg3 hm3 hv' rfl hn3 hd3) pa_nil))) pa_nil) hs) (he := hs)) fun H1 h1 => h.t h1 fun v H2 s2 pv => ?_
  refine ⟨by show 2 ≤ sizeLine; decide, fun t nt => ⟨v, t, _, _, _, k || k', rfl, upd_same, .cons (.ty S) (.cons (.ty S') .nil), ht H1 _ v h1 (s2.trans (same_new nt)) (Rs.up pv (same_new nt)), ?_, s2.trans (same_new nt), DI.bl _⟩⟩
  refine kitAny_cons (kit_ty hk) (fun e => ?_) (fun e => by rw [e]; rfl)
  subst e
  exact kitAny_cons (kit_ty hk') (fun e => by subst e; exact kitAny_nil) (fun e => by rw [e]; rfl)

/-! ### in, not in -/
section
variable {α : Type} [DecidableEq α] [Datum α] {x : α} {xs : List α}
def rInT (α : Type) [DecidableEq α] [Datum α] (neg : Bool) : R2 := fun x y H Q => ∃ (a : α) (t : Tup α), HD H x a ∧ HD H y t ∧ Q (.bl (if neg then !decide (a ∈ t.items) else decide (a ∈ t.items))) H
theorem hu_dep1 {A : Around} {n : Nat} (hu : A.units + 64 < cLine) (h : n ≤ 60) : A.units + 1 + n < cLine := by omega
theorem op_inT (hu : X.A.units + 64 < cLine) (hd : Datum.depth α ≤ 60) : OpR X (compareOp .In) (rInT α false) := fun pins s σ H x y v u Q I rx ry ⟨a, t, ha, ht, q⟩ => by
  obtain ⟨p, vs, rfl, hp, hs⟩ := hd_tup ht
  obtain rfl : u = Value.ref p := ry
  obtain ⟨its, rv, hT, _⟩ := I.tuple hp.sq
  exact PySem.W.in_tuple_datum (vs := its.toArray) hT (by simpa using hs.holds I rv) (ha.holds I rx) (hu_dep1 hu hd) ⟨.bl _, H, I, rfl, q⟩
theorem op_ninT (hu : X.A.units + 64 < cLine) (hd : Datum.depth α ≤ 60) : OpR X (compareOp .NotIn) (rInT α true) := fun pins s σ H x y v u Q I rx ry ⟨a, t, ha, ht, q⟩ => by
  obtain ⟨p, vs, rfl, hp, hs⟩ := hd_tup ht
  obtain rfl : u = Value.ref p := ry
  obtain ⟨its, rv, hT, _⟩ := I.tuple hp.sq
  refine PySem.W.notIn_tuple_datum (vs := its.toArray) hT (by simpa using hs.holds I rv) (ha.holds I rx) (hu_dep1 hu hd) ⟨.bl (!decide (a ∈ t.items)), H, I, ?_, q⟩
  show Value.bool _ = Value.bool _
  rw [decide_not]
theorem rr_inT {neg : Bool} : RR (rInT α neg) H (.t x) (.t (Tup.mk xs)) (.b (if neg then !decide (x ∈ xs) else decide (x ∈ xs))) := fun H0 H' u v _ _ px py Q q => ⟨x, Tup.mk xs, px, py, q _ H' (Same.refl _) (DI.bl _)⟩
theorem pv_inT (ha : PV X a σ H (.t x)) (hb : PV X b σ H (.t (Tup.mk xs))) (hu : X.A.units + 64 < cLine := by assumption) (hd : Datum.depth α ≤ 60 := by decide) (hm : behindInMarks .In b = false := by rfl) : PV X (.Compare a [.In] [b] pos) σ H (.b (decide (x ∈ xs))) := pv_cmp (op_inT (α := α) hu hd) ha hb (rr_inT (neg := false)) hm
theorem pb_inT (ha : PV X a σ H (.t x)) (hb : PV X b σ H (.t (Tup.mk xs))) (hu : X.A.units + 64 < cLine := by assumption) (hd : Datum.depth α ≤ 60 := by decide) (hm : behindInMarks .In b = false := by rfl) : PB X (.Compare a [.In] [b] pos) σ H (decide (x ∈ xs)) := pb_cmp (op_inT (α := α) hu hd) ha hb (rr_inT (neg := false)) hm
theorem pb_ninT (ha : PV X a σ H (.t x)) (hb : PV X b σ H (.t (Tup.mk xs))) (hu : X.A.units + 64 < cLine := by assumption) (hd : Datum.depth α ≤ 60 := by decide) (hm : behindInMarks .NotIn b = false := by rfl) : PB X (.Compare a [.NotIn] [b] pos) σ H (!decide (x ∈ xs)) := pb_cmp (op_ninT (α := α) hu hd) ha hb (rr_inT (neg := true)) hm
/-- in a list -/
def rInL (α : Type) [DecidableEq α] [Datum α] : R2 := fun x y H Q => ∃ (a : α) (p : Addr) (vs : List V) (xs : List α), HD H x a ∧ y = .ref p ∧ H p = some (.lst vs) ∧ HDs H vs xs ∧ Q (.bl (decide (a ∈ xs))) H
theorem op_inL (hu : X.A.units + 64 < cLine) (hd : Datum.depth α ≤ 60) : OpR X (compareOp .In) (rInL α) := fun pins s σ H x y v u Q I rx ry ⟨a, p, vs, xs, ha, e, hp, hs, q⟩ => by
  subst e
  obtain rfl : u = Value.ref p := ry
  obtain ⟨its, rv, hT, _⟩ := I.list (SqL.of hp)
  exact PySem.W.in_list_datum (vs := its.toArray) hT.isList (by simpa using hs.holds I rv) (ha.holds I rx) (hu_dep1 hu hd) ⟨.bl _, H, I, rfl, q⟩
theorem pv_inLv {l : Addr} {vs : List V} (ha : PV X a σ H (.t x)) (hb : PV X b σ H (.v (.ref l))) (hl : H l = some (.lst vs)) (hs : HDs H vs xs) (hu : X.A.units + 64 < cLine := by assumption) (hd : Datum.depth α ≤ 60 := by decide) (hm : behindInMarks .In b = false := by rfl) : PV X (.Compare a [.In] [b] pos) σ H (.b (decide (x ∈ xs))) :=
  pv_cmp (op_inL (α := α) hu hd) ha hb (fun H0 H' u v s0 s1 px py Q q => by
    have py : v = .ref l := py
    exact ⟨x, l, vs, xs, px, py, (s0.trans s1) _ _ hl, hs.same (s0.trans s1), q _ H' (Same.refl _) (DI.bl _)⟩) hm
end

/-! ### min -/
section
variable {α : Type} [DecidableEq α] [DatumOrd α] {x : α} {xs : List α}
open PySem.W (minOf)
theorem holds_inj {h : Heap} {v : Value} {x y : α} (a : Holds h v x) (b : Holds h v y) : x = y := by
  obtain ⟨as, ra⟩ := a
  obtain ⟨bs, rb⟩ := b
  have e := SeqAt.plain_unique _ _ _ _ _ (Datum.plain x) ra rb
  have q := Datum.eqv x y
  rw [← e, SeqAt.eqv_refl_plain _ (Datum.plain x)] at q
  exact of_decide_eq_true q.symm
def rMinT (α : Type) [DecidableEq α] [DatumOrd α] : List V → Hp → VK → Prop := fun vs H Q => ∃ (v : V) (x : α) (xs : List α), vs = [v] ∧ HD H v (Tup.mk (x :: xs)) ∧ ∀ y, HD H y (minOf x xs) → Q y H
theorem cr_minT (hc : X.calm = true) (hu : X.A.units + 64 < cLine) (hd : Datum.depth α ≤ 60) : CallR X (.builtin "min") (rMinT α) := fun pins s σ H xs us Q I r ⟨v, x, ys, e, ht, q⟩ => by
  subst e
  obtain ⟨u, rfl, ru⟩ := Vals.one r
  obtain ⟨p, vs, rfl, hp, hs⟩ := hd_tup ht
  obtain rfl : u = Value.ref p := ru
  obtain ⟨its, rv, hT, _⟩ := I.tuple hp.sq
  refine PySem.W.min_tuple_datum (vs := its.toArray) (I.ok.hd hc) hT (by simpa using hs.holds I rv) (hu_dep1 hu hd) fun i v h' tk hv hm k => ?_
  have hv : its[i]? = some v := by simpa using hv
  obtain ⟨w, hw, rw'⟩ : ∃ w, vs[i]? = some w ∧ RelV w v := by
    have hl := rv.length
    have hi : i < its.length := (List.getElem?_eq_some_iff.mp hv).1
    have hi2 : i < vs.length := by omega
    obtain ⟨u', h1, h2⟩ := rv.get (List.getElem?_eq_getElem hi2)
    rw [hv] at h1
    cases h1
    exact ⟨_, List.getElem?_eq_getElem hi2, h2⟩
  obtain ⟨z, hz, dz⟩ := hs.get' hw
  have I' : Inv X pins σ H { s with heap := h', toks := tk } := I.kept k
  have e : z = minOf x ys := holds_inj (dz.holds I' rw') hm
  subst e
  exact ⟨w, H, I', rw', q w dz⟩
theorem pv_minT {p : Pos} (hc : X.calm = true) (hm : X.mg "min" = none) (ha : PV X e σ H (.t (Tup.mk (x :: xs)))) (hu : X.A.units + 64 < cLine := by assumption) (hd : Datum.depth α ≤ 60 := by decide) (hg : Gl X "min" := by rfl) (ns : NS X e := by rfl) : PV X (.Call (.Name "min" p) [e] [] pos) σ H (.t (minOf x xs)) :=
  pv_callB (cr_minT (α := α) hc hu hd) hm (by decide +kernel) (pas_cons ha pas_nil ns) (fun H0 H' vs _ _ pr Q q => by
    obtain ⟨v, rfl, pv⟩ := rsl1 pr
    exact ⟨v, x, xs, rfl, pv, fun y hy => q y H' (Same.refl _) hy⟩) hg (he := ns)
/-- min of a list of such -/
def rMinL (α : Type) [DecidableEq α] [DatumOrd α] : List V → Hp → VK → Prop := fun us H Q => ∃ (p : Addr) (vs : List V) (x : α) (xs : List α), us = [.ref p] ∧ H p = some (.lst vs) ∧ HDs H vs (x :: xs) ∧ ∀ y, HD H y (minOf x xs) → Q y H
theorem cr_minL (hc : X.calm = true) (hu : X.A.units + 64 < cLine) (hd : Datum.depth α ≤ 60) : CallR X (.builtin "min") (rMinL α) := fun pins s σ H xs us Q I r ⟨p, vs, x, ys, e, hp, hs, q⟩ => by
  subst e
  obtain ⟨u, rfl, ru⟩ := Vals.one r
  obtain rfl : u = Value.ref p := ru
  obtain ⟨its, rv, hT, _⟩ := I.list (SqL.of hp)
  refine PySem.W.min_list_datum (vs := its.toArray) (I.ok.hd hc) hT.isList (by simpa using hs.holds I rv) (hu_dep1 hu hd) fun i v h' tk hv hm k => ?_
  have hv : its[i]? = some v := by simpa using hv
  obtain ⟨w, hw, rw'⟩ : ∃ w, vs[i]? = some w ∧ RelV w v := by
    have hl := rv.length
    have hi : i < its.length := (List.getElem?_eq_some_iff.mp hv).1
    have hi2 : i < vs.length := by omega
    obtain ⟨u', h1, h2⟩ := rv.get (List.getElem?_eq_getElem hi2)
    rw [hv] at h1
    cases h1
    exact ⟨_, List.getElem?_eq_getElem hi2, h2⟩
  obtain ⟨z, hz, dz⟩ := hs.get' hw
  have I' : Inv X pins σ H { s with heap := h', toks := tk } := I.kept k
  have e : z = minOf x ys := holds_inj (dz.holds I' rw') hm
  subst e
  exact ⟨w, H, I', rw', q w dz⟩
theorem pv_minLv {p : Pos} {l : Addr} {vs : List V} (hc : X.calm = true) (hm : X.mg "min" = none) (ha : PV X e σ H (.v (.ref l))) (hl : H l = some (.lst vs)) (hs : HDs H vs (x :: xs)) (hu : X.A.units + 64 < cLine := by assumption) (hd : Datum.depth α ≤ 60 := by decide) (hg : Gl X "min" := by rfl) (ns : NS X e := by rfl) :
    PV X (.Call (.Name "min" p) [e] [] pos) σ H (.t (minOf x xs)) :=
  pv_callB (cr_minL (α := α) hc hu hd) hm (by decide +kernel) (pas_cons ha pas_nil ns) (fun H0 H' ws s0 s1 pr Q q => by
    obtain ⟨v, rfl, pv⟩ := rsl1 pr
    have pv : v = .ref l := pv
    exact ⟨l, vs, x, xs, by rw [pv], (s0.trans s1) _ _ hl, hs.same (s0.trans s1), fun y hy => q y H' (Same.refl _) hy⟩) hg (he := ns)
end

/-! ### t.index(x) -/
section
variable {α : Type} [DecidableEq α] [Datum α] {x : α} {xs : List α}
def rIdxT (α : Type) [DecidableEq α] [Datum α] : V → List V → Hp → VK → Prop := fun o vs H Q => ∃ (v : V) (x : α) (xs : List α), vs = [v] ∧ HD H o (Tup.mk xs) ∧ HD H v x ∧ x ∈ xs ∧ Q (.int (xs.idxOf x : Nat)) H
theorem mt_idxT (hu : X.A.units + 64 < cLine) (hd : Datum.depth α ≤ 60) : MtR X "tuple.index" (rIdxT α) := fun pins s σ H o vs ov us Q I ro r ⟨v, x, xs, e, ht, hx, hm, q⟩ => by
  subst e
  obtain ⟨u, rfl, ru⟩ := Vals.one r
  obtain ⟨p, ws, rfl, hp, hs⟩ := hd_tup ht
  obtain rfl : ov = Value.ref p := ro
  obtain ⟨its, rv, hT, _⟩ := I.tuple hp.sq
  exact PySem.W.index_tuple_datum hT (hs.holds I rv) (hx.holds I ru) (hu_dep1 hu hd) hm ⟨.int _, H, I.tok _, ⟨_, rfl⟩, q⟩
end
/-! ### slices of tuples -/
theorem di_cut {H : Hp} {vs : List V} (h : DIs H vs ds) (lo hi : Option Int) : DIs H (cutV vs lo hi) ((ds.drop (HT.sIx ds.length 0 lo)).take (HT.sIx ds.length ds.length hi - HT.sIx ds.length 0 lo)) := by
  unfold cutV
  rw [h.length]
  exact (h.drop _).take _
theorem po_pv {i : Int} (h : PV X e σ H (.i i)) : ∀ H1, Same H H1 → ∀ Q : Option Int → Hp → Prop, (∀ H2, Same H1 H2 → Q (some i) H2) → tPart (tS X e) σ H1 Q := fun H1 hs Q q => h.t hs fun v H2 s2 p => ⟨i, Rs.pI p, q H2 s2⟩
/-- t[lo:hi] -/
theorem pv_slT {lo hi : Option Expr} {l u : Option Int} {tl th : TO} {p2 : Pos} (ha : PV X e σ H (.d (.tuple ds))) (hl : PO X lo tl) (hh : PO X hi th) (ql : ∀ H1, Same H H1 → ∀ Q : Option Int → Hp → Prop, (∀ H2, Same H1 H2 → Q l H2) → tl σ H1 Q) (qh : ∀ H1, Same H H1 → ∀ Q : Option Int → Hp → Prop, (∀ H2, Same H1 H2 → Q u H2) → th σ H1 Q) :
    PV X (.Subscript e (.Slice lo hi none p2) pos) σ H (.d (.tuple ((ds.drop (HT.sIx ds.length 0 l)).take (HT.sIx ds.length ds.length u - HT.sIx ds.length 0 l)))) := by
  refine .of (pe_slice sl_tupA pe_s hl hh) fun H1 h1 => ha.t h1 fun v H2 s2 pv => ql H2 (h1.trans s2) _ fun H3 s3 => qh H3 ((h1.trans s2).trans s3) _ fun H4 s4 => ?_
  have pv : DI H2 v (.tuple ds) := pv
  cases pv with
  | @tup a xs _ ea hd =>
    have s := s3.trans s4
    refine ⟨a, xs, rfl, (ea.ts (.same s)).sq, fun w => ⟨s2.trans s, ?_⟩, fun w q nq => ⟨(s2.trans s).trans (same_new nq), DI.mk upd_same ((di_cut hd l u).same (s.trans (same_new nq)))⟩⟩
    rw [hd.length] at w
    rw [w.1, w.2, List.drop_zero, Nat.sub_zero, List.take_length]
    exact DI.tup (ea.ts (.same s)) (hd.same s)
/-- t + u -/
theorem pv_catT (ha : PV X a σ H (.d (.tuple ds1))) (hb : PV X b σ H (.d (.tuple ds2))) (hz : ds1.length + ds2.length ≤ 1000000) : PV X (.BinOp a .Add b pos) σ H (.d (.tuple (ds1 ++ ds2))) :=
  pv_op op_catA ha hb fun H0 H' x y s0 s1 px py Q q => by
    have px : DI H' x (.tuple ds1) := px
    have py : DI H' y (.tuple ds2) := py
    cases px with
    | @tup p xs _ ep hx => cases py with
      | @tup p' ys _ ep' hy =>
        have l1 := hx.length
        have l2 := hy.length
        refine ⟨p, p', xs, ys, rfl, rfl, ep.sq, ep'.sq, by rw [l1, l2]; exact Nat.le_trans hz (by decide), fun e => ?_, fun e1 e2 => ?_, fun e1 e2 t nt => q _ _ (same_new nt) (DI.mk upd_same ((hx.append hy).same (same_new nt)))⟩
        · subst e
          cases hx
          exact q _ H' (Same.refl _) (DI.tup ep' hy)
        · subst e2
          cases hy
          rw [List.append_nil] at q
          exact q _ H' (Same.refl _) (DI.tup ep hx)
end
end Bx
set_option Elab.async false
set_option linter.all false
set_option maxRecDepth 100000
set_option maxHeartbeats 2000000
/-! B5: sorted of what can be gathered. -/
namespace Bx
open PySem PySem.Spec PyProof.Rows L2
open PySem.W (Datum DatumOrd Holds HoldAll T3 T4 Tup EachIs dataLe AllAlike Sortable dataLt)
/-- Python's order of typed data, as <= -/
def leO {α : Type} [DecidableEq α] [DatumOrd α] (a b : α) : Bool := !DatumOrd.lt b a
def sortO {α : Type} [DecidableEq α] [DatumOrd α] (xs : List α) : List α := xs.mergeSort leO
theorem dataLe_leO {α : Type} [DecidableEq α] [DatumOrd α] : dataLe false (Datum.toD (α := α)) = leO := by
  funext a b
  rw [PySem.W.dataLe_eq]
  show (!dataLt (Datum.toD b) (Datum.toD a)) = _
  rw [DatumOrd.lt_eq]; rfl
mutual
theorem di_reads {X : Cx} {pins : List (Addr × Obj)} {σ : St} {H : Hp} {s : Shared} (I : Inv X pins σ H s) : ∀ {v : V} {d : PyData} {u : Value}, DI H v d → RelV v u → Reads s.heap u d []
  | _, _, _, .non, r => by cases r; exact .none
  | _, _, _, .bl b, r => by cases r; exact .bool b
  | _, _, _, .int i, r => by obtain ⟨t, rfl⟩ := r; exact .int i t
  | _, _, _, .str x, r => by obtain ⟨t, rfl⟩ := r; exact .str x t
  | _, _, _, .tup e hs, r => by
    cases r
    obtain ⟨its, rv, ⟨o, ho, hc, n, hd⟩, _⟩ := I.tuple e.sq
    exact .tuple ho hc hd (dis_reads I hs rv)
theorem dis_reads {X : Cx} {pins : List (Addr × Obj)} {σ : St} {H : Hp} {s : Shared} (I : Inv X pins σ H s) : ∀ {vs : List V} {ds : List PyData} {us : List Value}, DIs H vs ds → Vals vs us → ReadsAll s.heap us ds []
  | _, _, _, .nil, r => by cases r; exact .nil
  | _, _, _, .cons h hs, r => by
    cases r with
    | cons r1 r2 => exact .cons (di_reads I h r1) (dis_reads I hs r2)
end
/-- what is gathered leaves behind -/
structure Kept (s s' : Shared) : Prop where
  keep : ∀ b o, s.heap.get? b = some o → s'.heap.get? b = some o
  gens : s'.gens = s.gens
  os : s'.os = s.os
theorem Inv.kepts {X : Cx} {pins : List (Addr × Obj)} {σ : St} {H : Hp} {s s' : Shared} (I : Inv X pins σ H s) (k : Kept s s') : Inv X pins σ H s' :=
  I.call' (ch := []) k.os (Un.kept k.keep) (I.hok.kept k.keep) (by rw [k.gens]; exact I.bare) fun b hb => nomatch hb
section
variable {prog : Program} {w : World} {A : Around} {E : Value → Shared → Prop} {s : Shared}
/-- sorted(v), v gathered to us: a new list of us is sorted in its place -/
theorem sorted_walk {v : Value} {G : Shared → List Value → Prop} {Q : Value → Shared → Prop}
    (hcol : ∀ Q' : List Value → Shared → Prop, (∀ s' us, G s' us → Q' us s') → wpAny (model prog w) A.in1 (collect v) Q' E s)
    (hg : ∀ s' us, G s' us → us.length ≤ sizeLine ∧ wpAny (model prog w) A.in1 (call (.builtin "list.sort") [.ref s'.heap.objs.size]) (fun _ s'' => Q (.ref s'.heap.objs.size) s'') E { s' with heap := s'.heap.push (seqObj "list" us.toArray 0) }) :
    wpAny (model prog w) A (call (.builtin "sorted") [v]) Q E s := by
  refine Calls.call_function_entry kind_sorted plain_sorted entry_sorted (args_sorted1 _) ?_
  unfold Builtin.«sorted»
  refine wpAny_bind (m := checkCount "sorted" 1 1 _) (wpAny_pure ?_)
  refine wpAny_bind (hcol _ fun s' us g => ?_)
  obtain ⟨hz, hs⟩ := hg s' us g
  refine wpAny_bind (wpAny_newList ?_ hz)
  refine wpAny_bind (wpAny_holding (wpAny_mono hs (fun _ s'' q => ?_) fun _ _ z => z))
  exact wpAny_pure ⟨_, rfl, q⟩
end
section
variable {X : Cx} {e a b c : Expr} {es : List Expr} {σ : St} {H H' H1 : Hp} {r ra rb rz : Rs} {rs : List Rs} {pos : Pos} {ds ds1 ds2 : List PyData} {d : PyData}
variable {α : Type} [DecidableEq α] [DatumOrd α]
theorem each_of {H : Hp} : ∀ {vs : List V} {us : List Value} {xs : List α}, Vals vs us → HDs H vs xs → EachIs (fun u x => ∃ v, RelV v u ∧ HD H v x) us xs
  | _, _, [], .nil, _ => .nil
  | _, _, _ :: _, .nil, h => by cases h
  | _, _, [], .cons _ _, h => by cases h
  | _, _, x :: xs, .cons r t, h => by
    cases h with
    | cons h1 h2 => exact .cons ⟨_, r, h1⟩ (each_of t h2)
theorem of_each {H : Hp} : ∀ {us : List Value} {xs : List α}, EachIs (fun u x => ∃ v, RelV v u ∧ HD H v x) us xs → ∃ vs, Vals vs us ∧ HDs H vs xs
  | _, _, .nil => ⟨[], .nil, .nil⟩
  | _, _, .cons ⟨v, r, h⟩ t => by
    obtain ⟨vs, rv, hs⟩ := of_each t
    exact ⟨v :: vs, .cons r rv, .cons h hs⟩
theorem each_reads {X : Cx} {pins : List (Addr × Obj)} {σ : St} {H : Hp} {s : Shared} (I : Inv X pins σ H s) {p : Addr} : ∀ {us : List Value} {xs : List α}, EachIs (fun u x => ∃ v, RelV v u ∧ HD H v x) us xs → EachIs (fun u x => ∃ as, Reads s.heap u (Datum.toD x) as ∧ p ∉ as) us xs
  | _, _, .nil => .nil
  | _, _, .cons ⟨v, r, h⟩ t => .cons ⟨[], di_reads I h r, fun z => nomatch z⟩ (each_reads I t)
/-- the sort's part, over the layer -/
theorem sort_new {A : Around} {pins : List (Addr × Obj)} {s : Shared} {us : List Value} {xs : List α} {Q : Value → Shared → Prop} {E : Value → Shared → Prop} (I : Inv X pins σ H s) (he : EachIs (fun u x => ∃ v, RelV v u ∧ HD H v x) us xs) (hk : Sortable (xs.map (Datum.toD (α := α)))) (hz : xs.length ≤ sizeLine)
    (hu : A.units + 1 + Datum.depth α < cLine) (q : ∀ p vs s', Inv X pins σ (upd H p (.lst vs)) s' → H p = none → HDs H vs (sortO xs) → p = s.heap.objs.size → Q (.ref p) s') :
    wpAny (model X.prog X.w) A (call (.builtin "list.sort") [.ref s.heap.objs.size]) (fun _ s'' => Q (.ref s.heap.objs.size) s'') E { s with heap := s.heap.push (seqObj "list" us.toArray 0) } := by
  have I1 : Inv X pins σ H { s with heap := s.heap.push (seqObj "list" us.toArray 0) } := I.kept (t' := s.toks) fun b o e => Heap.get?_push_of_some _ e
  have hob : (s.heap.push (seqObj "list" us.toArray 0)).get? s.heap.objs.size = some (seqObj "list" us.toArray 0) := Heap.get?_push_size _ rfl
  refine PySem.W.list_sort_data (bs := xs) (enc := Datum.toD) (R := fun u x => ∃ v, RelV v u ∧ HD H v x) (s := { s with heap := s.heap.push (seqObj "list" us.toArray 0) }) hob he (each_reads I1 he) (AllAlike.of DatumOrd.alike) hk hz (fun b _ => Nat.lt_of_le_of_lt (Nat.add_le_add_left (Datum.depth_le b) _) hu) fun out hl ho => ?_
  rw [dataLe_leO] at ho
  obtain ⟨vs, rv, hs⟩ := of_each ho
  have hp : H s.heap.objs.size = none := I.hok.fresh (Nat.le_refl _)
  obtain ⟨c, hc⟩ := sortedHeap_at (out := out.toArray) hob
  refine q s.heap.objs.size vs _ (I.laid (t' := s.toks) (fun b o e => ?_) (Nat.le_refl _) ⟨?_, out, c, rv, hc⟩) hp hs rfl
  · have hlt : b < s.heap.objs.size := Heap.lt_size e
    show (sortedHeap (s.heap.push (seqObj "list" us.toArray 0)) s.heap.objs.size us out.toArray).get? b = _
    rw [sortedHeap_old (Nat.ne_of_lt hlt) (by rw [size_push']; exact Nat.lt_succ_of_lt hlt)]
    exact Heap.get?_push_of_some _ e
  · rw [rv.length, hl]; exact hz
/-- sorted(v) for what can be gathered -/
theorem sorted_over {pins : List (Addr × Obj)} {s : Shared} {v : Value} {Q : Value → Shared → Prop} {P : List α → Prop} (I : Inv X pins σ H s) (hu : X.A.units + 64 < cLine) (hd : Datum.depth α ≤ 50)
    (hcol : ∀ Q' : List Value → Shared → Prop, (∀ s' us xs, Kept s s' → EachIs (fun u x => ∃ v, RelV v u ∧ HD H v x) us xs → P xs → Q' us s') → wpAny (model X.prog X.w) X.A.in1 (collect v) Q' X.xe s)
    (hP : ∀ xs, P xs → xs.length ≤ sizeLine ∧ Sortable (xs.map (Datum.toD (α := α)))) (q : ∀ p vs xs s', P xs → Inv X pins σ (upd H p (.lst vs)) s' → H p = none → HDs H vs (sortO xs) → Q (.ref p) s') :
    wpAny (model X.prog X.w) X.A (call (.builtin "sorted") [v]) Q X.xe s := by
  refine sorted_walk (G := fun s' us => ∃ xs, Kept s s' ∧ EachIs (fun u x => ∃ v, RelV v u ∧ HD H v x) us xs ∧ P xs) (fun Q' h => hcol Q' fun s' us xs k e p => h s' us ⟨xs, k, e, p⟩) fun s' us g => ?_
  obtain ⟨xs, k, e, p⟩ := g
  obtain ⟨hz, hk⟩ := hP xs p
  refine ⟨by rw [e.length]; exact hz, sort_new (A := X.A.in1) (Inv.kepts I k) e hk hz (by show X.A.units + 1 + 1 + _ < _; omega) fun a vs s'' I' n hs _ => q a vs xs s'' p I' n hs⟩
def rSortL (α : Type) [DecidableEq α] [DatumOrd α] (K : PySem.W.Frag) : List V → Hp → VK → Prop := fun us H Q => ∃ (v : V) (vs : List V) (xs : List α), us = [v] ∧ (∃ p, v = .ref p ∧ (SqL K H p vs ∨ SqT K H p vs)) ∧ HDs H vs xs ∧ Sortable (xs.map (Datum.toD (α := α))) ∧
  ∀ p ws, H p = none → HDs H ws (sortO xs) → Q (.ref p) (upd H p (.lst ws))
theorem cr_sortL (hu : X.A.units + 64 < cLine) (hd : Datum.depth α ≤ 50) : CallR X (.builtin "sorted") (rSortL α X.K) := fun pins s σ H xs us Q I r ⟨v, vs, ys, e, ⟨p, ev, hv⟩, hs, hk, q⟩ => by
  subst e
  subst ev
  obtain ⟨u, rfl, ru⟩ := Vals.one r
  obtain rfl : u = Value.ref p := ru
  obtain ⟨its, rv, T, o, n, hT, ho, hc, hd', hz⟩ : ∃ (its : List Value), Vals vs its ∧ ∃ (T : String) (o : Obj) (n : Nat), (T = "list" ∨ T = "tuple") ∧ s.heap.get? p = some o ∧ o.cls = .type T ∧ o.data = .seq its.toArray n ∧ vs.length ≤ sizeLine := by
    rcases hv with h | h
    · obtain ⟨its, rv, ⟨o, n, ho, hc, _, hd⟩, hz⟩ := I.list h
      exact ⟨its, rv, "list", o, n, .inl rfl, ho, hc, hd, hz⟩
    · obtain ⟨its, rv, ⟨o, ho, hc, n, hd⟩, hz⟩ := I.tuple h
      exact ⟨its, rv, "tuple", o, n, .inr rfl, ho, hc, hd, hz⟩
  have hl := hs.length
  refine sorted_over (P := fun xs => xs = ys) I hu hd (fun Q' h => ?_) (fun xs e => by subst e; exact ⟨by omega, hk⟩) fun a ws xs s' e I' n hs' => ?_
  · refine wpAny_collect_seq p hT ho hc hd' (fun h' k => ?_) (by have := rv.length; simpa using (show its.length ≤ sizeLine by omega))
    exact h _ _ ys ⟨k, rfl, rfl⟩ (by simpa using each_of rv hs) rfl
  · subst e
    exact ⟨.ref a, _, I', rfl, q a ws n hs'⟩
theorem sortable_tup {f : α → List PyData} (h : ∀ x : α, ∃ d ds, Datum.toD x = .tuple (d :: ds)) (xs : List α) : Sortable (xs.map (Datum.toD (α := α))) := Sortable.tuples h
theorem hds_map {H : Hp} {vs : List V} {xs : List α} (h : DIs H vs (xs.map Datum.toD)) : HDs H vs xs := h
/-- sorted of a new list, of a list that stands, of a tuple -/
theorem pv_sortN {p : Pos} {xs : List α} (hm : X.mg "sorted" = none) (ha : PV X e σ H (.ts xs)) (hk : Sortable (xs.map (Datum.toD (α := α)))) (hu : X.A.units + 64 < cLine := by assumption) (hd : Datum.depth α ≤ 50 := by decide) (hg : Gl X "sorted" := by rfl) (ns : NS X e := by rfl) :
    PV X (.Call (.Name "sorted" p) [e] [] pos) σ H (.ts (sortO xs)) :=
  pv_callB (cr_sortL (α := α) hu hd) hm (by decide +kernel) (pas_cons ha pas_nil ns) (fun H0 H' vs s0 s1 pr Q q => by
    obtain ⟨v, rfl, pv⟩ := rsl1 pr
    obtain ⟨p, ws, rfl, _, hp, hs⟩ := pv
    exact ⟨_, ws, xs, rfl, ⟨p, rfl, .inl (SqL.of hp)⟩, hs, hk, fun a zs na hz => q _ _ (same_new na) ⟨a, zs, rfl, na, upd_same, hz.same (same_new na)⟩⟩) hg (he := ns)
theorem pv_sortT {p : Pos} {xs : List α} (hm : X.mg "sorted" = none) (ha : PV X e σ H (.t (Tup.mk xs))) (hk : Sortable (xs.map (Datum.toD (α := α)))) (hu : X.A.units + 64 < cLine := by assumption) (hd : Datum.depth α ≤ 50 := by decide) (hg : Gl X "sorted" := by rfl) (ns : NS X e := by rfl) :
    PV X (.Call (.Name "sorted" p) [e] [] pos) σ H (.ts (sortO xs)) :=
  pv_callB (cr_sortL (α := α) hu hd) hm (by decide +kernel) (pas_cons ha pas_nil ns) (fun H0 H' vs s0 s1 pr Q q => by
    obtain ⟨v, rfl, pv⟩ := rsl1 pr
    obtain ⟨p, ws, rfl, hp, hs⟩ := hd_tup (show HD H' v (Tup.mk xs) from pv)
    exact ⟨_, ws, xs, rfl, ⟨p, rfl, .inr hp.sq⟩, hs, hk, fun a zs na hz => q _ _ (same_new na) ⟨a, zs, rfl, na, upd_same, hz.same (same_new na)⟩⟩) hg (he := ns)
theorem pv_sortV {p : Pos} {l : Addr} {vs : List V} {xs : List α} (hm : X.mg "sorted" = none) (ha : PV X e σ H (.v (.ref l))) (hl : H l = some (.lst vs)) (hs : HDs H vs xs) (hk : Sortable (xs.map (Datum.toD (α := α)))) (hu : X.A.units + 64 < cLine := by assumption) (hd : Datum.depth α ≤ 50 := by decide) (hg : Gl X "sorted" := by rfl) (ns : NS X e := by rfl) :
    PV X (.Call (.Name "sorted" p) [e] [] pos) σ H (.ts (sortO xs)) :=
  pv_callB (cr_sortL (α := α) hu hd) hm (by decide +kernel) (pas_cons ha pas_nil ns) (fun H0 H' ws s0 s1 pr Q q => by
    obtain ⟨v, rfl, pv⟩ := rsl1 pr
    have pv : v = .ref l := pv
    have s := s0.trans s1
    exact ⟨v, vs, xs, rfl, ⟨l, pv, .inl (SqL.of (s _ _ hl))⟩, hs.same s, hk, fun a zs na hz => q _ _ (same_new na) ⟨a, zs, rfl, na, upd_same, hz.same (same_new na)⟩⟩) hg (he := ns)
end
theorem sortable_int (xs : List Int) : Sortable (xs.map (Datum.toD (α := Int))) := Sortable.others fun b => ⟨fun e => (by cases e), fun ys e => by cases e⟩
theorem sortable_str (xs : List Str) : Sortable (xs.map (Datum.toD (α := Str))) := Sortable.others fun b => ⟨fun e => (by cases e), fun ys e => by cases e⟩
theorem sortable_bond (xs : List Bond) : Sortable (xs.map (Datum.toD (α := Bond))) := Sortable.tuples fun b => ⟨_, _, rfl⟩
theorem sortable_pat {xs : List Pat} (h : ∀ x ∈ xs, x.items ≠ []) : Sortable (xs.map (Datum.toD (α := Pat))) := .inl fun d hd => by
  obtain ⟨b, hb, rfl⟩ := List.mem_map.mp hd
  obtain ⟨l⟩ := b
  cases l with
  | nil => exact absurd rfl (h _ hb)
  | cons x r => exact ⟨_, _, rfl⟩
end Bx
set_option Elab.async false
set_option linter.all false
set_option maxRecDepth 100000
set_option maxHeartbeats 2000000
/-! B6: small facts and further rules. -/
namespace Bx
open PySem PySem.Spec PyProof.Rows L2
open PySem.W (Datum DatumOrd Holds HoldAll T3 T4 Tup)
theorem bt_list : bootBuiltins "list" = some (.type "list") := by decide +kernel
theorem bt_tuple : bootBuiltins "tuple" = some (.type "tuple") := by decide +kernel
theorem bt_str : bootBuiltins "str" = some (.type "str") := by decide +kernel
theorem bt_bool : bootBuiltins "bool" = some (.type "bool") := by decide +kernel
theorem bt_int : bootBuiltins "int" = some (.type "int") := by decide +kernel
theorem kb_NoneType_list : kitB "NoneType" "list" = some false := by decide +kernel
theorem kb_NoneType_tuple : kitB "NoneType" "tuple" = some false := by decide +kernel
theorem kb_NoneType_str : kitB "NoneType" "str" = some false := by decide +kernel
theorem kb_NoneType_bool : kitB "NoneType" "bool" = some false := by decide +kernel
theorem kb_NoneType_int : kitB "NoneType" "int" = some false := by decide +kernel
theorem kb_bool_list : kitB "bool" "list" = some false := by decide +kernel
theorem kb_bool_tuple : kitB "bool" "tuple" = some false := by decide +kernel
theorem kb_bool_str : kitB "bool" "str" = some false := by decide +kernel
theorem kb_bool_bool : kitB "bool" "bool" = some true := by decide +kernel
theorem kb_bool_int : kitB "bool" "int" = some true := by decide +kernel
theorem kb_int_list : kitB "int" "list" = some false := by decide +kernel
theorem kb_int_tuple : kitB "int" "tuple" = some false := by decide +kernel
theorem kb_int_str : kitB "int" "str" = some false := by decide +kernel
theorem kb_int_bool : kitB "int" "bool" = some false := by decide +kernel
theorem kb_int_int : kitB "int" "int" = some true := by decide +kernel
theorem kb_str_list : kitB "str" "list" = some false := by decide +kernel
theorem kb_str_tuple : kitB "str" "tuple" = some false := by decide +kernel
theorem kb_str_str : kitB "str" "str" = some true := by decide +kernel
theorem kb_str_bool : kitB "str" "bool" = some false := by decide +kernel
theorem kb_str_int : kitB "str" "int" = some false := by decide +kernel
theorem kb_tuple_list : kitB "tuple" "list" = some false := by decide +kernel
theorem kb_tuple_tuple : kitB "tuple" "tuple" = some true := by decide +kernel
theorem kb_tuple_str : kitB "tuple" "str" = some false := by decide +kernel
theorem kb_tuple_bool : kitB "tuple" "bool" = some false := by decide +kernel
theorem kb_tuple_int : kitB "tuple" "int" = some false := by decide +kernel
theorem kb_list_list : kitB "list" "list" = some true := by decide +kernel
theorem kb_list_tuple : kitB "list" "tuple" = some false := by decide +kernel
theorem kb_list_str : kitB "list" "str" = some false := by decide +kernel
theorem kb_list_bool : kitB "list" "bool" = some false := by decide +kernel
theorem kb_list_int : kitB "list" "int" = some false := by decide +kernel
end Bx
set_option Elab.async false
set_option linter.all false
set_option maxRecDepth 100000
/-! O0: the order of typed data, in plain Lean. -/
namespace Bx
open PySem
open PySem.W (Datum DatumOrd T3 T4 Tup listLt)
class LO (α : Type) [DecidableEq α] [DatumOrd α] : Prop where
  irr : ∀ a : α, DatumOrd.lt a a = false
  tr : ∀ a b c : α, DatumOrd.lt a b = true → DatumOrd.lt b c = true → DatumOrd.lt a c = true
  tri : ∀ a b : α, DatumOrd.lt a b = false → DatumOrd.lt b a = false → a = b
instance : LO Int where
  irr a := by show decide (a < a) = false; simp
  tr a b c h1 h2 := by
    have h1 : a < b := of_decide_eq_true h1
    have h2 : b < c := of_decide_eq_true h2
    exact decide_eq_true (show a < c by omega)
  tri a b h1 h2 := by
    have h1 : ¬ a < b := of_decide_eq_false h1
    have h2 : ¬ b < a := of_decide_eq_false h2
    omega
theorem nats_irr (l : List Nat) : ¬ l < l := List.lt_irrefl l
instance : LO Str where
  irr a := decide_eq_false (List.lt_irrefl _)
  tr a b c h1 h2 := decide_eq_true (List.lt_trans (of_decide_eq_true h1) (of_decide_eq_true h2))
  tri a b h1 h2 := by
    have h1 : ¬ a.cps.toList < b.cps.toList := of_decide_eq_false h1
    have h2 : ¬ b.cps.toList < a.cps.toList := of_decide_eq_false h2
    have e : a.cps.toList = b.cps.toList := by
      have l1 := List.not_lt.mp h1
      have l2 := List.not_lt.mp h2
      exact List.le_antisymm l2 l1
    cases a with
    | mk x => cases b with
      | mk y =>
        have e : x.toList = y.toList := e
        rw [Array.toList_inj] at e
        rw [e]
section
variable {α : Type} [DecidableEq α] [DatumOrd α] [LO α]
theorem lt_ne {a b : α} (h : DatumOrd.lt a b = true) : a ≠ b := fun e => by
  subst e
  rw [LO.irr] at h
  cases h
theorem lt_asym {a b : α} (h : DatumOrd.lt a b = true) : DatumOrd.lt b a = false := by
  cases q : DatumOrd.lt b a with
  | false => rfl
  | true =>
    have := LO.tr _ _ _ h q
    rw [LO.irr] at this
    cases this
/-- lexicographic: the first, then the rest -/
theorem lex_tr {β : Type} {x y z : α} {p q r : Bool} (h1 : (if x = y then p else DatumOrd.lt x y) = true) (h2 : (if y = z then q else DatumOrd.lt y z) = true) (h : x = y → y = z → p = true → q = true → r = true) : (if x = z then r else DatumOrd.lt x z) = true := by
  by_cases e1 : x = y
  · rw [if_pos e1] at h1
    by_cases e2 : y = z
    · rw [if_pos e2] at h2
      rw [if_pos (e1.trans e2)]
      exact h e1 e2 h1 h2
    · rw [if_neg e2] at h2
      subst e1
      rw [if_neg e2]
      exact h2
  · rw [if_neg e1] at h1
    by_cases e2 : y = z
    · subst e2
      rw [if_neg e1]
      exact h1
    · rw [if_neg e2] at h2
      have t := LO.tr _ _ _ h1 h2
      rw [if_neg (lt_ne t)]
      exact t
theorem lex_tri {x y : α} {p q : Bool} (h1 : (if x = y then p else DatumOrd.lt x y) = false) (h2 : (if y = x then q else DatumOrd.lt y x) = false) : x = y ∧ p = false ∧ q = false := by
  by_cases e : x = y
  · rw [if_pos e] at h1
    rw [if_pos e.symm] at h2
    exact ⟨e, h1, h2⟩
  · rw [if_neg e] at h1
    rw [if_neg (fun z => e z.symm)] at h2
    exact absurd (LO.tri _ _ h1 h2) e
end
section
variable {α : Type} [DecidableEq α] [DatumOrd α] [LO α] {β : Type} [DecidableEq β] [DatumOrd β] [LO β] {γ : Type} [DecidableEq γ] [DatumOrd γ] [LO γ] {δ : Type} [DecidableEq δ] [DatumOrd δ] [LO δ]
theorem lt3_eq (p q : T3 α β γ) : DatumOrd.lt p q = if p.a = q.a then (if p.b = q.b then (DatumOrd.lt p.c q.c) else DatumOrd.lt p.b q.b) else DatumOrd.lt p.a q.a := rfl
theorem lt4_eq (p q : T4 α β γ δ) : DatumOrd.lt p q = if p.a = q.a then (if p.b = q.b then (if p.c = q.c then (DatumOrd.lt p.d q.d) else DatumOrd.lt p.c q.c) else DatumOrd.lt p.b q.b) else DatumOrd.lt p.a q.a := rfl
instance : LO (T3 α β γ) where
  irr a := by rw [lt3_eq, if_pos rfl, if_pos rfl, LO.irr]
  tr a b c h1 h2 := by
    rw [lt3_eq] at h1 h2 ⊢
    exact lex_tr (β := α) h1 h2 fun _ _ h1 h2 => lex_tr (β := α) h1 h2 fun _ _ h1 h2 => LO.tr _ _ _ h1 h2
  tri a b h1 h2 := by
    rw [lt3_eq] at h1 h2
    obtain ⟨e1, h1, h2⟩ := lex_tri h1 h2
    obtain ⟨e2, h1, h2⟩ := lex_tri h1 h2
    have e3 := LO.tri _ _ h1 h2
    cases a; cases b
    dsimp only at e1 e2 e3
    rw [e1, e2, e3]
instance : LO (T4 α β γ δ) where
  irr a := by rw [lt4_eq, if_pos rfl, if_pos rfl, if_pos rfl, LO.irr]
  tr a b c h1 h2 := by
    rw [lt4_eq] at h1 h2 ⊢
    exact lex_tr (β := α) h1 h2 fun _ _ h1 h2 => lex_tr (β := α) h1 h2 fun _ _ h1 h2 => lex_tr (β := α) h1 h2 fun _ _ h1 h2 => LO.tr _ _ _ h1 h2
  tri a b h1 h2 := by
    rw [lt4_eq] at h1 h2
    obtain ⟨e1, h1, h2⟩ := lex_tri h1 h2
    obtain ⟨e2, h1, h2⟩ := lex_tri h1 h2
    obtain ⟨e3, h1, h2⟩ := lex_tri h1 h2
    have e4 := LO.tri _ _ h1 h2
    cases a; cases b
    dsimp only at e1 e2 e3 e4
    rw [e1, e2, e3, e4]
theorem listLt_irr : ∀ xs : List α, listLt xs xs = false
  | [] => rfl
  | x :: xs => by
    unfold listLt
    rw [if_pos rfl]
    exact listLt_irr xs
theorem listLt_tr : ∀ xs ys zs : List α, listLt xs ys = true → listLt ys zs = true → listLt xs zs = true
  | [], [], _, h, _ => by cases h
  | [], _ :: _, [], _, h => by cases h
  | [], _ :: _, _ :: _, _, _ => rfl
  | _ :: _, [], _, h, _ => by cases h
  | _ :: _, _ :: _, [], _, h => by cases h
  | x :: xs, y :: ys, z :: zs, h1, h2 => by
    unfold listLt at h1 h2 ⊢
    exact lex_tr (β := α) h1 h2 fun _ _ h1 h2 => listLt_tr xs ys zs h1 h2
theorem listLt_tri : ∀ xs ys : List α, listLt xs ys = false → listLt ys xs = false → xs = ys
  | [], [], _, _ => rfl
  | [], _ :: _, h, _ => by cases h
  | _ :: _, [], _, h => by cases h
  | x :: xs, y :: ys, h1, h2 => by
    unfold listLt at h1 h2
    obtain ⟨e1, h1, h2⟩ := lex_tri h1 h2
    rw [e1, listLt_tri xs ys h1 h2]
instance : LO (Tup α) where
  irr a := listLt_irr _
  tr a b c h1 h2 := listLt_tr _ _ _ h1 h2
  tri a b h1 h2 := by
    have e := listLt_tri _ _ h1 h2
    cases a; cases b
    dsimp only at e
    rw [e]
end
section
variable {α : Type} [DecidableEq α] [DatumOrd α] [LO α]
theorem leO_tot (a b : α) : (leO a b || leO b a) = true := by
  unfold leO
  cases h : DatumOrd.lt b a with
  | false => rfl
  | true => rw [lt_asym h]; rfl
theorem leO_iff {a b : α} : leO a b = true ↔ a = b ∨ DatumOrd.lt a b = true := by
  unfold leO
  constructor
  · intro h
    cases q : DatumOrd.lt a b with
    | true => exact .inr rfl
    | false =>
      cases q2 : DatumOrd.lt b a with
      | true => rw [q2] at h; cases h
      | false => exact .inl (LO.tri _ _ q q2)
  · rintro (h | h)
    · rw [h, LO.irr]; rfl
    · rw [lt_asym h]; rfl
theorem leO_tr (a b c : α) (h1 : leO a b = true) (h2 : leO b c = true) : leO a c = true := by
  rw [leO_iff] at h1 h2 ⊢
  rcases h1 with rfl | h1
  · exact h2
  · rcases h2 with rfl | h2
    · exact .inr h1
    · exact .inr (LO.tr _ _ _ h1 h2)
theorem leO_anti {a b : α} (h1 : leO a b = true) (h2 : leO b a = true) : a = b := by
  rw [leO_iff] at h1 h2
  rcases h1 with h1 | h1
  · exact h1
  · rcases h2 with h2 | h2
    · exact h2.symm
    · rw [lt_asym h1] at h2; cases h2
theorem leO_refl (a : α) : leO a a = true := leO_iff.mpr (.inl rfl)
theorem sortO_pw (xs : List α) : (sortO xs).Pairwise fun a b => leO a b = true := List.pairwise_mergeSort leO_tr leO_tot xs
theorem sortO_perm (xs : List α) : (sortO xs).Perm xs := List.mergeSort_perm xs leO
theorem sorted_eq : ∀ {xs ys : List α}, xs.Pairwise (fun a b => leO a b = true) → ys.Pairwise (fun a b => leO a b = true) → xs.Perm ys → xs = ys
  | [], ys, _, _, p => (List.nil_perm.mp p).symm
  | x :: xs, [], _, _, p => absurd p.length_eq (by simp)
  | x :: xs, y :: ys, h1, h2, p => by
    obtain ⟨a1, b1⟩ := List.pairwise_cons.mp h1
    obtain ⟨a2, b2⟩ := List.pairwise_cons.mp h2
    have e : x = y := by
      have hx : x ∈ y :: ys := p.mem_iff.mp List.mem_cons_self
      have hy : y ∈ x :: xs := p.mem_iff.mpr List.mem_cons_self
      rcases List.mem_cons.mp hx with q | q
      · exact q
      · rcases List.mem_cons.mp hy with q2 | q2
        · exact q2.symm
        · exact leO_anti (a1 _ q2) (a2 _ q)
    subst e
    rw [sorted_eq b1 b2 (List.Perm.cons_inv p)]
theorem sortO_of {xs ys : List α} (p : xs.Perm ys) : sortO xs = sortO ys := sorted_eq (sortO_pw _) (sortO_pw _) ((sortO_perm xs).trans (p.trans (sortO_perm ys).symm))
theorem sortO_is {xs ys : List α} (p : ys.Perm xs) (h : ys.Pairwise fun a b => leO a b = true) : sortO xs = ys := sorted_eq (sortO_pw _) h ((sortO_perm xs).trans p.symm)
theorem sortO_self {xs : List α} (h : xs.Pairwise fun a b => leO a b = true) : sortO xs = xs := sortO_is (List.Perm.refl _) h
theorem mem_sortO {xs : List α} {x : α} : x ∈ sortO xs ↔ x ∈ xs := (sortO_perm xs).mem_iff
theorem length_sortO (xs : List α) : (sortO xs).length = xs.length := (sortO_perm xs).length_eq
/-- strictly ascending -/
abbrev Asc (xs : List α) : Prop := xs.Pairwise fun a b => DatumOrd.lt a b = true
theorem Asc.nodup {xs : List α} (h : Asc xs) : xs.Nodup := List.Pairwise.imp (fun h => lt_ne h) h
theorem Asc.le {xs : List α} (h : Asc xs) : xs.Pairwise fun a b => leO a b = true := List.Pairwise.imp (fun h => leO_iff.mpr (.inr h)) h
theorem asc_of {xs : List α} (h : xs.Pairwise fun a b => leO a b = true) (nd : xs.Nodup) : Asc xs :=
  List.Pairwise.imp₂ (fun a b h1 h2 => (leO_iff.mp h1).resolve_left h2) h nd
theorem asc_sort {xs : List α} (nd : xs.Nodup) : Asc (sortO xs) := asc_of (sortO_pw xs) ((sortO_perm xs).nodup_iff.mpr nd)
/-- two ascending lists of the same members are one -/
theorem asc_ext {xs ys : List α} (h1 : Asc xs) (h2 : Asc ys) (h : ∀ x, x ∈ xs ↔ x ∈ ys) : xs = ys := sorted_eq h1.le h2.le ((List.perm_ext_iff_of_nodup h1.nodup h2.nodup).mpr h)
end
end Bx
set_option Elab.async false
set_option linter.all false
set_option maxRecDepth 100000
/-! C0: the words of the matter, in plain Lean. -/
namespace Bx
open PySem
open PySem.W (Datum DatumOrd T3 T4 Tup)
/-- without what comes again -/
def dd {α : Type} [DecidableEq α] : List α → List α
  | [] => []
  | x :: xs => if x ∈ xs then dd xs else x :: dd xs
theorem mem_dd {α : Type} [DecidableEq α] {x : α} : ∀ {xs : List α}, x ∈ dd xs ↔ x ∈ xs
  | [] => Iff.rfl
  | y :: xs => by
    unfold dd
    by_cases h : y ∈ xs
    · rw [if_pos h, mem_dd, List.mem_cons]
      exact ⟨.inr, fun q => q.elim (fun e => e ▸ h) id⟩
    · rw [if_neg h, List.mem_cons, List.mem_cons, mem_dd]
theorem nodup_dd {α : Type} [DecidableEq α] : ∀ xs : List α, (dd xs).Nodup
  | [] => .nil
  | y :: xs => by
    unfold dd
    by_cases h : y ∈ xs
    · rw [if_pos h]; exact nodup_dd xs
    · rw [if_neg h]; exact List.nodup_cons.mpr ⟨fun q => h (mem_dd.mp q), nodup_dd xs⟩
theorem dd_self {α : Type} [DecidableEq α] : ∀ {xs : List α}, xs.Nodup → dd xs = xs
  | [], _ => rfl
  | y :: xs, h => by
    obtain ⟨h1, h2⟩ := List.nodup_cons.mp h
    unfold dd
    rw [if_neg h1, dd_self h2]
theorem nodup_len {α : Type} [DecidableEq α] : ∀ {l m : List α}, l.Nodup → (∀ x ∈ l, x ∈ m) → l.length ≤ m.length
  | [], _, _, _ => Nat.zero_le _
  | x :: l, m, nd, sub => by
    obtain ⟨nx, nd⟩ := List.nodup_cons.mp nd
    have hx := sub x List.mem_cons_self
    have := nodup_len (m := m.erase x) nd fun y hy => (List.mem_erase_of_ne (fun e : y = x => nx (e ▸ hy))).mpr (sub y (List.mem_cons_of_mem _ hy))
    rw [List.length_erase_of_mem hx] at this
    have hp : 0 < m.length := List.length_pos_of_mem hx
    rw [List.length_cons]
    omega
theorem dd_len {α : Type} [DecidableEq α] (xs : List α) : (dd xs).length ≤ xs.length := nodup_len (nodup_dd xs) fun _ h => mem_dd.mp h
theorem dd_le {α : Type} [DecidableEq α] {xs ys : List α} (h : ∀ x ∈ xs, x ∈ ys) : (dd xs).length ≤ (dd ys).length := nodup_len (nodup_dd xs) fun x hx => mem_dd.mpr (h x (mem_dd.mp hx))
/-- nodup, as the length of the set tells it -/
theorem dd_len_iff {α : Type} [DecidableEq α] : ∀ {xs : List α}, (dd xs).length = xs.length ↔ xs.Nodup
  | [] => ⟨fun _ => .nil, fun _ => rfl⟩
  | x :: xs => by
    rw [List.nodup_cons]
    unfold dd
    by_cases h : x ∈ xs
    · rw [if_pos h]
      have := dd_len xs
      rw [List.length_cons]
      exact ⟨fun e => by omega, fun e => absurd h e.1⟩
    · rw [if_neg h, List.length_cons, List.length_cons]
      rw [← dd_len_iff (xs := xs)]
      exact ⟨fun e => ⟨h, by omega⟩, fun e => by rw [e.2]⟩

def sg (c : Nat) : Str := ⟨#[c]⟩
def letters : List Str := ["a", "b", "c", "d", "e", "f", "g", "h"]
structure WfB (t : Bond) : Prop where
  a : t.a ∈ letters
  c : t.c ∈ letters
  b : t.b = "r" ∨ t.b = "s"
  d : t.d = "r" ∨ t.d = "s"
  ne : t.a ≠ t.c
theorem letter_sg {x : Str} (h : x ∈ letters) : ∃ c, x = sg c ∧ c ∈ ("abcdefgh" : Str).cps.toList := by
  simp only [letters, List.mem_cons, List.not_mem_nil, or_false] at h
  rcases h with rfl | rfl | rfl | rfl | rfl | rfl | rfl | rfl
  · exact ⟨97, by decide, by decide⟩
  · exact ⟨98, by decide, by decide⟩
  · exact ⟨99, by decide, by decide⟩
  · exact ⟨100, by decide, by decide⟩
  · exact ⟨101, by decide, by decide⟩
  · exact ⟨102, by decide, by decide⟩
  · exact ⟨103, by decide, by decide⟩
  · exact ⟨104, by decide, by decide⟩
/-- the names a pattern speaks of, as they come -/
def flatN (P : List Bond) : List Str := P.flatMap fun b => [b.a, b.c]
def namesM (P : List Bond) : List Str := sortO (dd (flatN P))
structure PatOk (P : List Bond) : Prop where
  ne : P ≠ []
  asc : Asc P
  wf : ∀ b ∈ P, WfB b
  few : P.length ≤ 8
  names : (dd (flatN P)).length ≤ 5
def turnB (near far : Bond) : Bool := decide (near.d = "r") && decide (far.b = "s")
def turnI (near far : Bond) : Int := if turnB near far = true then 1 else 0
/-- r, one step on -/
def rot1 (r : List Bond) : List Bond := r.tail ++ r.head?.toList
def stepsM (r : List Bond) : List (Bond × Bond) := r.zip (rot1 r)
def ringN (r : List Bond) : List Str := r.map (·.a)
def turnsM (r : List Bond) : Int := ((stepsM r).map fun p => turnI p.1 p.2).sum
def turnNamesM (r : List Bond) : List Str := sortO (((stepsM r).filter fun p => decide (turnI p.1 p.2 = 1)).map fun p => p.2.a)
def roundM (r : List Bond) : Bool := (stepsM r).all (fun p => decide (p.1.c = p.2.a)) && decide ((dd (ringN r)).length = r.length)
def othE (e : Str) : Str := if e = "r" then "s" else "r"
def flipB (b : Bond) : Bond := ⟨b.c, othE b.d, b.a, othE b.b⟩
def turnedM (P : List Bond) : List Bond := sortO (P.map flipB)
theorem rot1_len (r : List Bond) : (rot1 r).length = r.length := by
  cases r with
  | nil => rfl
  | cons x r => simp [rot1]
theorem stepsM_len (r : List Bond) : (stepsM r).length = r.length := by unfold stepsM; rw [List.length_zip, rot1_len, Nat.min_self]
def rnM (ps : List (Str × Str)) (x : Str) : Str := ((ps.find? fun p => decide (p.1 = x)).map (·.2)).getD x
def renB (ps : List (Str × Str)) (b : Bond) : Bond := ⟨rnM ps b.a, b.b, rnM ps b.c, b.d⟩
def renamedM (P : List Bond) (ps : List (Str × Str)) : List Bond := sortO (P.map (renB ps))
theorem flatN_len (P : List Bond) : (flatN P).length = 2 * P.length := by
  induction P with
  | nil => rfl
  | cons b P ih =>
    unfold flatN at ih ⊢
    rw [List.flatMap_cons, List.length_append, ih]
    simp only [List.length_cons, List.length_nil]
    omega
theorem namesM_mem {P : List Bond} {x : Str} : x ∈ namesM P ↔ ∃ b ∈ P, x = b.a ∨ x = b.c := by
  unfold namesM flatN
  rw [mem_sortO, mem_dd, List.mem_flatMap]
  constructor
  · rintro ⟨b, hb, h⟩
    simp only [List.mem_cons, List.not_mem_nil, or_false] at h
    exact ⟨b, hb, h⟩
  · rintro ⟨b, hb, h⟩
    exact ⟨b, hb, by simpa using h⟩
theorem namesM_nodup (P : List Bond) : (namesM P).Nodup := (sortO_perm _).nodup_iff.mpr (nodup_dd _)
theorem namesM_len (P : List Bond) : (namesM P).length = (dd (flatN P)).length := length_sortO _
end Bx
set_option Elab.async false
set_option linter.all false
set_option maxRecDepth 100000
set_option maxHeartbeats 4000000
namespace Bx
open PySem PySem.Spec PyProof.Rows L2
open PySem.W (Datum DatumOrd Holds HoldAll T3 T4 Tup)
section
variable {P : Program} {w : World} {K : PySem.W.Frag} {mg : Str → Option Value} {base : Heap}
abbrev spTurning : Sp := spY (fun (y : Bond × Bond) vs H => ∃ a b, vs = [a, b] ∧ HD H a y.1 ∧ HD H b y.2) fun y => .i (turnI y.1 y.2)
theorem ok_turning (T : Txt K mg) : Dfn P w K mg base 2 "turning" ["near", "far"] spTurning := by
  refine dfn_of T.h_turning sc_turning (fun vs H Q E h => ?_) (fun f cdv A outer s H vs Q E hr h => ?_)
  · obtain ⟨_, ⟨_, _, rfl, _⟩, _⟩ := h; rfl
  · obtain ⟨⟨b1, b2⟩, ⟨a, b, rfl, ha, hb⟩, q⟩ := h
    have hu := hr.units
    obtain ⟨t1, c1⟩ := T.c_LAST
    obtain ⟨t2, c2⟩ := T.c_FIRST
    refine wb_one (ws_ret (r := .i _) (pv_intB T.b_int (pv_a (pv_eqT (α := Str) (pv_ixD (pv_dat 0 rfl ha) pv_int rfl) (pv_gstr c1)) fun _ => pv_one (pv_eqT (α := Str) (pv_ixD (pv_dat 1 rfl hb) pv_int rfl) (pv_gstr c2)))) q)
end
end Bx
set_option Elab.async false
set_option linter.all false
set_option maxRecDepth 100000
set_option maxHeartbeats 4000000
namespace Bx
open PySem PySem.Spec PyProof.Rows L2
open PySem.W (Datum DatumOrd Holds HoldAll T3 T4 Tup)
section
variable {P : Program} {w : World} {K : PySem.W.Frag} {mg : Str → Option Value} {base : Heap}
/-! ### tupled -/
/-- tuples nested at most n deep -/
def flatTo : Nat → PyData → Prop
  | _, .none => True
  | _, .bool _ => True
  | _, .int _ => True
  | _, .str _ => True
  | 0, .tuple _ => False
  | n + 1, .tuple ds => (∀ d ∈ ds, flatTo n d) ∧ ds.length ≤ 1000
  | _, _ => False
abbrev spTupled (n : Nat) : Sp := spY (fun (d : PyData) vs H => (∃ v, vs = [v] ∧ DI H v d) ∧ flatTo n d) fun d => .d d
theorem kit_lt {T : String} (h1 : kitB T "list" = some false) (h2 : kitB T "tuple" = some false) : kitB T "list" = some false ∧ kitB T "tuple" = some false := ⟨h1, h2⟩
theorem ok_tupled (T : Txt K mg) : ∀ n, Dfn P w K mg base (n + 1) "tupled" ["thing"] (spTupled n) := by
  intro n
  induction n with
  | zero =>
    refine dfn_of T.h_tupled sc_tupled (fun vs H Q E h => ?_) (fun f cdv A outer s H vs Q E hr h => ?_)
    · obtain ⟨_, ⟨⟨_, rfl, _⟩, _⟩, _⟩ := h; rfl
    · obtain ⟨d, ⟨⟨v, rfl, hv⟩, hd⟩, q⟩ := h
      have go : ∀ T', tyN d = T' → kitB T' "list" = some false → kitB T' "tuple" = some false → WB (cxOf CX0 P w K mg base N_tupled "tupled" (defScope st_tupled) f cdv A outer s H E).nox (defBody st_tupled) { nx := fun _ H' => Q .non H', rt := Q } (start N_tupled [v]) H := fun T' e k1 k2 =>
        wb_one (ws_ret (r := .d d) (pv_ifE (pb_val (pv_isi2 T.b_isinstance T.b_list T.b_tuple (pv_dat 0 rfl hv) (e ▸ tyr_d) k1 k2 bt_list bt_tuple)) (fun z => nomatch z) fun _ => pv_dat 0 rfl hv) q)
      cases d with
      | none => exact go "NoneType" rfl (by decide +kernel) (by decide +kernel)
      | bool b => exact go "bool" rfl (by decide +kernel) (by decide +kernel)
      | int i => exact go "int" rfl (by decide +kernel) (by decide +kernel)
      | str x => exact go "str" rfl (by decide +kernel) (by decide +kernel)
      | tuple ds => exact hd.elim
      | list ds => exact hd.elim
      | dict ds => exact hd.elim
  | succ n ih =>
    refine dfn_of T.h_tupled sc_tupled (fun vs H Q E h => ?_) (fun f cdv A outer s H vs Q E hr h => ?_)
    · obtain ⟨_, ⟨⟨_, rfl, _⟩, _⟩, _⟩ := h; rfl
    · obtain ⟨d, ⟨⟨v, rfl, hv⟩, hd⟩, q⟩ := h
      have go : ∀ T', tyN d = T' → kitB T' "list" = some false → kitB T' "tuple" = some false → WB (cxOf CX0 P w K mg base N_tupled "tupled" (defScope st_tupled) f cdv A outer s H E).nox (defBody st_tupled) { nx := fun _ H' => Q .non H', rt := Q } (start N_tupled [v]) H := fun T' e k1 k2 =>
        wb_one (ws_ret (r := .d d) (pv_ifE (pb_val (pv_isi2 T.b_isinstance T.b_list T.b_tuple (pv_dat 0 rfl hv) (e ▸ tyr_d) k1 k2 bt_list bt_tuple)) (fun z => nomatch z) fun _ => pv_dat 0 rfl hv) q)
      cases d with
      | none => exact go "NoneType" rfl (by decide +kernel) (by decide +kernel)
      | bool b => exact go "bool" rfl (by decide +kernel) (by decide +kernel)
      | int i => exact go "int" rfl (by decide +kernel) (by decide +kernel)
      | str x => exact go "str" rfl (by decide +kernel) (by decide +kernel)
      | list ds => exact hd.elim
      | dict ds => exact hd.elim
      | tuple ds =>
        refine wb_one (ws_ret (r := .d (.tuple ds)) (pv_ifE (pb_val (pv_isi2 (k := false) (k' := true) T.b_isinstance T.b_list T.b_tuple (pv_dat 0 rfl hv) (T := "tuple") tyr_d kb_tuple_list kb_tuple_tuple bt_list bt_tuple)) (fun _ => ?_) fun z => nomatch z) q)
        refine pv_tupleN T.b_tuple ?_
        have e : ds.map (fun d => d) = ds := List.map_id _
        refine PV.is (r := .l (ds.map fun d => d)) ?_ (by rw [e])
        exact pv_lc0 (xs := ds) (enc := fun d => d) (f := fun d => d) rfl sc_tupled.nd (PIt.weak (pit_tup (PV.is (pv_dat 0 rfl hv) (by rw [e])))) (blkOk_by (own := [("own", 1)]) rfl) (fun _ _ _ _ _ => pg_name (i := 1) sc_tupled.nd rfl (Or.inl rfl))
          (Nat.le_trans hd.2 (by decide)) (fun d v' H1 hd1 h1 dv => gto_name ⟨rfl, fun s0 H0 C cl fp => pv_call ih hr (pas_cons (pv_dat 1 rfl dv) pas_nil) d fun H0 H' vs s0 s1 pr => ⟨by
            obtain ⟨u, rfl, pu⟩ := rsl1 pr
            exact ⟨u, rfl, pu⟩, hd.1 d hd1⟩⟩)
end
end Bx
set_option Elab.async false
set_option linter.all false
set_option maxRecDepth 100000
set_option maxHeartbeats 2000000
/-! Z0: list(..), tuple(..) of an iterator that makes new things: zip. -/
namespace Bx
open PySem PySem.Spec PyProof.Rows L2
abbrev ZipO (h : Heap) (z TI TO : Addr) (f0 : Value) (b : Bool) : Prop := h.get? z = some { cls := .type "zip", dict := none, data := .fields #[f0, .bool b, .bool false, .ref TI, .ref TO], slots := #[] }
section
variable {prog : Program} {w : World} {A : Around} {E : Value → Shared → Prop} {s : Shared} {z TI TO i1 i2 : Addr} {fp1 fp2 : List Addr} {n1 n2 i : Nat} {P1 P2 : Nat → Value → Prop} {St1 St2 : Nat → Heap → Prop} {a1 a2 : Value}
theorem owned_no {T : Addr} {b : Bool} {oT : Obj} {Q : Bool → Shared → Prop} (hz : ZipO s.heap z TI TO (rawInt T) b) (hT : s.heap.get? T = some oT)
    (q : ∀ h', ZipO h' z TI TO (rawInt T) true → Heap.SameBut z s.heap h' → Q false { s with heap := h' }) : wpAny (model prog w) A (Builtin.SmallTypes.ownedTupleIsFree (.ref z)) Q E s := by
  unfold Builtin.SmallTypes.ownedTupleIsFree
  refine wpAny_bind (wpAny_field hz rfl (x := rawInt T) rfl ?_)
  show wpAny _ _ (loadIfAlive ((T : Int).toNat) >>= _) _ _ _
  rw [Int.toNat_natCast]
  refine wpAny_bind (PySem.W.kdx_alive hT ?_)
  simp only [Option.isNone_some, Bool.false_eq_true, if_false]
  refine wpAny_bind (wpAny_field hz rfl (x := .bool b) rfl ?_)
  cases b with
  | true =>
    rw [if_neg (show ¬ ((Value.bool true != Value.bool true) = true) from Bool.false_ne_true)]
    exact wpAny_pure (q s.heap hz (Heap.SameBut.refl _ _))
  | false =>
    rw [if_pos (show (Value.bool false != Value.bool true) = true from rfl)]
    refine wpAny_bind (wpAny_setField_rec hz (by simp) fun h3 he3 hs3 => ?_)
    exact wpAny_pure (q h3 he3 hs3)
theorem zipO_item {T : Addr} {b : Bool} {oT : Obj} {Q : Option Value → Shared → Prop} (S : ZipSep2 z TI TO i1 i2 fp1 fp2) (D1 : Draws prog w A.in1 i1 fp1 n1 P1 St1) (D2 : Draws prog w A.in1 i2 fp2 n2 P2 St2)
    (hz : ZipO s.heap z TI TO (rawInt T) b) (hT : s.heap.get? T = some oT) (hTI : IsTupOf2 s.heap TI (.ref i1) (.ref i2)) (st1 : St1 i s.heap) (st2 : St2 i s.heap) (hlt1 : i < n1) (hlt2 : i < n2)
    (hQ : ∀ x1 x2 h' tk, P1 i x1 → P2 i x2 → ZipO h' z TI TO (rawInt T) true → St1 (i + 1) h' → St2 (i + 1) h' → IsTupOf2 h' s.heap.objs.size x1 x2 → h'.objs.size = s.heap.objs.size + 1 →
      (∀ c o, c ≠ z → c ≠ i1 → c ≠ i2 → s.heap.get? c = some o → h'.get? c = some o) → Q (some (.ref s.heap.objs.size)) { s with heap := h', toks := tk }) :
    wpAny (model prog w) A (pyNext (.ref z)) Q E s := by
  have hTy : s.TypeIs (.ref z) "zip" := ⟨_, hz, rfl⟩
  unfold pyNext
  refine wpAny_bind (wpAny_attempt (wpAny_callSpecial?_slot (name := Str.ofString "__next__") hTy PySem.F.slot_zip_next
    (wpAny_call_entry PySem.F.slot_zip_next hTy PySem.F.entry_zip_next ?_ (PySem.F.args_zip_next_1 _))))
  obtain ⟨hp, g, d, tk0, os⟩ := s
  show wpAny _ _ (field (.ref z) 2 >>= _) _ _ _
  refine wpAny_bind (wpAny_field hz rfl (x := .bool false) rfl ?_)
  show wpAny _ _ (field (.ref z) 3 >>= _) _ _ _
  refine wpAny_bind (wpAny_field hz rfl (x := .ref TI) rfl ?_)
  refine wpAny_bind (wpAny_seqItems hTI rfl ?_)
  show wpAny _ _ (Builtin.SmallTypes.ownedTupleIsFree (.ref z) >>= _) _ _ _
  refine wpAny_bind (owned_no (s := ⟨hp, g, d, tk0, os⟩) hz hT fun g0 hz0 hs0 => ?_)
  simp only [Bool.false_eq_true, if_false]
  replace hz0 : ZipO g0 z TI TO (rawInt T) true := hz0
  replace hs0 : Heap.SameBut z hp g0 := hs0
  refine wpAny_bind ?_
  first
  | rw [List.forIn_toArray]
  | (rw [← Array.forIn_toList]; simp only [List.toList_toArray])
  | rw [← Array.forIn_toList]
  simp only [List.forIn_cons, List.forIn_nil]
  refine wpAny_bind (wpAny_bind (wpAny_holding ?_))
  show wpAny _ _ (Builtin.SmallTypes.nextOf (.ref i1) >>= _) _ _ ⟨g0, g, d, tk0, os⟩
  refine wpAny_bind (D1.item i _ _ _ hlt1 (D1.over st1 hs0 S.zf1) fun x1 p1 tk1 hx1 sn1 hp1 => wpAny_pure ?_)
  replace hp1 : Heap.SameBut i1 g0 p1 := hp1
  refine wpAny_pure ?_
  refine wpAny_bind (wpAny_bind (wpAny_holding ?_))
  show wpAny _ _ (Builtin.SmallTypes.nextOf (.ref i2) >>= _) _ _ ⟨p1, g, d, tk1, os⟩
  refine wpAny_bind (D2.item i _ _ _ hlt2 (D2.over (D2.over st2 hs0 S.zf2) hp1 S.sep1_2) fun x2 p2 tk2 hx2 sn2 hp2 => wpAny_pure ?_)
  replace hp2 : Heap.SameBut i2 p1 p2 := hp2
  refine wpAny_pure (wpAny_pure ?_)
  dsimp only
  refine wpAny_bind (wpAny_newTuple (hsz := by show 2 ≤ sizeLine; decide) ?_)
  have hsz : p2.objs.size = hp.objs.size := by rw [hp2.1, hp1.1, hs0.1]
  have up : ∀ c o, p2.get? c = some o → (p2.push { cls := .type "tuple", data := .seq #[x1, x2] }).get? c = some o := fun c o e => Heap.get?_push_of_some _ e
  refine wpAny_pure ⟨_, rfl, wpAny_pure ?_⟩
  show Q (some (.ref p2.objs.size)) _
  rw [hsz]
  refine hQ x1 x2 (p2.push { cls := .type "tuple", data := .seq #[x1, x2] }) tk2 hx1 hx2 (up _ _ (hp2.extBut _ _ S.zi2 (hp1.extBut _ _ S.zi1 hz0))) (D1.frame _ _ _ (D1.over sn1 hp2 S.sep2_1) fun c _ o e => up c o e) (D2.frame _ _ _ sn2 fun c _ o e => up c o e) (by rw [← hsz]; exact Heap.get?_push_size _ rfl) (by rw [Heap.size_push, hsz]) fun c o c0 c1 c2 e => up c o (hp2.extBut _ _ c2 (hp1.extBut _ _ c1 (hs0.extBut _ _ c0 e)))
theorem zipO_end {T : Addr} {b : Bool} {oT : Obj} {Q : Option Value → Shared → Prop} (S : ZipSep2 z TI TO i1 i2 fp1 fp2) (D1 : Draws prog w A.in1 i1 fp1 n1 P1 St1)
    (hz : ZipO s.heap z TI TO (rawInt T) b) (hT : s.heap.get? T = some oT) (hTI : IsTupOf2 s.heap TI (.ref i1) (.ref i2)) (st1 : St1 n1 s.heap)
    (hQ : ∀ h' tk, (∀ c o, c ≠ z → c ≠ i1 → c ≠ i2 → s.heap.get? c = some o → h'.get? c = some o) → Q none { s with heap := h', toks := tk }) :
    wpAny (model prog w) A (pyNext (.ref z)) Q E s := by
  have hTy : s.TypeIs (.ref z) "zip" := ⟨_, hz, rfl⟩
  unfold pyNext
  refine wpAny_bind (wpAny_attempt (wpAny_callSpecial?_slot (name := Str.ofString "__next__") hTy PySem.F.slot_zip_next
    (wpAny_call_entry PySem.F.slot_zip_next hTy PySem.F.entry_zip_next ?_ (PySem.F.args_zip_next_1 _))))
  obtain ⟨hp, g, d, tk0, os⟩ := s
  show wpAny _ _ (field (.ref z) 2 >>= _) _ _ _
  refine wpAny_bind (wpAny_field hz rfl (x := .bool false) rfl ?_)
  show wpAny _ _ (field (.ref z) 3 >>= _) _ _ _
  refine wpAny_bind (wpAny_field hz rfl (x := .ref TI) rfl ?_)
  refine wpAny_bind (wpAny_seqItems hTI rfl ?_)
  show wpAny _ _ (Builtin.SmallTypes.ownedTupleIsFree (.ref z) >>= _) _ _ _
  refine wpAny_bind (owned_no (s := ⟨hp, g, d, tk0, os⟩) hz hT fun g0 hz0 hs0 => ?_)
  simp only [Bool.false_eq_true, if_false]
  replace hs0 : Heap.SameBut z hp g0 := hs0
  refine wpAny_bind ?_
  first
  | rw [List.forIn_toArray]
  | (rw [← Array.forIn_toList]; simp only [List.toList_toArray])
  | rw [← Array.forIn_toList]
  simp only [List.forIn_cons, List.forIn_nil]
  refine wpAny_bind (wpAny_bind (wpAny_holding ?_))
  show wpAny _ _ (Builtin.SmallTypes.nextOf (.ref i1) >>= _) _ _ ⟨g0, g, d, tk0, os⟩
  refine wpAny_bind (D1.done ⟨g0, g, d, tk0, os⟩ _ _ (D1.over st1 hs0 S.zf1) fun q e hq he => ?_)
  replace hq : Heap.ExtBut i1 g0 q := hq
  obtain ⟨o, ho, hc⟩ := he
  refine wpAny_bind (wpAny_isInstance (T := "StopIteration") (b := true) ⟨o, ho, hc⟩ isSubtype_stop ?_)
  exact wpAny_pure (hQ _ _ fun c o c0 c1 c2 e => hq _ _ c1 (hs0.extBut _ _ c0 e))
end

/-! ### a list S that takes up what the iterator I gives -/
structure Feed (prog : Program) (w : World) (A : Around) (I S : Addr) (n : Nat) (s : Shared) (J D : List Value → Heap → Prop) : Prop where
  up : ∀ us h f, J us h → J us (h.update S f)
  item : ∀ us h tk (Q : Option Value → Shared → Prop) (E : Value → Shared → Prop), us.length < n → J us h → (∀ v h' tk', J (us ++ [v]) h' → (∀ o, h.get? S = some o → h'.get? S = some o) → Q (some v) { s with heap := h', toks := tk' }) → wpAny (model prog w) A (pyNext (.ref I)) Q E { s with heap := h, toks := tk }
  done : ∀ us h tk (Q : Option Value → Shared → Prop) (E : Value → Shared → Prop), us.length = n → J us h → (∀ h' tk', D us h' → (∀ o, h.get? S = some o → h'.get? S = some o) → Q none { s with heap := h', toks := tk' }) → wpAny (model prog w) A (pyNext (.ref I)) Q E { s with heap := h, toks := tk }
abbrev lstO (us : List Value) (c : Nat) : Obj := { cls := .type "list", dict := none, data := .seq us.toArray c, slots := #[] }
section
variable {prog : Program} {w : World} {A : Around} {s : Shared} {I S : Addr} {n : Nat} {J D : List Value → Heap → Prop} {R : Result → Shared → Prop}
theorem feed_loop (F : Feed prog w A.in1 I S n s J D) (hn : n ≤ sizeLine) (res : Value) (hR : ∀ us h tk c, D us h → h.get? S = some (lstO us c) → us.length = n → R (.ok (.ret res)) { s with heap := h, toks := tk }) :
    ∀ k us h tk c, n - us.length = k → us.length ≤ n → J us h → h.get? S = some (lstO us c) → codeAny (model prog w) A (.builtin "list.extend.loop" ⟨[.ref S, .ref I, res], []⟩) R { s with heap := h, toks := tk }
  | 0, us, h, tk, c, hk, hi, hJ, hS => by
    refine codeAny_builtin PySem.F.entry_extend_loop ?_
    rw [Around.under_plainId PySem.F.plain_extend_loop _]
    show wpAny _ A.in1 (pyNext (.ref I) >>= _) _ _ _
    exact wpAny_bind (F.done us h tk _ _ (by omega) hJ fun h' tk' hD hk' => wpAny_pure (hR us h' tk' c hD (hk' _ hS) (by omega)))
  | k + 1, us, h, tk, c, hk, hi, hJ, hS => by
    refine codeAny_builtin PySem.F.entry_extend_loop ?_
    rw [Around.under_plainId PySem.F.plain_extend_loop _]
    show wpAny _ A.in1 (pyNext (.ref I) >>= _) _ _ _
    refine wpAny_bind (F.item us h tk _ _ (by omega) hJ fun v h' tk' hJ' hk' => ?_)
    have hS' := hk' _ hS
    have hz : us.toArray.size = us.length := List.size_toArray ..
    show wpAny _ A.in1 (updateSeq S (·.push v) >>= _) _ _ _
    refine wpAny_bind ?_
    refine wpAny_updateSeq hS' rfl (wpAny_pure ⟨plainId_quiet PySem.F.plain_extend_loop _, feed_loop F hn res hR k (us ++ [v]) _ tk' (c + 1) (by rw [List.length_append, List.length_singleton]; omega) (by rw [List.length_append, List.length_singleton]; omega) (F.up _ _ _ hJ') ?_⟩) (by rw [hz]; omega) (by show (us.toArray.push v).size ≤ sizeLine + 1; rw [Array.size_push, hz]; omega)
    rw [Heap.get?_update_self _ hS' rfl]
    simp [Obj.mapSeq]
/-- the whole of extend, where the iterator has no length and no hint -/
theorem feed_extend {T : String} (hl : typeLookup (.type T) "__len__" = pure none) (hn0 : typeLookup (.type T) "__length_hint__" = pure none) (h2 : (Value.type T == Value.type "list") = false) (h3 : (Value.type T == Value.type "tuple") = false)
    (F : Feed prog w A.in1 I S n s J D) (hn : n ≤ sizeLine) (hT : ∀ us h, J us h → ∃ o, h.get? I = some o ∧ o.cls = .type T) (hself : ∀ us h tk (Q : Value → Shared → Prop) (E : Value → Shared → Prop), J us h → Q (.ref I) { s with heap := h, toks := tk } → wpAny (model prog w) A.in1 (pyIter (.ref I)) Q E { s with heap := h, toks := tk })
    (hSI : S ≠ I) (res : Value) {h : Heap} {tk c0 : Nat} (h0 : J [] h) (hS : h.get? S = some (lstO [] c0)) (hR : ∀ us h tk c, D us h → h.get? S = some (lstO us c) → us.length = n → R (.ok (.ret res)) { s with heap := h, toks := tk }) :
    wpAny (model prog w) A.in1 (Builtin.List.listExtendWith (.ref S) (.ref I) res)
      (fun fin s' => match fin with | .done f => R (.ok f) s' | .again c' => c'.quiet = true ∧ codeAny (model prog w) A c' R s') (fun e s' => R (.error e) s') { s with heap := h, toks := tk } := by
  obtain ⟨o, ho, hc⟩ := hT _ _ h0
  have hTy : Shared.TypeIs { s with heap := h, toks := tk } (.ref I) T := ⟨o, ho, hc⟩
  unfold Builtin.List.listExtendWith
  refine wpAny_bind (wpAny_typeOf hTy ?_)
  have h1 : Builtin.List.listSameRef (.ref S) (.ref I) = false := by simp [Builtin.List.listSameRef, hSI]
  simp only [h1, h2, h3, Bool.or_false, Bool.false_eq_true, if_false]
  refine wpAny_bind (hself _ _ _ _ _ h0 ?_)
  refine wpAny_bind (wpAny_holding ?_)
  unfold Builtin.List.listLengthHint
  refine wpAny_bind (wpAny_specialOf hTy hl ?_)
  show wpAny _ A.in1 (specialOf (Value.ref I) (Str.ofString "__length_hint__") >>= _) _ _ _
  refine wpAny_bind (wpAny_specialOf hTy hn0 ?_)
  refine wpAny_pure ?_
  show wpAny _ A.in1 (rule "list.extend.makes-room" >>= fun _ => Builtin.List.listTouch (.ref S) >>= fun _ => again (.builtin "list.extend.loop" ⟨[.ref S, .ref I, res], []⟩)) _ _ _
  refine wpAny_bind (wpAny_rule ?_)
  refine wpAny_bind ?_
  show wpAny _ A.in1 (updateSeq S (·.push .none) >>= fun _ => updateSeq S (·.pop)) _ _ _
  refine wpAny_bind (wpAny_updateSeq hS rfl ?_)
  have hS2 := Heap.get?_update_self (Obj.mapSeq (·.push Value.none)) hS rfl
  refine wpAny_updateSeq (hz := by seq_fits) hS2 rfl ?_
  have hS3 := Heap.get?_update_self (Obj.mapSeq (·.pop)) hS2 rfl
  exact wpAny_pure ⟨plainId_quiet PySem.F.plain_extend_loop _, feed_loop F hn res hR n [] _ tk _ rfl (Nat.zero_le _) (F.up _ _ _ (F.up _ _ _ h0)) hS3⟩
end
section
variable {prog : Program} {w : World} {A : Around} {E : Value → Shared → Prop} {s : Shared} {I : Addr} {n : Nat} {J D : List Value → Heap → Prop}
/-- list(it) -/
theorem feed_list {T : String} {Q : Value → Shared → Prop} (hl : typeLookup (.type T) "__len__" = pure none) (hn0 : typeLookup (.type T) "__length_hint__" = pure none) (h2 : (Value.type T == Value.type "list") = false) (h3 : (Value.type T == Value.type "tuple") = false)
    (F : Feed prog w A.in1.in1 I s.heap.objs.size n s J D) (hn : n ≤ sizeLine) (hT : ∀ us h, J us h → ∃ o, h.get? I = some o ∧ o.cls = .type T) (hself : ∀ us h tk (Q : Value → Shared → Prop) (E : Value → Shared → Prop), J us h → Q (.ref I) { s with heap := h, toks := tk } → wpAny (model prog w) A.in1.in1 (pyIter (.ref I)) Q E { s with heap := h, toks := tk })
    (hI : I < s.heap.objs.size) (h0 : ∀ o, J [] (s.heap.push o)) (hR : ∀ us h tk c, D us h → h.get? s.heap.objs.size = some (lstO us c) → us.length = n → Q (.ref s.heap.objs.size) { s with heap := h, toks := tk }) :
    wpAny (model prog w) A (call (.type "list") [.ref I]) Q E s := by
  refine callType_codes (Q₁ := fun obj s₁ => obj = .ref s.heap.objs.size ∧ s₁ = { s with heap := s.heap.push { cls := .type "list", data := .seq #[] } }) PySem.F.called_list (PySem.F.typeCall_list_1 _) PySem.F.entry_list_init
    (code_list_new _ ⟨rfl, rfl⟩) fun obj s₁ h₁ => ?_
  obtain ⟨rfl, rfl⟩ := h₁
  have hS : (s.heap.push { cls := .type "list", data := .seq #[] }).get? s.heap.objs.size = some { cls := .type "list", data := .seq #[] } := Heap.get?_push_size _ rfl
  refine ⟨⟨_, hS, rfl⟩, PySem.F.args_list_init_2 _ _, ?_⟩
  show wpAny _ _ (do let old ← Builtin.List.listItems (.ref s.heap.objs.size); Builtin.List.listUpdate (.ref s.heap.objs.size) (fun _ => #[]); letGo old.toList.reverse; Builtin.List.listExtendWith (.ref s.heap.objs.size) (.ref I) .none) _ _ _
  refine wpAny_bind ?_
  unfold Builtin.List.listItems
  refine wpAny_bind (wpAny_seqItems hS rfl (wpAny_pure ?_))
  show wpAny _ _ (updateSeq s.heap.objs.size (fun _ => #[]) >>= fun _ => letGo (#[] : Array Value).toList.reverse >>= fun _ => Builtin.List.listExtendWith (.ref s.heap.objs.size) (.ref I) .none) _ _ _
  refine wpAny_bind (wpAny_updateSeq hS rfl ?_)
  have hS₂ := Heap.get?_update_self (Obj.mapSeq (fun _ => (#[] : Array Value))) hS rfl
  refine wpAny_bind (wpAny_letGo ?_)
  exact feed_extend (A := A.in1) (s := s) hl hn0 h2 h3 F hn hT hself (Nat.ne_of_gt hI) .none (F.up _ _ _ (h0 _)) hS₂ fun us h tk c hD hS' hz => ⟨rfl, hR us h tk c hD hS' hz⟩
/-- what is gathered of it -/
theorem feed_collect {T : String} {Q : List Value → Shared → Prop} (hl : typeLookup (.type T) "__len__" = pure none) (hn0 : typeLookup (.type T) "__length_hint__" = pure none) (h2 : (Value.type T == Value.type "list") = false) (h3 : (Value.type T == Value.type "tuple") = false)
    (F : Feed prog w A.in1 I s.heap.objs.size n s J D) (hn : n ≤ sizeLine) (hT : ∀ us h, J us h → ∃ o, h.get? I = some o ∧ o.cls = .type T) (hself : ∀ us h tk (Q : Value → Shared → Prop) (E : Value → Shared → Prop), J us h → Q (.ref I) { s with heap := h, toks := tk } → wpAny (model prog w) A.in1 (pyIter (.ref I)) Q E { s with heap := h, toks := tk })
    (hI : I < s.heap.objs.size) (h0 : ∀ o, J [] (s.heap.push o)) (hR : ∀ us h tk, D us h → us.length = n → Q us { s with heap := h, toks := tk }) :
    wpAny (model prog w) A (collect (.ref I)) Q E s := by
  unfold collect
  refine wpAny_bind (wpAny_runValue (codeAny_builtin PySem.F.entry_proto_collect ?_))
  rw [Around.under_plainId PySem.F.plain_proto_collect _]
  show wpAny _ A.in1 (newList [] >>= fun l => again (.builtin "list.__iadd__" ⟨[l, .ref I], []⟩)) _ _ s
  refine wpAny_bind (wpAny_newObj_type ?_)
  refine wpAny_pure ⟨plainId_quiet PySem.F.plain_list_iadd _, codeAny_builtin PySem.F.entry_list_iadd ?_⟩
  rw [Around.under_plainId PySem.F.plain_list_iadd _]
  have hS₁ : (s.heap.push { cls := .type "list", data := .seq ([] : List Value).toArray }).get? s.heap.objs.size = some { cls := .type "list", data := .seq #[] } := Heap.get?_push_size _ rfl
  show wpAny _ A.in1 (Builtin.List.listExtendWith (.ref s.heap.objs.size) (.ref I) (.ref s.heap.objs.size)) _ _ _
  have fin : ∀ us h tk c, D us h → h.get? s.heap.objs.size = some (lstO us c) → us.length = n → wpAny (model prog w) A (match Value.ref s.heap.objs.size with
      | Value.ref a => do
        match (← load a).data with
          | Data.seq xs _ => pure xs.toList
          | _ => unsupported "internal:collect"
      | _ => unsupported "internal:collect") Q E { s with heap := h, toks := tk } := fun us h tk c hD hS' hz => by
    show wpAny _ A (load s.heap.objs.size >>= _) _ _ _
    refine wpAny_bind (wpAny_load hS' ?_)
    exact wpAny_pure (hR us h tk hD hz)
  refine wpAny_mono (feed_extend (A := A) (s := s) (tk := s.toks) (R := fun r s' => ∃ us h tk c, r = .ok (.ret (.ref s.heap.objs.size)) ∧ s' = { s with heap := h, toks := tk } ∧ D us h ∧ h.get? s.heap.objs.size = some (lstO us c) ∧ us.length = n) hl hn0 h2 h3 F hn hT hself (Nat.ne_of_gt hI) (.ref s.heap.objs.size) (h0 _) hS₁
    fun us h tk c hD hS' hz => ⟨us, h, tk, c, rfl, rfl, hD, hS', hz⟩) (fun fin' s' x => ?_) fun e s' x => ?_
  · cases fin' with
    | done f =>
      obtain ⟨us, h, tk, c, e, rfl, hD, hS', hz⟩ := x
      cases e
      exact fin us h tk c hD hS' hz
    | again c' => exact ⟨x.1, codeAny_mono x.2 fun r s'' y => by
        obtain ⟨us, h, tk, c, rfl, rfl, hD, hS', hz⟩ := y
        exact fin us h tk c hD hS' hz⟩
  · obtain ⟨_, _, _, _, e', _⟩ := x
    cases e'
end
theorem nolen_zip : typeLookup (.type "zip") "__len__" = pure none := by rw [typeLookup_type, builtinLookup_eq_fast]; kernel_rfl
theorem nohint_zip : typeLookup (.type "zip") "__length_hint__" = pure none := by rw [typeLookup_type, builtinLookup_eq_fast]; kernel_rfl
theorem tuple_new_in {prog : Program} {w : World} (x : Addr) {T : String} (hne : (Value.type T == Value.type "tuple") = false) : MeetsIn prog w (Builtin.«tuple.__new__» ⟨[.type "tuple", .ref x], []⟩)
    (fun A R s => (∃ o, s.heap.get? x = some o ∧ o.cls = .type T) ∧ wpAny (model prog w) A.in1 (collect (.ref x)) (fun us s' => us.length ≤ sizeLine ∧ R (.ok (.ret (.ref s'.heap.objs.size))) { s' with heap := s'.heap.push { cls := .type "tuple", data := .seq us.toArray } }) (fun e s1 => R (.error e) s1) s) :=
  .of_wp fun A R s h => by
    obtain ⟨⟨o, ho, hc⟩, h⟩ := h
    have hsub := sub_tuple_self
    have hinit := init_tuple_lookup
    have hmh := madeHere_tuple
    have hT : Shared.TypeIs s (.ref x) T := ⟨o, ho, hc⟩
    obtain ⟨hp, g, d, tk, os⟩ := s
    have hcol : ∀ {Q : List Value → Shared → Prop}, (∀ us s', (us.length ≤ sizeLine ∧ R (.ok (.ret (.ref s'.heap.objs.size))) { s' with heap := s'.heap.push { cls := .type "tuple", data := .seq us.toArray } }) → Q us s') →
        wpAny (model prog w) A.in1 (collect (.ref x)) Q (fun e s1 => R (.error e) s1) ⟨hp, g, d, tk, os⟩ := fun q => wpAny_mono h q fun _ _ z => z
    wp_walk using wpAny_typeOf hT, AutoSeq1.wpAny_loadPart' ho, hcol
    rintro us s' ⟨hz, hR⟩
    show wpAny _ _ (Builtin.Tuple.tupleExact us.toArray >>= fun v => ret v) _ _ _
    unfold Builtin.Tuple.tupleExact
    refine wpAny_bind (wpAny_newObj_type ?_ (by show us.toArray.size ≤ sizeLine; simpa using hz))
    exact wpAny_pure ⟨_, rfl, hR⟩
section
variable {prog : Program} {w : World} {A : Around} {E : Value → Shared → Prop} {s : Shared} {I : Addr} {n : Nat} {J D : List Value → Heap → Prop}
/-- tuple(it) -/
theorem tuple_of_collect {T : String} {Q : Value → Shared → Prop} (hne : (Value.type T == Value.type "tuple") = false) (hT : ∃ o, s.heap.get? I = some o ∧ o.cls = .type T)
    (h : wpAny (model prog w) A.in1.in1 (collect (.ref I)) (fun us s' => us.length ≤ sizeLine ∧ Q (.ref s'.heap.objs.size) { s' with heap := s'.heap.push { cls := .type "tuple", data := .seq us.toArray } }) E s) : wpAny (model prog w) A (call (.type "tuple") [.ref I]) Q E s := by
  refine callType_newIn PySem.F.called_tuple (by decide) (PySem.F.typeCall_tuple_1 _) (PySem.F.newCall_tuple_1 _) (fun obj => PySem.F.args_object_init_2 obj _) PySem.F.entry_tuple_new (tuple_new_in I hne) ⟨hT, ?_⟩
  exact wpAny_mono h (fun us s' q => ⟨q.1, ⟨⟨_, Heap.get?_push_size _ rfl, rfl⟩, q.2⟩⟩) fun _ _ z => z
end
end Bx
set_option Elab.async false
set_option linter.all false
set_option maxRecDepth 100000
set_option maxHeartbeats 2000000
/-! Z1: list(zip(..)), tuple(zip(..)). -/
namespace Bx
open PySem PySem.Spec PyProof.Rows L2
/-- what can be drawn from v -/
def ZSrc (h0 : Heap) (v : Value) (n : Nat) (P : Nat → Value → Prop) : Prop :=
  ∃ (o : Obj) (H : Heap → Prop) (fp : List Addr) (St : Addr → Nat → Heap → Prop), Begins v o H ∧ H h0 ∧ (∀ b ∈ fp, b < h0.objs.size) ∧ ∀ it, h0.objs.size ≤ it →
    (∀ (prog : Program) (w : World) (A : Around), A.handled = none → Draws prog w A it (it :: fp) n P (St it)) ∧ ∀ h : Heap, h.get? it = some o → (∀ c o, h0.get? c = some o → h.get? c = some o) → St it 0 h
theorem zsrc_list {h0 : Heap} {l : Addr} {items : Array Value} (hl : h0.IsList l items) : ZSrc h0 (.ref l) items.size fun i v => items[i]? = some v := by
  have hlt : l < h0.objs.size := let ⟨_, ho, _⟩ := hl; Heap.lt_size ho
  refine ⟨_, _, [l], fun it i h => h.IsListIter it l i ∧ h.IsList l items, begins_list l items, hl, fun b hb => by rw [List.mem_singleton.mp hb]; exact hlt, fun it hi => ⟨fun prog w A hh => Draws.list hh it l (Nat.ne_of_lt (Nat.lt_of_lt_of_le hlt hi)) items, fun h e k => ⟨⟨_, e, rfl, rfl⟩, hl.at fun o e => k _ _ e⟩⟩⟩
theorem zsrc_tup {h0 : Heap} {l : Addr} {items : Array Value} (hl : h0.IsTuple l items) : ZSrc h0 (.ref l) items.size fun i v => items[i]? = some v := by
  have hlt : l < h0.objs.size := let ⟨_, ho, _⟩ := hl; Heap.lt_size ho
  refine ⟨_, _, [l], fun it i h => h.IsTupleIter it l i ∧ h.IsTuple l items, begins_tuple l items, hl, fun b hb => by rw [List.mem_singleton.mp hb]; exact hlt, fun it hi => ⟨fun prog w A hh => Draws.tuple hh it l (Nat.ne_of_lt (Nat.lt_of_lt_of_le hlt hi)) items, fun h e k => ⟨⟨_, e, rfl, rfl⟩, hl.at fun o e => k _ _ e⟩⟩⟩
theorem zsrc_str {h0 : Heap} {x : Str} {t : Tok} : ZSrc h0 (.str x t) x.cps.size fun i v => ∃ c u, x.cps[i]? = some c ∧ v = .str ⟨#[c]⟩ u := by
  refine ⟨_, _, [], fun it i h => h.IsStrIter it (strIterType x) x t i, begins_text x t, trivial, (fun b hb => nomatch hb), fun it hi => ⟨fun prog w A hh => Draws.text hh it x t, fun h e k => ⟨_, e, rfl, rfl⟩⟩⟩
/-- the pairs made -/
structure ZMade (lo : Nat) (P1 P2 : Nat → Value → Prop) (us : List Value) (h : Heap) (as : List Addr) : Prop where
  us : us = as.map Value.ref
  rise : as.Pairwise (· < ·)
  lo : ∀ a ∈ as, lo ≤ a
  pair : ∀ j a, as[j]? = some a → ∃ x1 x2, IsTupOf2 h a x1 x2 ∧ P1 j x1 ∧ P2 j x2
theorem ZMade.there {lo : Nat} {P1 P2 : Nat → Value → Prop} {us : List Value} {h : Heap} {as : List Addr} (m : ZMade lo P1 P2 us h as) {a : Addr} (ha : a ∈ as) : a < h.objs.size := by
  obtain ⟨j, hj⟩ := List.mem_iff_getElem?.mp ha
  obtain ⟨_, _, e, _⟩ := m.pair j a hj
  exact Heap.lt_size e
theorem ZMade.keep {lo : Nat} {P1 P2 : Nat → Value → Prop} {us : List Value} {h h' : Heap} {as : List Addr} (m : ZMade lo P1 P2 us h as) (k : ∀ a ∈ as, ∀ o, h.get? a = some o → h'.get? a = some o) : ZMade lo P1 P2 us h' as :=
  ⟨m.us, m.rise, m.lo, fun j a e => let ⟨x1, x2, t, p⟩ := m.pair j a e; ⟨x1, x2, k a (List.mem_of_getElem? e) _ t, p⟩⟩
theorem ZMade.push {lo : Nat} {P1 P2 : Nat → Value → Prop} {us : List Value} {h : Heap} {as : List Addr} {a : Addr} {x1 x2 : Value} (m : ZMade lo P1 P2 us h as) (hl : lo ≤ a) (hr : ∀ b ∈ as, b < a) (t : IsTupOf2 h a x1 x2) (p1 : P1 us.length x1) (p2 : P2 us.length x2) : ZMade lo P1 P2 (us ++ [.ref a]) h (as ++ [a]) := by
  have hl1 : us.length = as.length := by rw [m.us, List.length_map]
  refine ⟨by rw [m.us, List.map_append]; rfl, List.pairwise_append.mpr ⟨m.rise, List.pairwise_singleton _ _, fun b hb c hc => by rw [List.mem_singleton.mp hc]; exact hr b hb⟩, fun b hb => ?_, fun j b e => ?_⟩
  · rcases List.mem_append.mp hb with h | h
    · exact m.lo b h
    · rw [List.mem_singleton.mp h]; exact hl
  · by_cases hj : j < as.length
    · rw [List.getElem?_append_left hj] at e
      exact m.pair j b e
    · have hj2 : j = as.length := by
        have := (List.getElem?_eq_some_iff.mp e).1
        rw [List.length_append, List.length_singleton] at this
        omega
      subst hj2
      have hb : a = b := by simpa using e
      subst hb
      exact ⟨x1, x2, t, by rw [← hl1]; exact p1, by rw [← hl1]; exact p2⟩
section
variable {prog : Program} {w : World} {A : Around} {s : Shared} {fp1 fp2 : List Addr} {n1 n2 : Nat} {P1 P2 : Nat → Value → Prop} {St1 St2 : Nat → Heap → Prop} {z TI TO i1 i2 S : Nat} {h0 : Heap}
structure ZJ (z TI TO i1 i2 S : Nat) (P1 P2 : Nat → Value → Prop) (St1 St2 : Nat → Heap → Prop) (h0 : Heap) (us : List Value) (h : Heap) : Prop where
  st : (us = [] ∧ IsZip h z TI TO .none ∧ ∃ a1 a2, IsTupOf2 h TO a1 a2) ∨ ∃ (T : Addr) (b : Bool) (oT : Obj), ZipO h z TI TO (rawInt T) b ∧ h.get? T = some oT ∧ T ≠ S ∧ T ≠ z ∧ T ≠ i1 ∧ T ≠ i2
  ti : IsTupOf2 h TI (.ref i1) (.ref i2)
  s1 : St1 us.length h
  s2 : St2 us.length h
  sl : S < h.objs.size
  base : ∀ b o, h0.get? b = some o → h.get? b = some o
  made : ∃ as, ZMade (z + 1) P1 P2 us h as ∧ ∀ a ∈ as, a ≠ S
def ZD (z : Nat) (P1 P2 : Nat → Value → Prop) (h0 : Heap) (us : List Value) (h : Heap) : Prop :=
  (∀ b o, h0.get? b = some o → h.get? b = some o) ∧ ∃ as, ZMade (z + 1) P1 P2 us h as
theorem ZJ.type {us : List Value} {h : Heap} (J : ZJ z TI TO i1 i2 S P1 P2 St1 St2 h0 us h) : ∃ o, h.get? z = some o ∧ o.cls = .type "zip" := by
  rcases J.st with ⟨_, a, _⟩ | ⟨T, b, oT, a, _⟩
  · exact ⟨_, a, rfl⟩
  · exact ⟨_, a, rfl⟩
theorem ZJ.lt {us : List Value} {h : Heap} (J : ZJ z TI TO i1 i2 S P1 P2 St1 St2 h0 us h) : z < h.objs.size := by
  obtain ⟨o, ho, _⟩ := J.type
  exact Heap.lt_size ho
theorem zip_feed (hh : A.handled = none) (Sp : ZipSep2 z TI TO i1 i2 fp1 fp2) (D1 : Draws prog w A.in1 i1 fp1 n1 P1 St1) (D2 : Draws prog w A.in1 i2 fp2 n2 P2 St2) (hn : n1 ≤ n2) (hSz : S ≠ z) (hST : S ≠ TI) (hSO : S ≠ TO) (hS1 : S ∉ fp1) (hS2 : S ∉ fp2)
    (hN : h0.objs.size ≤ i1 ∧ h0.objs.size ≤ i2 ∧ h0.objs.size ≤ TO ∧ h0.objs.size ≤ z ∧ h0.objs.size ≤ S) (hlt : i1 < z ∧ i2 < z ∧ TO < z ∧ TI < z) :
    Feed prog w A z S n1 s (ZJ z TI TO i1 i2 S P1 P2 St1 St2 h0) (ZD z P1 P2 h0) where
  up := fun us h f J => by
    have k : ∀ b o, b ≠ S → h.get? b = some o → (h.update S f).get? b = some o := fun b o hb e => (Heap.get?_update_other _ _ (Ne.symm hb)).trans e
    refine ⟨?_, k _ _ hST.symm J.ti, D1.frame _ _ _ J.s1 fun b hb o e => k b o (fun q => hS1 (q ▸ hb)) e, D2.frame _ _ _ J.s2 fun b hb o e => k b o (fun q => hS2 (q ▸ hb)) e, by rw [(Heap.SameBut.update ..).1]; exact J.sl,
      fun b o e => k b o (Nat.ne_of_lt (Nat.lt_of_lt_of_le (Heap.lt_size e) hN.2.2.2.2)) (J.base b o e), ?_⟩
    · rcases J.st with ⟨e, a, a1, a2, t⟩ | ⟨T, b, oT, a, t, n1, n2, n3, n4⟩
      · exact .inl ⟨e, k _ _ hSz.symm a, a1, a2, k _ _ hSO.symm t⟩
      · exact .inr ⟨T, b, oT, k _ _ hSz.symm a, k _ _ n1 t, n1, n2, n3, n4⟩
    · obtain ⟨as, m, ns⟩ := J.made
      exact ⟨as, m.keep fun a ha o e => k a o (ns a ha) e, ns⟩
  item := fun us h tk Q E hl J hQ => by
    obtain ⟨as, m, ns⟩ := J.made
    have hl2 : us.length + 1 = (us ++ [Value.ref h.objs.size]).length := by rw [List.length_append]; rfl
    have hzl : @LT.lt Nat _ z h.objs.size := J.lt
    have step : ∀ x1 x2 h' tk', P1 us.length x1 → P2 us.length x2 → (∃ (T : Addr) (b : Bool) (oT : Obj), ZipO h' z TI TO (rawInt T) b ∧ h'.get? T = some oT ∧ T ≠ S ∧ T ≠ z ∧ T ≠ i1 ∧ T ≠ i2) → St1 (us.length + 1) h' → St2 (us.length + 1) h' → IsTupOf2 h' h.objs.size x1 x2 → h'.objs.size = h.objs.size + 1 →
        (∀ c o, c ≠ z → c ≠ TO → c ≠ i1 → c ≠ i2 → h.get? c = some o → h'.get? c = some o) → Q (some (.ref h.objs.size)) { s with heap := h', toks := tk' } := fun x1 x2 h' tk' p1 p2 st s1 s2 t hz k => by
      have m' := m.keep (h' := h') fun a ha o e => by
        have q : @LE.le Nat _ (z + 1) a := m.lo a ha
        have ne : ∀ x : Nat, x ≤ z → a ≠ x := fun x hx e => by subst e; omega
        exact k a o (ne _ (Nat.le_refl _)) (ne _ (Nat.le_of_lt hlt.2.2.1)) (ne _ (Nat.le_of_lt hlt.1)) (ne _ (Nat.le_of_lt hlt.2.1)) e
      refine hQ _ h' tk' ⟨.inr st, k _ _ Sp.TIz Sp.TITO Sp.TIi1 Sp.TIi2 J.ti, hl2 ▸ s1, hl2 ▸ s2, by rw [hz]; exact Nat.lt_succ_of_lt J.sl, fun b o e => ?_, as ++ [h.objs.size], m'.push (Nat.succ_le_of_lt hzl) (fun b hb => m.there hb) t p1 p2, fun a ha => ?_⟩ fun o e => k S o hSz hSO (fun q => hS1 (q ▸ Sp.mem1)) (fun q => hS2 (q ▸ Sp.mem2)) e
      · have hb : @LT.lt Nat _ b h0.objs.size := Heap.lt_size e
        have ne : ∀ x : Nat, h0.objs.size ≤ x → b ≠ x := fun x hx e => by subst e; omega
        exact k b o (ne _ hN.2.2.2.1) (ne _ hN.2.2.1) (ne _ hN.1) (ne _ hN.2.1) (J.base b o e)
      · rcases List.mem_append.mp ha with ha | ha
        · exact ns a ha
        · rw [List.mem_singleton.mp ha]; exact Nat.ne_of_gt J.sl
    have sne : h.objs.size ≠ S ∧ h.objs.size ≠ z ∧ h.objs.size ≠ i1 ∧ h.objs.size ≠ i2 := ⟨Nat.ne_of_gt J.sl, Nat.ne_of_gt hzl, Nat.ne_of_gt (Nat.lt_trans hlt.1 hzl), Nat.ne_of_gt (Nat.lt_trans hlt.2.1 hzl)⟩
    rcases J.st with ⟨e, a, a1, a2, t⟩ | ⟨T, b, oT, a, t, m1, m2, m3, m4⟩
    · exact wpAny_pyNext_zipD2_item (s := { s with heap := h, toks := tk }) Sp D1 D2 a J.ti t J.s1 J.s2 hl (by omega) fun x1 x2 h' tk' p1 p2 b1 b2 d1 d2 b5 b6 k =>
        step x1 x2 h' tk' p1 p2 ⟨h.objs.size, false, _, b1, b5, sne⟩ d1 d2 b5 b6 k
    · exact zipO_item (s := { s with heap := h, toks := tk }) Sp D1 D2 a t J.ti J.s1 J.s2 hl (by omega) fun x1 x2 h' tk' p1 p2 b1 d1 d2 b5 b6 k =>
        step x1 x2 h' tk' p1 p2 ⟨T, true, _, b1, k _ _ m2 m3 m4 t, m1, m2, m3, m4⟩ d1 d2 b5 b6 fun c o c1 _ c3 c4 e => k c o c1 c3 c4 e
  done := fun us h tk Q E hl J hQ => by
    obtain ⟨as, m, ns⟩ := J.made
    have hzl : @LT.lt Nat _ z h.objs.size := J.lt
    have step : ∀ h' tk', (∀ c o, c ≠ z → c ≠ TO → c ≠ i1 → c ≠ i2 → h.get? c = some o → h'.get? c = some o) → Q none { s with heap := h', toks := tk' } := fun h' tk' k => by
      refine hQ h' tk' ⟨fun b o e => ?_, as, m.keep fun a ha o e => ?_⟩ fun o e => k S o hSz hSO (fun q => hS1 (q ▸ Sp.mem1)) (fun q => hS2 (q ▸ Sp.mem2)) e
      · have hb : @LT.lt Nat _ b h0.objs.size := Heap.lt_size e
        have ne : ∀ x : Nat, h0.objs.size ≤ x → b ≠ x := fun x hx e => by subst e; omega
        exact k b o (ne _ hN.2.2.2.1) (ne _ hN.2.2.1) (ne _ hN.1) (ne _ hN.2.1) (J.base b o e)
      · have := m.lo a ha
        exact k a o (by omega) (by omega) (by omega) (by omega) e
    have s1 := J.s1
    rw [hl] at s1
    rcases J.st with ⟨e, a, a1, a2, t⟩ | ⟨T, b, oT, a, t, m1, m2, m3, m4⟩
    · exact wpAny_pyNext_zipD2_end (s := { s with heap := h, toks := tk }) Sp D1 D2 a J.ti t J.s1 J.s2 (by omega) (by omega) (.inl hl) fun h' tk' k => step h' tk' k
    · exact zipO_end (s := { s with heap := h, toks := tk }) Sp D1 a t J.ti s1 fun h' tk' k => step h' tk' fun c o c1 _ c3 c4 e => k c o c1 c3 c4 e
end
section
variable {prog : Program} {w : World} {A : Around} {E : Value → Shared → Prop} {s : Shared} {n1 n2 : Nat} {P1 P2 : Nat → Value → Prop} {u1 u2 : Value}
theorem zip_then {T : Around} (hh : A.handled = none) (Z1 : ZSrc s.heap u1 n1 P1) (Z2 : ZSrc s.heap u2 n2 P2) (hn : n1 ≤ n2) {Q : Value → Shared → Prop}
    (h : ∀ (h' : Heap) (St1 St2 : Nat → Heap → Prop) (z : Nat), (∀ b o, s.heap.get? b = some o → h'.get? b = some o) → z < h'.objs.size → s.heap.objs.size ≤ z →
      (∀ (A : Around), A.handled = none → Feed prog w A.in1 z h'.objs.size n1 { s with heap := h' } (ZJ z (s.heap.objs.size + 2) (s.heap.objs.size + 3) s.heap.objs.size (s.heap.objs.size + 1) h'.objs.size P1 P2 St1 St2 s.heap) (ZD z P1 P2 s.heap)) →
      (∀ o, ZJ z (s.heap.objs.size + 2) (s.heap.objs.size + 3) s.heap.objs.size (s.heap.objs.size + 1) h'.objs.size P1 P2 St1 St2 s.heap [] (h'.push o)) → IsZip h' z (s.heap.objs.size + 2) (s.heap.objs.size + 3) .none → Q (.ref z) { s with heap := h' }) :
    wpAny (model prog w) A (call (.type "zip") [u1, u2]) Q E s := by
  obtain ⟨o1, H1, fp1, St1, B1, h1, f1, g1⟩ := Z1
  obtain ⟨o2, H2, fp2, St2, B2, h2, f2, g2⟩ := Z2
  refine zip_begins2 B1 B2 h1 h2 fun h' hz hTI hTO e1 e2 hsz hk => ?_
  obtain ⟨d1, k1⟩ := g1 s.heap.objs.size (Nat.le_refl _)
  obtain ⟨d2, k2⟩ := g2 (s.heap.objs.size + 1) (Nat.le_succ _)
  have nf : ∀ fp : List Addr, (∀ b ∈ fp, b < s.heap.objs.size) → ∀ j i : Nat, i + 1 ≤ j → s.heap.objs.size + j ∉ (s.heap.objs.size + i) :: fp := fun fp hf j i hji hm => by
    rcases List.mem_cons.mp hm with q | q
    · have q : @Eq Nat (s.heap.objs.size + j) (s.heap.objs.size + i) := q
      omega
    · have : @LT.lt Nat _ (s.heap.objs.size + j) s.heap.objs.size := hf _ q
      omega
  refine h h' (St1 s.heap.objs.size) (St2 (s.heap.objs.size + 1)) (s.heap.objs.size + 4) hk (by show @LT.lt Nat _ (s.heap.objs.size + 4) h'.objs.size; omega) (by show @LE.le Nat _ s.heap.objs.size (s.heap.objs.size + 4); omega) (fun A' hA => ?_) (fun o => ?_) hz
  · refine zip_feed hA (zip_sep2 f1 f2) (d1 prog w A'.in1.in1 hA) (d2 prog w A'.in1.in1 hA) hn ?_ ?_ ?_ ?_ ?_ ?_ ?_
    · show @Ne Nat h'.objs.size (s.heap.objs.size + 4); omega
    · show @Ne Nat h'.objs.size (s.heap.objs.size + 2); omega
    · show @Ne Nat h'.objs.size (s.heap.objs.size + 3); omega
    · rw [hsz]; exact nf fp1 f1 5 0 (by omega)
    · rw [hsz]; exact nf fp2 f2 5 1 (by omega)
    · refine ⟨?_, ?_, ?_, ?_, ?_⟩ <;> omega
    · refine ⟨?_, ?_, ?_, ?_⟩ <;> omega
  · have k : ∀ b u, h'.get? b = some u → (h'.push o).get? b = some u := fun b u e => Heap.get?_push_of_some _ e
    refine ⟨.inl ⟨rfl, k _ _ hz, _, _, k _ _ hTO⟩, k _ _ hTI, k1 _ (k _ _ e1) fun c o e => k _ _ (hk c o e), k2 _ (k _ _ e2) fun c o e => k _ _ (hk c o e), by rw [Heap.size_push]; exact Nat.lt_succ_self _, fun b o e => k _ _ (hk b o e), [], ⟨rfl, .nil, (fun a ha => nomatch ha), fun j a e => by simp at e⟩, fun a ha => nomatch ha⟩
end
theorem pyIter_zip {prog : Program} {w : World} {A : Around} {E : Value → Shared → Prop} {s : Shared} {z : Addr} {Q : Value → Shared → Prop} (hT : s.TypeIs (.ref z) "zip") (h : Q (.ref z) s) : wpAny (model prog w) A (pyIter (.ref z)) Q E s := by
  refine wpAny_pyIter_slot hT PySem.F.slot_zip_iter (wpAny_call_entry PySem.F.slot_zip_iter hT PySem.F.entry_zip_iter ?_ (PySem.F.args_zip_iter_1 _))
  show wpAny _ _ (ret (.ref z)) _ _ s
  exact wpAny_pure ⟨_, rfl, "zip", _, hT, PySem.F.slot_zip_next.lookup, h⟩
section
variable {prog : Program} {w : World} {A : Around} {E : Value → Shared → Prop} {s : Shared} {n1 n2 : Nat} {P1 P2 : Nat → Value → Prop} {u1 u2 : Value}
theorem list_zip (hh : A.handled = none) (Z1 : ZSrc s.heap u1 n1 P1) (Z2 : ZSrc s.heap u2 n2 P2) (hn : n1 ≤ n2) (hz : n1 ≤ sizeLine) {Q : Value → Shared → Prop}
    (hq : ∀ (L : Addr) (h' : Heap) (tk c : Nat) (us : List Value) (as : List Addr), (∀ b o, s.heap.get? b = some o → h'.get? b = some o) → ZMade s.heap.objs.size P1 P2 us h' as → us.length = n1 → s.heap.objs.size ≤ L → h'.get? L = some (lstO us c) → Q (.ref L) { s with heap := h', toks := tk }) :
    wpAny (model prog w) A (call (.type "zip") [u1, u2]) (fun v s' => wpAny (model prog w) A (call (.type "list") [v]) Q E s') E s := by
  refine zip_then (T := A) hh Z1 Z2 hn fun h' St1 St2 z hk hzl hzs F hJ hz0 => ?_
  refine feed_list (s := { s with heap := h' }) (T := "zip") nolen_zip nohint_zip (by decide) (by decide) (F A.in1 hh) hz (fun us h J => J.type) (fun us h tk Q E J q => pyIter_zip (s := { s with heap := h, toks := tk }) J.type q) hzl hJ fun us h tk c D hS hl => ?_
  obtain ⟨hb, as, m⟩ := D
  exact hq _ _ _ _ _ as hb ⟨m.us, m.rise, fun a ha => Nat.le_trans hzs (Nat.le_of_succ_le (m.lo a ha)), m.pair⟩ hl (Nat.le_of_lt (Nat.lt_of_le_of_lt hzs hzl)) hS
theorem tuple_zip (hh : A.handled = none) (Z1 : ZSrc s.heap u1 n1 P1) (Z2 : ZSrc s.heap u2 n2 P2) (hn : n1 ≤ n2) (hz : n1 ≤ sizeLine) {Q : Value → Shared → Prop}
    (hq : ∀ (h' : Heap) (tk : Nat) (us : List Value) (as : List Addr), (∀ b o, s.heap.get? b = some o → h'.get? b = some o) → ZMade s.heap.objs.size P1 P2 us h' as → us.length = n1 → Q (.ref h'.objs.size) { s with heap := h'.push { cls := .type "tuple", data := .seq us.toArray }, toks := tk }) :
    wpAny (model prog w) A (call (.type "zip") [u1, u2]) (fun v s' => wpAny (model prog w) A (call (.type "tuple") [v]) Q E s') E s := by
  refine zip_then (T := A) hh Z1 Z2 hn fun h' St1 St2 z hk hzl hzs F hJ hz0 => ?_
  refine tuple_of_collect (s := { s with heap := h' }) (T := "zip") (by decide) ⟨_, hz0, rfl⟩ ?_
  refine feed_collect (s := { s with heap := h' }) (T := "zip") nolen_zip nohint_zip (by decide) (by decide) (F A.in1.in1 hh) hz (fun us h J => J.type) (fun us h tk Q E J q => pyIter_zip (s := { s with heap := h, toks := tk }) J.type q) hzl hJ fun us h tk D hl => ?_
  obtain ⟨hb, as, m⟩ := D
  exact ⟨by omega, hq _ _ _ as hb ⟨m.us, m.rise, fun a ha => Nat.le_trans hzs (Nat.le_of_succ_le (m.lo a ha)), m.pair⟩ hl⟩
end

/-! ### over the layer -/
theorem vals_refs : ∀ as : List Addr, Vals (as.map V.ref) (as.map Value.ref)
  | [] => .nil
  | a :: as => .cons rfl (vals_refs as)
def zipD (xs ys : List PyData) : List PyData := List.zipWith (fun a b => .tuple [a, b]) xs ys
def LSrc (X : Cx) (H : Hp) (r : Rs) (ds : List PyData) : Prop := ∀ H0 H' v, Same H H0 → Same H0 H' → r.P H0 v H' → ∀ pins σ s u, Inv X pins σ H' s → RelV v u → ∃ P, ZSrc s.heap u ds.length P ∧ ∀ i x, P i x → ∃ v d, RelV v x ∧ ds[i]? = some d ∧ DI H' v d
section
variable {X : Cx} {e e2 : Expr} {σ : St} {H : Hp} {r1 r2 : Rs} {pos : Pos} {ds ds1 ds2 : List PyData}
theorem arr_get {us : List Value} {i : Nat} {x : Value} (h : us.toArray[i]? = some x) : us[i]? = some x := by simpa using h
theorem vals_get {vs : List V} {us : List Value} (r : Vals vs us) {i : Nat} {x : Value} (h : us[i]? = some x) : ∃ v, vs[i]? = some v ∧ RelV v x := by
  have hl := r.length
  have hi : i < us.length := (List.getElem?_eq_some_iff.mp h).1
  have hi2 : i < vs.length := by omega
  obtain ⟨u', h1, h2⟩ := r.get (List.getElem?_eq_getElem hi2)
  rw [h] at h1
  cases h1
  exact ⟨_, List.getElem?_eq_getElem hi2, h2⟩
theorem lsrc_seq {ds : List PyData} {H' : Hp} {vs : List V} {its : List Value} (hd : DIs H' vs ds) (rv : Vals vs its) : ∀ (i : Nat) (x : Value), its.toArray[i]? = some x → ∃ v d, RelV v x ∧ ds[i]? = some d ∧ DI H' v d := fun i x e => by
  obtain ⟨v, hv, r⟩ := vals_get rv (arr_get e)
  obtain ⟨d, h1, h2⟩ := hd.get' hv
  exact ⟨v, d, r, h1, h2⟩
theorem lsrc_tup : LSrc X H (.d (.tuple ds)) ds := fun H0 H' v s0 s1 p pins σ s u I ru => by
  have p : DI H' v (.tuple ds) := p
  cases p with
  | @tup a vs _ ea hd =>
    obtain rfl : u = Value.ref a := ru
    obtain ⟨its, rv, hT, _⟩ := I.tuple ea.sq
    have hl : its.toArray.size = ds.length := by rw [List.size_toArray, ← rv.length, hd.length]
    have z := zsrc_tup (h0 := s.heap) hT
    rw [hl] at z
    exact ⟨_, z, lsrc_seq hd rv⟩
theorem lsrc_lst {H' : Hp} {a : Addr} {vs : List V} {pins σ s} {u : Value} (ea : H' a = some (.lst vs)) (hd : DIs H' vs ds) (I : Inv X pins σ H' s) (ru : RelV (.ref a) u) : ∃ P, ZSrc s.heap u ds.length P ∧ ∀ i x, P i x → ∃ v d, RelV v x ∧ ds[i]? = some d ∧ DI H' v d := by
  obtain rfl : u = Value.ref a := ru
  obtain ⟨its, rv, hT, _⟩ := I.list (SqL.of ea)
  have hl : its.toArray.size = ds.length := by rw [List.size_toArray, ← rv.length, hd.length]
  have z := zsrc_list (h0 := s.heap) hT.isList
  rw [hl] at z
  exact ⟨_, z, lsrc_seq hd rv⟩
theorem lsrc_new : LSrc X H (.l ds) ds := fun H0 H' v s0 s1 p pins σ s u I ru => by
  obtain ⟨a, vs, rfl, _, ea, hd⟩ := p
  exact lsrc_lst ea hd I ru
theorem lsrc_var {l : Addr} {vs : List V} (hl : H l = some (.lst vs)) (hd : DIs H vs ds) : LSrc X H (.v (.ref l)) ds := fun H0 H' v s0 s1 p pins σ s u I ru => by
  have p : v = .ref l := p
  subst p
  have k := s0.trans s1
  exact lsrc_lst (k _ _ hl) (hd.same k) I ru
def charsD (z : Str) : List PyData := z.cps.toList.map fun c => .str ⟨#[c]⟩
theorem lsrc_str {z : Str} : LSrc X H (.s z) (charsD z) := fun H0 H' v s0 s1 p pins σ s u I ru => by
  have p := Rs.pS p
  subst p
  obtain ⟨t, rfl⟩ := ru
  have zz := zsrc_str (h0 := s.heap) (x := z) (t := t)
  have hl : z.cps.size = (charsD z).length := by simp [charsD]
  rw [hl] at zz
  refine ⟨_, zz, fun i x ⟨c, u, hc, e⟩ => ⟨.str ⟨#[c]⟩, .str ⟨#[c]⟩, ⟨u, e⟩, ?_, .str _⟩⟩
  unfold charsD
  rw [List.getElem?_map, Array.getElem?_toList, hc]; rfl
theorem DIs.of_get {H : Hp} : ∀ {vs : List V} {ds : List PyData}, vs.length = ds.length → (∀ (j : Nat) v, vs[j]? = some v → ∃ d, ds[j]? = some d ∧ DI H v d) → DIs H vs ds
  | [], [], _, _ => .nil
  | v :: vs, d :: ds, hl, h => by
    obtain ⟨d', e, hd⟩ := h 0 v rfl
    have e : d = d' := by simpa using e
    subst e
    exact .cons hd (DIs.of_get (by simpa using hl) fun j u e => h (j + 1) u (by simpa using e))
theorem zipD_get {xs ys : List PyData} {j : Nat} {a b : PyData} (h1 : xs[j]? = some a) (h2 : ys[j]? = some b) : (zipD xs ys)[j]? = some (.tuple [a, b]) := by
  unfold zipD
  rw [List.getElem?_zipWith, h1, h2]
theorem zip_items {H' H1 : Hp} {s : Shared} {h' : Heap} {tk : Nat} {pins σ} {P1 P2 : Nat → Value → Prop} {us : List Value} {as : List Addr} (I : Inv X pins σ H' s) (I1 : Inv X pins σ H1 { s with heap := h', toks := tk }) (hs : Same H' H1) (ha : ∀ a ∈ as, H1 a = none)
    (p1 : ∀ i x, P1 i x → ∃ v d, RelV v x ∧ ds1[i]? = some d ∧ DI H' v d) (p2 : ∀ i x, P2 i x → ∃ v d, RelV v x ∧ ds2[i]? = some d ∧ DI H' v d) (m : ZMade s.heap.objs.size P1 P2 us h' as) (hl : us.length = ds1.length) (hn : ds1.length ≤ ds2.length) :
    ∃ H2, Inv X pins σ H2 { s with heap := h', toks := tk } ∧ Same H1 H2 ∧ DIs H2 (as.map V.ref) (zipD ds1 ds2) := by
  have nd : as.Nodup := List.Pairwise.imp (fun h => Nat.ne_of_lt h) m.rise
  have la : as.length = ds1.length := by rw [← hl, m.us, List.length_map]
  obtain ⟨H2, I2, g, q⟩ := DX.takeT (P := fun a vs => ∃ (j : Nat) (d1 d2 : PyData) (v1 v2 : V), as[j]? = some a ∧ ds1[j]? = some d1 ∧ ds2[j]? = some d2 ∧ vs = [v1, v2] ∧ DI H' v1 d1 ∧ DI H' v2 d2) I as H1 I1 nd fun a hm => by
    obtain ⟨j, hj⟩ := List.mem_iff_getElem?.mp hm
    obtain ⟨x1, x2, t, q1, q2⟩ := m.pair j a hj
    obtain ⟨v1, d1, r1, e1, i1⟩ := p1 j x1 q1
    obtain ⟨v2, d2, r2, e2, i2⟩ := p2 j x2 q2
    exact ⟨m.lo a hm, ha a hm, [v1, v2], ⟨j, d1, d2, v1, v2, hj, e1, e2, rfl, i1, i2⟩, fun H2 => ⟨by show 2 ≤ sizeLine; decide, [x1, x2], .cons r1 (.cons r2 .nil), ⟨_, t, rfl, _, rfl⟩⟩⟩
  refine ⟨H2, I2, g, DIs.of_get (by unfold zipD; rw [List.length_map, List.length_zipWith, la]; omega) fun j v e => ?_⟩
  rw [List.getElem?_map] at e
  obtain ⟨a, hj, rfl⟩ := Option.map_eq_some_iff.mp e
  obtain ⟨vs, ⟨j', d1, d2, v1, v2, hj', e1, e2, rfl, i1, i2⟩, t⟩ := q a (List.mem_of_getElem? hj)
  have ej : j' = j := by
    obtain ⟨l1, m1⟩ := List.getElem?_eq_some_iff.mp hj'
    obtain ⟨l2, m2⟩ := List.getElem?_eq_some_iff.mp hj
    exact (List.getElem_inj nd).mp (m1.trans m2.symm)
  subst ej
  exact ⟨_, zipD_get e1 e2, .mk t (.cons (i1.same (Same.trans hs g)) (.cons (i2.same (Same.trans hs g)) .nil))⟩
theorem two_srcs {us : List Value} {vs : List V} {H0 H2 : Hp} {pins s} (I : Inv X pins σ H2 s) (h0 : Same H H0) (hs : Same H0 H2) (rv : Vals vs us) (pr : RsL [r1, r2] H0 vs H2) (s1 : LSrc X H r1 ds1) (s2 : LSrc X H r2 ds2) :
    ∃ u1 u2 P1 P2, us = [u1, u2] ∧ ZSrc s.heap u1 ds1.length P1 ∧ ZSrc s.heap u2 ds2.length P2 ∧ (∀ i x, P1 i x → ∃ v d, RelV v x ∧ ds1[i]? = some d ∧ DI H2 v d) ∧ ∀ i x, P2 i x → ∃ v d, RelV v x ∧ ds2[i]? = some d ∧ DI H2 v d := by
  obtain ⟨v1, v2, rfl, q1, q2⟩ := rsl2 pr
  cases rv with
  | cons ra rr => cases rr with
    | cons rb rr =>
      cases rr
      obtain ⟨P1, z1, p1⟩ := s1 H0 H2 _ h0 hs q1 pins σ s _ I ra
      obtain ⟨P2, z2, p2⟩ := s2 H0 H2 _ h0 hs q2 pins σ s _ I rb
      exact ⟨_, _, P1, P2, rfl, z1, z2, p1, p2⟩
/-- list(zip(a, b)), a the shorter -/
theorem pv_listZip {p p2 q : Pos} (hc : X.calm = true) (hm : X.mg "list" = none) (hm2 : X.mg "zip" = none) (h1 : PV X e σ H r1) (h2 : PV X e2 σ H r2) (s1 : LSrc X H r1 ds1) (s2 : LSrc X H r2 ds2) (hn : ds1.length ≤ ds2.length) (hz : ds1.length ≤ 1000000)
    (hg : Gl X "list" := by rfl) (hg2 : Gl X "zip" := by rfl) (hs : starEach [e, e2] X.env = (false, eval e X.env) :: starEach [e2] X.env := by rfl) (hpl : (backTo q (starEach [e2] X.env)).any (·.1) = false := by rfl) (hs2 : starEach [e2] X.env = (false, eval e2 X.env) :: starEach [] X.env := by rfl) :
    PV X (.Call (.Name "list" p) [.Call (.Name "zip" p2) [e, e2] [] q] [] pos) σ H (.l (zipD ds1 ds2)) := fun pins s H1 hs1 I => by
  refine Call_ (ld_blt I hg hm bt_list ?_)
  refine PyProof.Rows.callWith_type1 (PyProof.Rows.args_cons ?_ rfl) rfl rfl
  refine Call_ (ld_blt I hg2 hm2 PyProof.Rows.boot_zip ?_)
  refine PyProof.Rows.callWith_type1 (thn (pas_cons h1 (pas_cons h2 pas_nil hs2) hs q pins s H1 hs1 I) fun us s1' ⟨vs, H2, I2, rv, hs2', pr⟩ => ?_) hs hpl
  obtain ⟨u1, u2, P1, P2, rfl, z1, z2, p1, p2⟩ := two_srcs I2 hs1 hs2' rv pr s1 s2
  have hz' : ds1.length ≤ sizeLine := Nat.le_trans hz (by decide)
  refine thn (list_zip (I2.ok.hd hc) z1 z2 hn hz' fun L h' tk c us as hb m hl hL hget => ?_) fun v s' h => PyProof.Rows.args_nil h
  have lr : (as.map V.ref).length ≤ sizeLine := by rw [List.length_map, ← List.length_map (f := Value.ref), ← m.us, hl]; exact hz'
  have hLn : H2 L = none := I2.hok.fresh hL
  have I3 : Inv X pins σ (upd H2 L (.lst (as.map V.ref))) { s1' with heap := h', toks := tk } := I2.laid hb hL ⟨lr, us, c, by rw [m.us]; exact vals_refs as, hget⟩
  have hLa : L ∉ as := fun hm => by
    obtain ⟨j, hj⟩ := List.mem_iff_getElem?.mp hm
    obtain ⟨x1, x2, t, _⟩ := m.pair j L hj
    have t : h'.get? L = some { cls := .type "tuple", data := .seq #[x1, x2] } := t
    rw [hget] at t
    have e := congrArg Obj.cls (Option.some.inj t)
    exact absurd e (by intro h; injection h with h; exact absurd h (by decide))
  obtain ⟨H3, I4, s4, hd⟩ := zip_items I2 I3 (same_new hLn) (fun a ha => by
    have ne : a ≠ L := fun z => hLa (by rw [← z]; exact ha)
    rw [upd_ne ne]
    exact I2.hok.fresh (m.lo a ha)) p1 p2 m hl hn
  exact ⟨.ref L, H3, I4, rfl, (hs2'.trans (same_new hLn)).trans s4, L, _, rfl, hs2'.free hLn, s4 _ _ upd_same, hd⟩
/-- tuple(zip(a, b)), a the shorter -/
theorem pv_tupleZip {p p2 q : Pos} (hc : X.calm = true) (hm : X.mg "tuple" = none) (hm2 : X.mg "zip" = none) (h1 : PV X e σ H r1) (h2 : PV X e2 σ H r2) (s1 : LSrc X H r1 ds1) (s2 : LSrc X H r2 ds2) (hn : ds1.length ≤ ds2.length) (hz : ds1.length ≤ 1000000)
    (hg : Gl X "tuple" := by rfl) (hg2 : Gl X "zip" := by rfl) (hs : starEach [e, e2] X.env = (false, eval e X.env) :: starEach [e2] X.env := by rfl) (hpl : (backTo q (starEach [e2] X.env)).any (·.1) = false := by rfl) (hs2 : starEach [e2] X.env = (false, eval e2 X.env) :: starEach [] X.env := by rfl) :
    PV X (.Call (.Name "tuple" p) [.Call (.Name "zip" p2) [e, e2] [] q] [] pos) σ H (.d (.tuple (zipD ds1 ds2))) := fun pins s H1 hs1 I => by
  refine Call_ (ld_blt I hg hm bt_tuple ?_)
  refine PyProof.Rows.callWith_type1 (PyProof.Rows.args_cons ?_ rfl) rfl rfl
  refine Call_ (ld_blt I hg2 hm2 PyProof.Rows.boot_zip ?_)
  refine PyProof.Rows.callWith_type1 (thn (pas_cons h1 (pas_cons h2 pas_nil hs2) hs q pins s H1 hs1 I) fun us s1' ⟨vs, H2, I2, rv, hs2', pr⟩ => ?_) hs hpl
  obtain ⟨u1, u2, P1, P2, rfl, z1, z2, p1, p2⟩ := two_srcs I2 hs1 hs2' rv pr s1 s2
  have hz' : ds1.length ≤ sizeLine := Nat.le_trans hz (by decide)
  refine thn (tuple_zip (I2.ok.hd hc) z1 z2 hn hz' fun h' tk us as hb m hl => ?_) fun v s' h => PyProof.Rows.args_nil h
  have lr : (as.map V.ref).length ≤ sizeLine := by rw [List.length_map, ← List.length_map (f := Value.ref), ← m.us, hl]; exact hz'
  have I3 : Inv X pins σ H2 { s1' with heap := h', toks := tk } := I2.kept hb
  obtain ⟨H3, I4, s4, hd⟩ := zip_items I2 I3 (Same.refl _) (fun a ha => I2.hok.fresh (m.lo a ha)) p1 p2 m hl hn
  have nL : H3 h'.objs.size = none := I4.hok.fresh (Nat.le_refl _)
  have I5 : Inv X pins σ (upd H3 h'.objs.size (.tup (as.map V.ref))) { s1' with heap := h'.push { cls := .type "tuple", data := .seq us.toArray }, toks := tk } := I4.laid (fun b o e => Heap.get?_push_of_some _ e) (Nat.le_refl _) ⟨lr, us, by rw [m.us]; exact vals_refs as, IsTup.new _ _⟩
  exact ⟨.ref h'.objs.size, _, I5, rfl, (hs2'.trans s4).trans (same_new nL), .mk upd_same (hd.same (same_new nL))⟩
end
end Bx
set_option Elab.async false
set_option linter.all false
set_option maxRecDepth 100000
set_option maxHeartbeats 2000000
/-! S0: sets of tuples of texts and ints (by the table), sets of texts (by the scan). -/
namespace Bx
open PySem PySem.Spec PyProof.Rows L2
abbrev tpH (P : Program) (w : World) (k : List Key) : Int := tupleKeyHash (mixKind P w) k
abbrev IsK (P : Program) (w : World) (h : Heap) (k : List Key) (a : Addr) : Prop := IsTupleKey (mixKind P w) h k a
abbrev Rw : Type := List (Addr × List Key)
section
variable {P : Program} {w : World} {A : Around} {E : Value → Shared → Prop} {s : Shared}
theorem items_key {k : List Key} {vs : List Value} (h : ItemsAre (mixKind P w) k vs) : ∀ v ∈ vs, (∃ i t, v = Value.int i t) ∨ ∃ i t, v = Value.str i t := by
  induction h with
  | nil => intro v hv; cases hv
  | cons h1 _ ih =>
    intro v hv
    rcases List.mem_cons.mp hv with e | hv
    · rcases keyIs_shape h1 with ⟨i, t, _, q⟩ | ⟨i, t, _, q⟩
      · exact .inl ⟨i, t, e.trans q⟩
      · exact .inr ⟨i, t, e.trans q⟩
    · exact ih v hv
theorem noClass {k : List Key} {b : Addr} {Q : Bool → Shared → Prop} (hk : IsK P w s.heap k b) (h : Q false s) : wpAny (model P w) A (ofAClassStatement 8 (.ref b)) Q E s := by
  have hT := hk.typeIs
  obtain ⟨o, items, n, ho, _, hd, hi⟩ := hk
  unfold ofAClassStatement
  refine wpAny_bind (wpAny_typeOf hT ?_)
  dsimp only
  have e : (("tuple" : String) == "tuple") = true := by decide
  simp only [e, if_true, Bool.not_true, Bool.false_eq_true, if_false]
  try refine wpAny_bind (wpAny_pure ?_)
  try simp only [Bool.not_true, Bool.false_eq_true, if_false]
  show wpAny _ _ (seqItems? (.ref b) >>= _) _ _ s
  refine wpAny_bind (wpAny_seqItems ho hd ?_)
  dsimp only
  refine wpAny_bind ?_
  show wpAny _ _ (forIn items _ _) _ _ s
  rw [← Array.forIn_toList]
  refine wpAny_forIn_list _ (fun rest r s' => r.1 = none ∧ s' = s ∧ ∀ v ∈ rest, (∃ i t, v = Value.int i t) ∨ ∃ i t, v = Value.str i t) _ ?_ ?_ _ _ ⟨rfl, rfl, items_key hi⟩
  · rintro v rest r s' ⟨hr, rfl, hall⟩
    have e : ofAClassStatement 7 v = pure false := by
      rcases hall v List.mem_cons_self with ⟨i, t, rfl⟩ | ⟨i, t, rfl⟩ <;> rfl
    rw [e]
    refine wpAny_bind (wpAny_pure ?_)
    simp only [Bool.false_eq_true, if_false]
    exact wpAny_pure ⟨rfl, rfl, fun u hu' => hall u (List.mem_cons_of_mem _ hu')⟩
  · rintro ⟨r1, r2⟩ s' ⟨hr, rfl, _⟩
    simp only at hr
    subst hr
    exact wpAny_pure h
theorem byVal_any {k : List Key} {b : Addr} {Q : Bool → Shared → Prop} (hk : IsK P w s.heap k b) (h : ∀ c, Q c s) : wpAny (model P w) A (hashByValue 8 (.ref b)) Q E s := by
  have hT := hk.typeIs
  obtain ⟨o, items, n, ho, _, hd, hi⟩ := hk
  unfold hashByValue
  refine wpAny_bind (wpAny_specialOf hT PySem.F.slot_tuple_hash.lookup ?_)
  show wpAny _ _ (seqItems? (.ref b) >>= _) _ _ s
  refine wpAny_bind (wpAny_seqItems ho hd ?_)
  refine wpAny_bind ?_
  show wpAny _ _ (forIn items _ _) _ _ s
  rw [← Array.forIn_toList]
  refine wpAny_forIn_list _ (fun rest r s' => r.1 = none ∧ s' = s ∧ ∀ v ∈ rest, (∃ i t, v = Value.int i t) ∨ ∃ i t, v = Value.str i t) _ ?_ ?_ _ _ ⟨rfl, rfl, items_key hi⟩
  · rintro v rest r s' ⟨hr, rfl, hall⟩
    rcases hall v List.mem_cons_self with ⟨i, t, rfl⟩ | ⟨i, t, rfl⟩
    · rw [show hashByValue 7 (.int i t) = pure true from rfl]
      refine wpAny_bind (wpAny_pure ?_)
      simp only [Bool.not_true, Bool.false_eq_true, if_false]
      exact wpAny_pure ⟨rfl, rfl, fun u hu' => hall u (List.mem_cons_of_mem _ hu')⟩
    · rw [show hashByValue 7 (.str i t) = pure false from rfl]
      refine wpAny_bind (wpAny_pure ?_)
      simp only [Bool.not_false, if_true]
      exact wpAny_pure (wpAny_pure (h false))
  · rintro ⟨r1, r2⟩ s' ⟨hr, rfl, _⟩
    simp only at hr
    subst hr
    exact wpAny_pure (h true)
theorem noSight {k : List Key} {b : Addr} {Q : Bool → Shared → Prop} (hk : IsK P w s.heap k b) {ys : List Value} (hy : ∀ y ∈ ys, ∃ k' c, y = Value.ref c ∧ IsK P w s.heap k' c) (h : Q false s) :
    wpAny (model P w) A (searchCouldBeSeen (.ref b) ys) Q E s := by
  unfold searchCouldBeSeen
  refine wpAny_bind ?_
  refine wpAny_forIn_list _ (fun rest r s' => r.1 = none ∧ s' = s ∧ ∀ y ∈ rest, ∃ k' c, y = Value.ref c ∧ IsK P w s.heap k' c) _ ?_ ?_ _ _ ⟨rfl, rfl, hy⟩
  · rintro v rest r s' ⟨hr, rfl, hall⟩
    obtain ⟨k', c, rfl, hc⟩ := hall v List.mem_cons_self
    have rest' : ∀ y ∈ rest, ∃ k' c, y = Value.ref c ∧ IsK P w s'.heap k' c := fun u hu' => hall u (List.mem_cons_of_mem _ hu')
    dsimp only
    by_cases hv : (b == c || (carriedByValue (.ref b) && carriedByValue (.ref c))) = true
    · refine wp_if_pos hv ?_
      exact wpAny_pure ⟨rfl, rfl, rest'⟩
    · refine wp_if_neg hv ?_
      refine wpAny_bind (wpAny_eqIsQuiet_tuple hk ?_)
      simp only [Bool.not_true, Bool.false_eq_true, if_false]
      refine wpAny_bind (wpAny_eqIsQuiet_tuple hc ?_)
      simp only [Bool.not_true, Bool.false_eq_true, if_false]
      refine wpAny_bind (noClass hk ?_)
      simp only [Bool.false_eq_true, if_false]
      refine wpAny_bind (noClass hc ?_)
      simp only [Bool.false_eq_true, if_false]
      exact wpAny_pure ⟨rfl, rfl, rest'⟩
  · rintro ⟨r1, r2⟩ s' ⟨hr, rfl, _⟩
    simp only at hr
    subst hr
    exact wpAny_pure h

/-! ### the set of tuples -/
def rowsK (P : Program) (w : World) (L : Rw) : List (Int × Value) := L.map fun p => (tpH P w p.2, Value.ref p.1)
structure SetTab (P : Program) (w : World) (h : Heap) (a : Addr) (L : Rw) (es : Array (Int × Value)) (ep : Nat) (t : SetTable) : Prop where
  ob : ∃ o, h.get? a = some o ∧ o.ExactSet ∧ o.data = .set es ep t
  rows : es.toList = rowsK P w L
  tab : TabOk t (L.map fun p => tpH P w p.2)
  nd : (L.map (·.2)).Nodup
  tup : ∀ p ∈ L, IsK P w h p.2 p.1
  led : w.params.followText "set-order" = true ∨ t.led = true
  room : L.length * 5 < t.mask * 3
  few : L.length < 64
variable {a : Addr} {L : Rw} {es : Array (Int × Value)} {ep : Nat} {t : SetTable}
theorem rowsK_size (h : es.toList = rowsK P w L) : es.size = L.length := by
  have h := congrArg List.length h
  unfold rowsK at h
  rw [Array.length_toList, List.length_map] at h
  exact h
theorem SetTab.size {g : Heap} (R : SetTab P w g a L es ep t) : es.size = L.length := rowsK_size R.rows
theorem SetTab.fits {g : Heap} (R : SetTab P w g a L es ep t) : t.fits es.size = true := by
  have h1 := R.tab.sz
  rw [List.length_map] at h1
  have h2 := R.size
  have h3 := R.room
  unfold SetTable.fits SetTable.fill
  rw [R.tab.dm, Bool.and_eq_true, beq_iff_eq, decide_eq_true_eq]
  show t.place.size = es.size ∧ t.place.size + 0 ≤ t.mask
  omega
theorem rowsK_get (h : es.toList = rowsK P w L) {i : Nat} {p : Addr × List Key} (hp : L[i]? = some p) : es[i]? = some (tpH P w p.2, Value.ref p.1) := by
  rw [← Array.getElem?_toList, h]
  unfold rowsK
  rw [List.getElem?_map, hp]; rfl
theorem SetTab.entry (R : SetTab P w s.heap a L es ep t) {i : Nat} {p : Addr × List Key} (h : L[i]? = some p) : es[i]? = some (tpH P w p.2, Value.ref p.1) := rowsK_get R.rows h
theorem SetTab.gw (R : SetTab P w s.heap a L es ep t) : ¬ t.gaveWay = true := by
  unfold SetTable.gaveWay
  rw [mask_odd R.tab.mok]
  decide
abbrev prb (m : Nat) (h : Int) (c : Nat) : SetTable.Probe := nth m (runAt m (SetTable.bits h % (m + 1)) (SetTable.bits h)) c
theorem prb_clean (m : Nat) (h : Int) (c : Nat) : (prb m h c).dummy = none := by
  have key : ∀ (n : Nat) (p : SetTable.Probe), p.dummy = none → (nth m p n).dummy = none := by
    intro n
    induction n with
    | zero => intro p h; exact h
    | succ n ih =>
      intro p h
      refine ih (adv m p) ?_
      unfold adv
      split <;> exact h
  exact key c _ rfl
/-- the search from the c-th step of its way -/
theorem seek_from (R : SetTab P w s.heap a L es ep t) {x : Addr} {k : List Key} (hx : IsK P w s.heap k x) (hu : A.units < cLine) {K : Nat} (hKf : K < 10 * SetTable.turns t.mask)
    (hK : way t.mask (tpH P w k) K ∉ t.place.toList) (hKb : ∀ c, c < K → way t.mask (tpH P w k) c ∈ t.place.toList) {Q : SetFound → Shared → Prop}
    (hin : k ∈ L.map (·.2) → Q (.there none) s) (hout : k ∉ L.map (·.2) → Q (.free (way t.mask (tpH P w k) K) false) s) :
    ∀ (f c : Nat) (stand : Option SetTable.Probe), stand.getD (t.probeStart (tpH P w k)) = prb t.mask (tpH P w k) c → c ≤ K → K - c < f →
      (∀ (i : Nat) p, L[i]? = some p → p.2 = k → ∃ c', c ≤ c' ∧ c' < K ∧ t.place.toList[i]? = some (way t.mask (tpH P w k) c')) →
      wpAny (model P w) A (setSearchFrom a (.ref x) (tpH P w k) true f stand) Q E s
  | 0, c, stand, _, _, hf, _ => absurd hf (Nat.not_lt_zero _)
  | f + 1, c, stand, hst, hc, hf, hre => by
    obtain ⟨o, ho, hex, hd⟩ := R.ob
    rw [setSearchFrom_succ]
    refine wpAny_bind (wpAny_setState_of ho hd R.fits ?_)
    dsimp only
    refine wp_if_neg R.gw ?_
    try refine wpAny_bind (wpAny_pure ?_)
    have sh : ∀ q, nth t.mask (prb t.mask (tpH P w k) c) q = prb t.mask (tpH P w k) (c + q) := fun q => (nth_add t.mask c _ q).symm
    have e1 : ∀ q, (nth t.mask (prb t.mask (tpH P w k) c) q).j = way t.mask (tpH P w k) (c + q) := fun q => congrArg SetTable.Probe.j (sh q)
    have spec := go_spec t R.tab.ris R.tab.dm (fun i => (es[i]?.map (·.1)).getD 0) (tpH P w k) (10 * SetTable.turns t.mask) (K - c) _ (prb_clean t.mask (tpH P w k) c) (by omega)
      (fun q hq => by rw [e1]; exact hKb (c + q) (by omega)) (by rw [e1, show c + (K - c) = K by omega]; exact hK)
    have hashAt : ∀ (i : Nat) p, L[i]? = some p → (fun i => (es[i]?.map (·.1)).getD 0) i = tpH P w p.2 := fun i p hp => by
      show (es[i]?.map (·.1)).getD 0 = _
      rw [R.entry hp]; rfl
    rcases spec with ⟨q, i, hq, hi, hh, hno, hpr⟩ | ⟨hno, hpr⟩
    · have hpr' : t.probe (fun i => (es[i]?.map (·.1)).getD 0) (tpH P w k) (stand.getD (t.probeStart (tpH P w k))) = some (.candidate (way t.mask (tpH P w k) (c + q)) i (prb t.mask (tpH P w k) (c + (q + 1)))) := by
        rw [hst, ← e1, ← sh]
        exact hpr
      rw [hpr']
      dsimp only
      rw [e1] at hi
      have hil : i < L.length := by
        have h1 : i < t.place.toList.length := (List.getElem?_eq_some_iff.mp hi).1
        have h2 := R.tab.sz
        rw [List.length_map] at h2
        rw [Array.length_toList] at h1
        omega
      have hp : L[i]? = some L[i] := List.getElem?_eq_getElem hil
      generalize hpe : L[i] = p at hp
      have hmem : p ∈ L := List.mem_of_getElem? hp
      have rest : wpAny (model P w) A (searchRest a (.ref x) (tpH P w k) true f es t (way t.mask (tpH P w k) (c + q)) i (prb t.mask (tpH P w k) (c + (q + 1)))) Q E s := by
        unfold searchRest
        rw [R.entry hp]
        dsimp only
        refine wpAny_bind (wpAny_holding (wpAny_eqBool_tuple hu (R.tup p hmem) hx ?_))
        refine wpAny_bind (wpAny_setState_of ho hd R.fits ?_)
        dsimp only
        by_cases hkk : p.2 = k
        · refine wp_if_pos (by simp [hkk]) ?_
          exact wpAny_pure (hin (List.mem_map.mpr ⟨p, hmem, hkk⟩))
        · refine wp_if_neg (by simp [hkk]) ?_
          try refine wpAny_bind (wpAny_pure ?_)
          rw [sameMem]
          dsimp only
          have hsl : t.slot (way t.mask (tpH P w k) (c + q)) = .live i := slot_live R.tab.ris hi
          simp only [if_true, hsl, R.entry hp]
          refine wpAny_bind (wpAny_isSame_ref_self (wpAny_bind (wpAny_pure ?_)))
          simp only [if_true]
          refine wp_if_neg (by simp [hkk]) ?_
          refine seek_from R hx hu hKf hK hKb hin hout f (c + (q + 1)) _ rfl (by omega) (by omega) fun i0 p0 h0 hk0 => ?_
          obtain ⟨c', a1, a2, a3⟩ := hre i0 p0 h0 hk0
          have far : ∀ q', q' < q → c' ≠ c + q' := fun q' hq' e => hno q' i0 hq' (by rw [e1, ← e]; exact a3) ((hashAt i0 p0 h0).trans (congrArg (tpH P w) hk0))
          have near : c' ≠ c + q := fun e => by
            rw [e] at a3
            have s0 := slot_live R.tab.ris a3
            rw [hsl] at s0
            injection s0 with s0
            rw [← s0, hp] at h0
            exact hkk ((congrArg Prod.snd (Option.some.inj h0)).trans hk0)
          refine ⟨c', ?_, a2, a3⟩
          by_cases z : c' < c + q
          · exact absurd (by omega : c' = c + (c' - c)) (far (c' - c) (by omega))
          · omega
      by_cases hl : t.led = true
      · refine wp_if_neg (by simp [hl]) ?_
        try refine wpAny_bind (wpAny_pure ?_)
        exact rest
      · refine wp_if_pos (by simp [hl]) ?_
        refine wpAny_bind (noSight hx (fun y hy => ?_) ?_)
        · obtain ⟨e, he, ee⟩ := List.mem_map.mp hy
          have he1 : e ∈ es ∧ e.1 = tpH P w k := by simpa using he
          have he2 : e ∈ es.toList := by simpa using he1.1
          rw [R.rows] at he2
          obtain ⟨p2, hp2, e2⟩ := List.mem_map.mp he2
          exact ⟨p2.2, p2.1, by rw [← ee, ← e2], R.tup p2 hp2⟩
        · refine wp_if_neg (by decide) ?_
          try refine wpAny_bind (wpAny_pure ?_)
          exact rest
    · have hpr' : t.probe (fun i => (es[i]?.map (·.1)).getD 0) (tpH P w k) (stand.getD (t.probeStart (tpH P w k))) = some (.empty (way t.mask (tpH P w k) K) none) := by
        have e2 : way t.mask (tpH P w k) K = (nth t.mask (prb t.mask (tpH P w k) c) (K - c)).j := by
          rw [e1, show c + (K - c) = K by omega]
        rw [hst, e2]
        exact hpr
      rw [hpr']
      dsimp only
      refine wpAny_pure (hout fun hm => ?_)
      obtain ⟨p0, h0, hk0⟩ := List.mem_map.mp hm
      obtain ⟨i0, hi0, e0⟩ := List.getElem_of_mem h0
      have h00 : L[i0]? = some p0 := by rw [List.getElem?_eq_getElem hi0, e0]
      obtain ⟨c', a1, a2, a3⟩ := hre i0 p0 h00 hk0
      exact hno (c' - c) i0 (by omega) (by rw [e1, show c + (c' - c) = c' by omega]; exact a3) ((hashAt i0 p0 h00).trans (congrArg (tpH P w) hk0))
theorem seek (R : SetTab P w s.heap a L es ep t) {x : Addr} {k : List Key} (hx : IsK P w s.heap k x) (hu : A.units < cLine) {Q : SetFound → Shared → Prop}
    (hin : k ∈ L.map (·.2) → Q (.there none) s)
    (hout : ∀ K, k ∉ L.map (·.2) → way t.mask (tpH P w k) K ∉ t.place.toList → (∀ c, c < K → way t.mask (tpH P w k) c ∈ t.place.toList) → Q (.free (way t.mask (tpH P w k) K) false) s) :
    wpAny (model P w) A (setSearch a (.ref x) (tpH P w k) true) Q E s := by
  have hroom := R.room
  obtain ⟨K, hKf, hK, hKb⟩ := R.tab.first (by rw [List.length_map]; omega) (tpH P w k)
  have hbig : K < 100000 := by
    have : 10 * SetTable.turns t.mask ≤ 1420 := by
      unfold SetTable.turns
      rcases R.tab.mok with e | e | e <;> omega
    omega
  unfold setSearch
  refine seek_from R hx hu hKf hK hKb hin (fun hn => hout K hn hK hKb) 100000 0 none rfl (Nat.zero_le _) (by omega) fun i p hp hk => ?_
  have hi : (L.map fun p => tpH P w p.2)[i]? = some (tpH P w k) := by rw [List.getElem?_map, hp, ← hk]; rfl
  have hil : i < t.place.toList.length := by
    have h1 : i < L.length := (List.getElem?_eq_some_iff.mp hp).1
    have h2 := R.tab.sz
    rw [List.length_map] at h2
    rw [Array.length_toList]
    omega
  have hj := List.getElem?_eq_getElem hil
  obtain ⟨c, hc, e⟩ := R.tab.before hK hi hj
  exact ⟨c, Nat.zero_le _, hc, by rw [hj, e]⟩
end
end Bx
set_option Elab.async false
set_option linter.all false
set_option maxRecDepth 100000
set_option maxHeartbeats 2000000
/-! S1: adding to a set of tuples. -/
namespace Bx
open PySem PySem.Spec PyProof.Rows L2
section
variable {P : Program} {w : World} {A : Around} {E : Value → Shared → Prop} {s : Shared} {a : Addr} {L : Rw} {es : Array (Int × Value)} {ep : Nat} {t : SetTable}
theorem isK_same {h h' : Heap} {k : List Key} {a b : Addr} {o : Obj} {es : Array (Int × Value)} {ep : Nat} {t : SetTable} (hb : IsK P w h k b) (ho : h.get? a = some o) (hd : o.data = .set es ep t) (hs : Heap.SameBut a h h') : IsK P w h' k b := by
  obtain ⟨o', items, n, ho', hc, hd', hi⟩ := hb
  have hne : b ≠ a := by
    rintro rfl
    obtain rfl : o' = o := Option.some.inj (ho'.symm.trans ho)
    rw [hd] at hd'
    exact nomatch hd'
  exact ⟨o', items, n, (hs.2 b hne).trans ho', hc, hd', hi⟩
theorem isK_keep {h h' : Heap} {k : List Key} {b : Addr} (x : IsK P w h k b) (hk : ∀ c o, h.get? c = some o → h'.get? c = some o) : IsK P w h' k b := by
  obtain ⟨o, items, n, ho, r⟩ := x
  exact ⟨o, items, n, hk b o ho, r⟩
theorem rowsK_put (L : Rw) (p : Nat) (x : Addr) (k : List Key) : rowsK P w (L.take p ++ (x, k) :: L.drop p) = (rowsK P w L).take p ++ (tpH P w k, Value.ref x) :: (rowsK P w L).drop p := by
  unfold rowsK
  rw [List.map_append, List.map_cons, List.map_take, List.map_drop]
theorem range_get_all {α : Type} (L : List α) : (List.range L.length).filterMap (fun i => L[i]?) = L := by
  have key : ∀ n, n ≤ L.length → (List.range n).filterMap (fun i => L[i]?) = L.take n := by
    intro n
    induction n with
    | zero => intro _; rfl
    | succ n ih =>
      intro hn
      rw [List.range_succ, List.filterMap_append, ih (Nat.le_of_lt hn), List.take_succ, List.getElem?_eq_getElem hn, List.filterMap_cons_some (List.getElem?_eq_getElem hn)]
      rfl
  rw [key L.length (Nat.le_refl _), List.take_length]
theorem rows_order (L : Rw) (es : Array (Int × Value)) (order : Array Nat) (hr : es.toList = rowsK P w L) (hp : order.toList.Perm (List.range L.length)) :
    ∃ L2, (order.filterMap (es[·]?)).toList = rowsK P w L2 ∧ L2.Perm L ∧ (L2.map fun p => tpH P w p.2) = order.toList.map fun i => (es.map (·.1)).getD i 0 := by
  have hsz : es.size = L.length := rowsK_size hr
  have key : ∀ l : List Nat, (∀ i ∈ l, i < L.length) → l.filterMap (fun i => es[i]?) = rowsK P w (l.filterMap fun i => L[i]?) ∧ ((l.filterMap fun i => L[i]?).map fun p => tpH P w p.2) = l.map fun i => (es.map (·.1)).getD i 0 := by
    intro l
    induction l with
    | nil => intro _; exact ⟨rfl, rfl⟩
    | cons i l ih =>
      intro hl
      have hi := hl i List.mem_cons_self
      obtain ⟨e1, e3⟩ := ih fun j hj => hl j (List.mem_cons_of_mem _ hj)
      have ent := rowsK_get hr (List.getElem?_eq_getElem hi)
      rw [List.filterMap_cons_some ent, List.filterMap_cons_some (List.getElem?_eq_getElem hi), e1, List.map_cons, List.map_cons, e3]
      refine ⟨rfl, ?_⟩
      have e5 : (es.map (·.1))[i]? = some (tpH P w (L[i]).2) := by rw [Array.getElem?_map, ent]; rfl
      rw [show (es.map (·.1)).getD i 0 = tpH P w (L[i]).2 by simp [Array.getD_eq_getD_getElem?, e5]]
  obtain ⟨e1, e3⟩ := key order.toList fun i hi => List.mem_range.mp (hp.mem_iff.mp hi)
  refine ⟨_, by first | (rw [Array.toList_filterMap]; exact e1) | simpa using e1, ?_, e3⟩
  have h1 := hp.filterMap fun i => L[i]?
  rw [range_get_all] at h1
  exact h1
/-- the table laid anew -/
theorem relay_to {o : Obj} (ho : s.heap.get? a = some o) (hex : o.ExactSet) (hd : o.data = .set es ep t) (hrows : es.toList = rowsK P w L) (hsz : t.place.size = es.size) (hdm : t.dummies = #[]) (hfl : es.size ≤ t.mask)
    (nd : (L.map (·.2)).Nodup) (tup : ∀ p ∈ L, IsK P w s.heap p.2 p.1) (ld : w.params.followText "set-order" = true ∨ t.led = true) (few : L.length < 64) {wanted M : Nat}
    (hw : SetTable.sizeAbove wanted - 1 = M) (hM : MaskOk M) (hw2 : SetTable.sizeAbove wanted ≤ 128) (hn : L.length * 5 < M * 3) {Q : Unit → Shared → Prop}
    (hQ : ∀ h' L' es' ep' t', Heap.SameBut a s.heap h' → SetTab P w h' a L' es' ep' t' → L'.Perm L → Q () { s with heap := h' }) : wpAny (model P w) A (setRelay a wanted) Q E s := by
  have hsl : es.size = L.length := rowsK_size hrows
  have hfits : t.fits es.size = true := by
    unfold SetTable.fits SetTable.fill
    rw [hdm, Bool.and_eq_true, beq_iff_eq, decide_eq_true_eq]
    show t.place.size = es.size ∧ t.place.size + 0 ≤ t.mask
    omega
  obtain ⟨t', order, e, hp, T, em, el, ep', ed⟩ := relaid_ok t (hs := es.map (·.1)) (wanted := wanted) hw hM (by rw [Array.size_map, hsl]; omega)
  rw [Array.size_map, hsl] at hp
  obtain ⟨L2, r1, r2, r3⟩ := rows_order L es order hrows hp
  rw [← r3] at T
  have hs2 : (order.filterMap (es[·]?)).size = es.size := by rw [rowsK_size r1, r2.length_eq, hsl]
  rw [setRelay_eq]
  refine wpAny_bind (wpAny_setState_of ho hd hfits ?_)
  dsimp only
  refine wp_if_neg (by rw [sizeLine_eq]; omega) ?_
  try refine wpAny_bind (wpAny_pure ?_)
  rw [e]
  dsimp only
  refine wpAny_bind ?_
  refine wp_if_neg (by rw [hs2]; simp) ?_
  try refine wpAny_bind (wpAny_pure ?_)
  refine wpAny_pure ?_
  dsimp only
  refine wpAny_storeSet_of ho hd ?_ (by rw [hs2, hsl, sizeLine_eq]; omega)
  have sb : Heap.SameBut a s.heap (s.heap.update a (Obj.putSet (order.filterMap (es[·]?)) t')) := Heap.SameBut.update ..
  refine hQ _ L2 (order.filterMap (es[·]?)) (ep + 1) t' sb ?_ r2
  exact ⟨⟨_, store_at ho hd, ⟨hex.1, hex.2.1, hex.2.2⟩, rfl⟩, r1, T, (r2.map (·.2)).nodup_iff.mpr nd, fun p hpm => isK_same (tup p (r2.mem_iff.mp hpm)) ho hd sb, by rw [el]; exact ld, by rw [r2.length_eq, em]; exact hn, by rw [r2.length_eq]; exact few⟩
/-- adding -/
theorem add_tab (R : SetTab P w s.heap a L es ep t) {x : Addr} {k : List Key} (hx : IsK P w s.heap k x) (hu : A.units < cLine) (hfew : k ∉ L.map (·.2) → L.length + 1 < 64) {Q : Bool → Shared → Prop}
    (hQ : ∀ b h' L' es' ep' t', Heap.SameBut a s.heap h' → SetTab P w h' a L' es' ep' t' → (k ∈ L.map (·.2) → L' = L) → (k ∉ L.map (·.2) → L'.Perm ((x, k) :: L)) → Q b { s with heap := h' }) :
    wpAny (model P w) A (setAddHashed a (.ref x) (tpH P w k)) Q E s := by
  obtain ⟨o, ho, hex, hd⟩ := R.ob
  have hsl := R.size
  have hroom := R.room
  unfold setAddHashed
  refine wpAny_holding ?_
  rw [show (100000 : Nat) = 99999 + 1 from rfl, setAddHashedIn_succ]
  refine wpAny_bind (wpAny_setState_of ho hd R.fits ?_)
  dsimp only
  refine wp_if_neg (by simp [byScan, Value.scannable]) ?_
  try refine wpAny_bind (wpAny_pure ?_)
  refine wpAny_bind (seek R hx hu (fun hm => ?_) fun K hm hK hb => ?_)
  · dsimp only
    exact wpAny_pure (hQ false s.heap L es ep t (Heap.SameBut.refl a s.heap) R (fun _ => rfl) fun z => absurd hm z)
  · dsimp only
    have hfew := hfew hm
    refine wpAny_bind (wpAny_setState_of ho hd R.fits ?_)
    dsimp only
    obtain ⟨q1, q2, q3, q4, q5, q6, q7, q8, q9⟩ := R.tab.put hK hb
    generalize hpt : t.put (way t.mask (tpH P w k) K) = pt at q1 q3 q4 q5 q6 q7 q8 q9 ⊢
    obtain ⟨t0, p⟩ := pt
    dsimp only at q1 q3 q4 q5 q6 q7 q8 q9 ⊢
    subst q1
    have hin : (SetTable.insertAt es (SetTable.below t.place (way t.mask (tpH P w k) K)) (tpH P w k, Value.ref x)).toList = rowsK P w (L.take (SetTable.below t.place (way t.mask (tpH P w k) K)) ++ (x, k) :: L.drop (SetTable.below t.place (way t.mask (tpH P w k) K))) := by
      rw [SetTable.toList_insertAt, rowsK_put, R.rows]
    generalize hpp : SetTable.below t.place (way t.mask (tpH P w k) K) = p at q2 q3 hin ⊢
    have pm := put_perm L p (x, k)
    have hlen : (L.take p ++ (x, k) :: L.drop p).length = L.length + 1 := pm.length_eq
    have hhs : (L.take p ++ (x, k) :: L.drop p).map (fun p => tpH P w p.2) = (L.map fun p => tpH P w p.2).take p ++ tpH P w k :: (L.map fun p => tpH P w p.2).drop p := by
      rw [List.map_append, List.map_cons, List.map_take, List.map_drop]
    rw [← hhs] at q3
    have nd1 : ((L.take p ++ (x, k) :: L.drop p).map (·.2)).Nodup := by
      refine (pm.map (·.2)).nodup_iff.mpr ?_
      rw [List.map_cons]
      exact List.nodup_cons.mpr ⟨hm, R.nd⟩
    have hes : (SetTable.insertAt es p (tpH P w k, Value.ref x)).size = L.length + 1 := by rw [rowsK_size hin, hlen]
    generalize SetTable.insertAt es p (tpH P w k, Value.ref x) = es1 at hin hes ⊢
    generalize L.take p ++ (x, k) :: L.drop p = L1 at pm hlen q3 nd1 hin
    -- what follows the question whether the hash is by value
    have tail : ∀ t1 : SetTable, t1.place = t0.place → t1.dummies = t0.dummies → t1.mask = t0.mask → t1.led = t0.led →
        wpAny (model P w) A (do
          storeSet a es1 t1
          if (!false && t1.tooFull) = true then do
            setRelay a (SetTable.grown (es.size + 1))
            pure true
          else pure true) Q E s := fun t1 e1 e2 e3 e4 => by
      have q3 : TabOk t1 (L1.map fun p => tpH P w p.2) := ⟨by rw [e1]; exact q3.ris, by rw [e2]; exact q3.dm, by rw [e1]; exact q3.sz, by rw [e3]; exact q3.mok, by rw [e1, e3]; exact q3.bd, by rw [e1, e3]; exact q3.reach⟩
      have q4 : t1.mask = t.mask := e3.trans q4
      have q9 : t1.fill = (L.map fun p => tpH P w p.2).length + 1 := by
        rw [← q9]
        unfold SetTable.fill
        rw [e1, e2]
      refine wpAny_bind (wpAny_storeSet_of ho hd ?_ (by rw [hes, sizeLine_eq]; omega))
      have sb : Heap.SameBut a s.heap (s.heap.update a (Obj.putSet es1 t1)) := Heap.SameBut.update ..
      have ho1 := store_at (es' := es1) (t' := t1) ho hd
      generalize s.heap.update a (Obj.putSet es1 t1) = h1 at sb ho1 ⊢
      have tup1 : ∀ p ∈ L1, IsK P w h1 p.2 p.1 := fun p hp => by
        rcases List.mem_cons.mp (pm.mem_iff.mp hp) with e | hp
        · rw [e]; exact isK_same hx ho hd sb
        · exact isK_same (R.tup p hp) ho hd sb
      have ld1 : w.params.followText "set-order" = true ∨ t1.led = true := by rw [e4, q5]; exact R.led
      by_cases hf : t1.tooFull = true
      · refine wp_if_pos (by simp [hf]) ?_
        refine wpAny_bind ?_
        have hfull : (L.length + 1) * 5 ≥ t1.mask * 3 := by
          have h := hf
          unfold SetTable.tooFull at h
          rw [decide_eq_true_eq, q9, List.length_map] at h
          exact h
        rw [hsl]
        have hsz1 : t1.place.size = es1.size := by
          have h := q3.sz
          rw [List.length_map, hlen] at h
          rw [h, hes]
        have cases2 : (t.mask = 7 ∧ L.length = 4) ∨ (t.mask = 31 ∧ L.length = 18) := by
          rcases R.tab.mok with e | e | e
          · left; rw [q4, e] at hfull; rw [e] at hroom; exact ⟨e, by omega⟩
          · right; rw [q4, e] at hfull; rw [e] at hroom; exact ⟨e, by omega⟩
          · exfalso; rw [q4, e] at hfull; omega
        have go : ∀ M, SetTable.sizeAbove (SetTable.grown (L.length + 1)) - 1 = M → MaskOk M → SetTable.sizeAbove (SetTable.grown (L.length + 1)) ≤ 128 → (L.length + 1) * 5 < M * 3 →
            wpAny (model P w) A (setRelay a (SetTable.grown (L.length + 1))) (fun _ s' => wpAny (model P w) A (pure true) Q E s') E { s with heap := h1 } := fun M h1' h2' h3' h4' => by
          refine relay_to (s := { s with heap := h1 }) ho1 ⟨hex.1, hex.2.1, hex.2.2⟩ rfl hin hsz1 q3.dm (by rw [hes, q4]; rcases cases2 with ⟨e, e2⟩ | ⟨e, e2⟩ <;> omega) nd1 tup1 ld1 (by rw [hlen]; exact hfew) h1' h2' h3' (by rw [hlen]; exact h4') ?_
          intro h2 L2 es2 ep2 t2 sb2 R2 pm2
          exact wpAny_pure (hQ true h2 L2 es2 ep2 t2 (sb.trans sb2) R2 (fun z => absurd z hm) fun _ => pm2.trans pm)
        rcases cases2 with ⟨_, e2⟩ | ⟨_, e2⟩
        · exact go 31 (by rw [e2, size_20]) (.inr (.inl rfl)) (by rw [e2, size_20]; decide) (by omega)
        · exact go 127 (by rw [e2, size_76]) (.inr (.inr rfl)) (by rw [e2, size_76]; decide) (by omega)
      · refine wp_if_neg (by simp [hf]) ?_
        refine wpAny_pure (hQ true h1 L1 es1 (ep + 1) t1 sb ⟨⟨_, ho1, ⟨hex.1, hex.2.1, hex.2.2⟩, rfl⟩, hin, q3, nd1, tup1, ld1, ?_, by rw [hlen]; exact hfew⟩ (fun z => absurd z hm) fun _ => pm)
        have h := hf
        unfold SetTable.tooFull at h
        rw [decide_eq_true_eq, q9, List.length_map] at h
        rw [hlen]
        omega
    by_cases hp1 : t0.plain = true
    · refine wp_if_pos hp1 (wpAny_bind (byVal_any hx fun c => ?_))
      cases c with
      | true => exact tail t0 rfl rfl rfl rfl
      | false => exact tail { t0 with plain := false } rfl rfl rfl rfl
    · refine wp_if_neg hp1 (wpAny_bind (wpAny_pure ?_))
      exact tail t0 rfl rfl rfl rfl
end
end Bx
set_option Elab.async false
set_option linter.all false
set_option maxRecDepth 100000
set_option maxHeartbeats 4000000
/-! S2: set(xs), its members gathered, for kinds of elements (printed by gen/s2.py). -/
namespace Bx
open PySem PySem.Spec PyProof.Rows L2
abbrev freshS (w : World) : Obj := { cls := .type "set", dict := none, data := .set #[] 0 (.fresh 0 0 (!w.params.followText "set-order")) }
/-- what a set of such elements has to do; ks: what is put in -/
structure SKind (P : Program) (w : World) (α : Type) [DecidableEq α] (ks : List (Value × α)) where
  ok : Heap → Prop
  okK : ∀ h h', ok h → (∀ c o, h.get? c = some o → h'.get? c = some o) → ok h'
  set : Heap → Addr → List (Value × α) → Prop
  new : ∀ h a, h.get? a = some (freshS w) → set h a []
  keep : ∀ h h' a L, set h a L → (∀ o, h.get? a = some o → h'.get? a = some o) → ok h' → (∀ p ∈ L, p ∈ ks) → set h' a L
  add : ∀ (A : Around) (E : Value → Shared → Prop) (s : Shared) (a : Addr) (L : List (Value × α)) (p : Value × α) (Q : Bool → Shared → Prop), set s.heap a L → ok s.heap → p ∈ ks → (∀ q ∈ L, q ∈ ks) → A.units < cLine → (p.2 ∉ L.map (·.2) → L.length + 1 < 64) →
    (∀ b h' tk L', Heap.SameBut a s.heap h' → s.toks ≤ tk → set h' a L' → (p.2 ∈ L.map (·.2) → L' = L) → (p.2 ∉ L.map (·.2) → L'.Perm (p :: L)) → Q b { s with heap := h', toks := tk }) → wpAny (model P w) A (setAdd a p.1) Q E s
  nd : ∀ h a L, set h a L → (L.map (·.2)).Nodup
  out : ∀ h a L, set h a L → ∃ es ep t, SetAt h a es ep t ∧ t.fits es.size = true ∧ Ris t.place.toList ∧ (w.params.followText "set-order" = true ∨ t.led = true) ∧ (es.toList.map (·.2)).Perm (L.map (·.1)) ∧ es.size = L.length ∧ ∃ o, h.get? a = some o ∧ o.ExactSet ∧ o.data = .set es ep t
structure Takes {α : Type} [DecidableEq α] (ks : List (Value × α)) (i : Nat) (L : List (Value × α)) : Prop where
  sub : ∀ p ∈ L, p ∈ ks.take i
  all : ∀ p ∈ ks.take i, p.2 ∈ L.map (·.2)
section
variable {α : Type} [DecidableEq α] {ks L L' : List (Value × α)} {i : Nat} {x : Value × α}
theorem Takes.zero : Takes ks 0 [] := ⟨fun p h => (by cases h), fun p h => (by simp at h)⟩
theorem Takes.same (g : Takes ks i L) (h : ks[i]? = some x) (hm : x.2 ∈ L.map (·.2)) : Takes ks (i + 1) L := by
  refine ⟨fun p hp => ?_, fun p hp => ?_⟩
  · rw [take_succ' h]; exact List.mem_append_left _ (g.sub p hp)
  · rw [take_succ' h] at hp
    rcases List.mem_append.mp hp with q | q
    · exact g.all p q
    · rw [List.mem_singleton.mp q]; exact hm
theorem Takes.more (g : Takes ks i L) (h : ks[i]? = some x) (pm : L'.Perm (x :: L)) : Takes ks (i + 1) L' := by
  refine ⟨fun p hp => ?_, fun p hp => ?_⟩
  · rw [take_succ' h]
    rcases List.mem_cons.mp (pm.mem_iff.mp hp) with q | q
    · rw [q]; exact List.mem_append_right _ (List.mem_singleton.mpr rfl)
    · exact List.mem_append_left _ (g.sub p q)
  · refine (pm.map (·.2)).mem_iff.mpr ?_
    rw [List.map_cons, List.mem_cons]
    rw [take_succ' h] at hp
    rcases List.mem_append.mp hp with q | q
    · exact .inr (g.all p q)
    · rw [List.mem_singleton.mp q]; exact .inl rfl
theorem Takes.len (g : Takes ks i L) (nd : (L.map (·.2)).Nodup) (hi : i ≤ ks.length) : L.length ≤ (dd (ks.map (·.2))).length := by
  have := nodup_len (m := dd (ks.map (·.2))) nd fun y hy => by
    obtain ⟨p, hp, rfl⟩ := List.mem_map.mp hy
    exact mem_dd.mpr (List.mem_map.mpr ⟨p, List.mem_of_mem_take (g.sub p hp), rfl⟩)
  rwa [List.length_map] at this
theorem Takes.perm (g : Takes ks ks.length L) (nd : (L.map (·.2)).Nodup) : (L.map (·.2)).Perm (dd (ks.map (·.2))) :=
  (List.perm_ext_iff_of_nodup nd (nodup_dd _)).mpr fun y => by
    rw [mem_dd, List.mem_map, List.mem_map]
    constructor
    · rintro ⟨p, hp, rfl⟩
      exact ⟨p, List.mem_of_mem_take (g.sub p hp), rfl⟩
    · rintro ⟨p, hp, rfl⟩
      obtain ⟨q, hq, e⟩ := List.mem_map.mp (g.all p (by rw [List.take_length]; exact hp))
      exact ⟨q, hq, e⟩
end
section
variable {P : Program} {w : World} {A : Around} {E : Value → Shared → Prop} {s : Shared} {α : Type} [DecidableEq α] {ks : List (Value × α)}
theorem set_take {I : Addr} {fp wr : List Addr} {G : Array GenState → Array GenState → Prop} {n : Nat} {Pv : Nat → Value → Prop} {St : Nat → Shared → Prop} {R : Result → Shared → Prop} (K : SKind P w α ks)
    (W : WalksS P w A.in1 I fp wr G n Pv St) (S : Addr) (hSf : S ∉ fp) (hn : n = ks.length) (hfew : (dd (ks.map (·.2))).length < 63) (hval : ∀ i v, Pv i v → ∃ p, ks[i]? = some p ∧ v = p.1)
    (h0 : Heap) (hk : K.ok h0) (hS0 : h0.get? S = none) (hw0 : ∀ b ∈ wr, h0.get? b = none) (hu : A.in1.units < cLine) :
    ∀ (k i : Nat) (s : Shared), n - i = k → i ≤ n → St i s → (∀ b o, h0.get? b = some o → s.heap.get? b = some o) → (∃ L, K.set s.heap S L ∧ Takes ks i L) →
      (∀ s' L, Moved (S :: wr) G s s' → K.set s'.heap S L → Takes ks n L → (∀ b o, h0.get? b = some o → s'.heap.get? b = some o) → R (.ok (.ret .none)) s') →
      codeAny (model P w) A (.builtin "set.update.loop" ⟨[.ref S, .ref I], []⟩) R s := by
  have hSw : S ∉ wr := fun h => hSf (W.sub _ h)
  have hsub : ∀ b ∈ wr, b ∈ S :: wr := fun b hb => List.mem_cons_of_mem _ hb
  have keepM : ∀ {s s' : Shared}, Moved wr G s s' → (∀ b o, h0.get? b = some o → s.heap.get? b = some o) → ∀ b o, h0.get? b = some o → s'.heap.get? b = some o := fun hm hkp b o e =>
    hm.heap b o (fun hb => by rw [hw0 b hb] at e; cases e) (hkp b o e)
  intro k
  induction k with
  | zero =>
    intro i s hk' hi hst hkp ⟨L, hS, g⟩ hR
    have hin : i = n := by omega
    subst hin
    refine codeAny_builtin F.entry_set_update_loop ?_
    rw [Around.under_plainId F.plain_set_update_loop _]
    show wpAny _ A.in1 (pyNext (.ref I) >>= _) _ _ s
    refine wpAny_bind (W.done s _ _ hst fun s' hm => ?_)
    show wpAny _ A.in1 (ret Value.none) _ _ s'
    have hkp' := keepM hm hkp
    exact wpAny_pure (hR s' L (hm.mono hsub) (K.keep _ _ _ _ hS (fun o e => hm.heap S o hSw e) (K.okK _ _ hk hkp') fun p hp => List.mem_of_mem_take (g.sub p hp)) g hkp')
  | succ k ih =>
    intro i s hk' hi hst hkp ⟨L, hS, g⟩ hR
    have hlt : i < n := by omega
    refine codeAny_builtin F.entry_set_update_loop ?_
    rw [Around.under_plainId F.plain_set_update_loop _]
    show wpAny _ A.in1 (pyNext (.ref I) >>= _) _ _ s
    refine wpAny_bind (W.item i s _ _ hlt hst fun v s' hP hst' hm => ?_)
    obtain ⟨p, hp, rfl⟩ := hval i v hP
    have hkp' := keepM hm hkp
    have hok' := K.okK _ _ hk hkp'
    have sub : ∀ p ∈ L, p ∈ ks := fun p hp => List.mem_of_mem_take (g.sub p hp)
    have hS' : K.set s'.heap S L := K.keep _ _ _ _ hS (fun o e => hm.heap S o hSw e) hok' sub
    show wpAny _ A.in1 (holding [p.1] (setAdd S p.1) >>= _) _ _ s'
    refine wpAny_bind (wpAny_holding ?_)
    refine K.add A.in1 _ s' S L p _ hS' hok' (List.mem_of_getElem? hp) sub hu (fun _ => by have := g.len (K.nd _ _ _ hS) (by omega); omega) fun b h' tk L' hsb htk hS2 c1 c2 => ?_
    have g' : Takes ks (i + 1) L' := by
      by_cases c : p.2 ∈ L.map (·.2)
      · rw [c1 c]; exact g.same hp c
      · exact g.more hp (c2 c)
    have hkp2 : ∀ b o, h0.get? b = some o → h'.get? b = some o := fun b o e => (hsb.2 b (fun z => by rw [z, hS0] at e; cases e)).trans (hkp' b o e)
    refine wpAny_pure ⟨plainId_quiet F.plain_set_update_loop _, ih (i + 1) _ (by omega) hlt (W.frame _ s' _ _ hst' htk fun b hb o e => ?_) hkp2 ⟨L', hS2, g'⟩ fun s'' L2 hm'' hS'' g'' hkp'' => ?_⟩
    · rw [hsb.2 b (fun h : b = S => hSf (by rw [← h]; exact hb))]; exact e
    · refine hR s'' L2 (Moved.trans W.gtrans ((hm.mono hsub).then_heap htk fun b o hb e => ?_) hm'') hS'' g'' hkp''
      rw [hsb.2 b (fun h : b = S => hb (by rw [h]; exact List.mem_cons_self))]; exact e

theorem set_of_list {l : Addr} {items : Array Value} {Q : Value → Shared → Prop} (K : SKind P w α ks) (hh : A.handled = none) (hl : s.heap.IsList l items) (hit : items.toList = ks.map (·.1))
    (hk : K.ok s.heap) (hfew : (dd (ks.map (·.2))).length < 63) (hu : A.units + 3 < cLine)
    (h : ∀ (h' : Heap) (tk : Nat) L, K.set h' s.heap.objs.size L → Takes ks ks.length L → (∀ b o, s.heap.get? b = some o → h'.get? b = some o) → Q (.ref s.heap.objs.size) { s with heap := h', toks := tk }) :
    wpAny (model P w) A (call (.type "set") [.ref l]) Q E s := by
  have hisz : items.size = ks.length := by
    have q := congrArg List.length hit
    rw [Array.length_toList, List.length_map] at q
    exact q
  obtain ⟨c, tl, hmro⟩ := PySem.F.called_set.mro
  have hmade := PySem.F.called_set.made
  have hsub := PySem.F.called_set.sub
  refine wpAny_call (codeAny_of_tree ?_)
  show wpAny _ _ (callAny (.type "set") _) _ _ _
  refine wpAny_pure ⟨Code.quiet_builtin _ (by decide +kernel), codeAny_builtin PySem.F.entry_type_call ?_⟩
  rw [Around.under_plain (weight_type_call_type "set" [.ref l] []) rfl]
  have h1 := PySem.F.called_set.notType
  have h2 := PySem.F.called_set.canCreate
  have hct := PySem.F.typeCall_set_1 (.ref l)
  repeat (any_goals (first | assumption | wp_step))
  refine codeAny_mono (code_set_led1 (.ref l) (E := E) (Q₁ := fun obj s₁ => obj = .ref s.heap.objs.size ∧ s₁ = { s with heap := s.heap.push (freshS w) }) ⟨rfl, rfl⟩) fun r s₁ hr => ?_
  cases r with
  | error e => exact hr
  | ok fl =>
    cases fl with
    | ret obj =>
      obtain ⟨rfl, rfl⟩ := hr
      have hS : (s.heap.push (freshS w)).get? s.heap.objs.size = some (freshS w) := Heap.get?_push_size _ rfl
      have hT : Shared.TypeIs { s with heap := s.heap.push (freshS w) } (.ref s.heap.objs.size) "set" := ⟨_, hS, rfl⟩
      have hli := PySem.F.called_set.init.lookup
      have hbi := PySem.F.called_set.init.bind (.ref s.heap.objs.size)
      repeat (any_goals (first | assumption | wp_step))
      refine codeAny_mono (codeAny_call_builtin (R := wants (fun r s₂ => r = .none ∧ ∃ h' tk L, s₂ = { s with heap := h', toks := tk } ∧ K.set h' s.heap.objs.size L ∧ Takes ks ks.length L ∧ (∀ b o, s.heap.get? b = some o → h'.get? b = some o)) E) PySem.F.called_set.init.plain PySem.F.entry_set_init (check_set_init_1 hT ?_)) fun r₂ s₂ hr₂ => ?_
      · obtain ⟨ol, hol, hcl, nl, hdl⟩ := hl
        obtain ⟨ocls, odict, odata, oslots⟩ := ol
        simp only at hcl hdl
        subst hcl; subst hdl
        have hol' : (s.heap.push (freshS w)).get? l = some { cls := .type "list", dict := odict, data := .seq items nl, slots := oslots } := Heap.get?_push_of_some _ hol
        have hsls := PySem.F.sub_list_set
        have hslf := PySem.F.sub_list_frozenset
        have hne : (Value.type "list" == Value.type "dict") = false := by decide
        have hl1 : (s.heap.push (freshS w)).IsList l items := ⟨_, hol', rfl, nl, rfl⟩
        unfold Builtin.«set.__init__» noKeywords Builtin.Frozenset.updateFrom
        generalize hPI : pyIter = PI
        wp_walk
        subst hPI
        refine wpAny_pyIter_list hl1 ?_
        refine wpAny_bind (wpAny_runValue ?_)
        have hlS : l < s.heap.objs.size := Heap.lt_size hol
        have hh3 : A.in1.in1.in1.handled = none := by simp [hh]
        have hneI : l ≠ (s.heap.push (freshS w)).objs.size := by
          rw [Heap.size_push]; exact Nat.ne_of_lt (Nat.lt_succ_of_lt hlS)
        have hSf : s.heap.objs.size ∉ [(s.heap.push (freshS w)).objs.size, l] := by
          rw [Heap.size_push]; simp only [List.mem_cons, List.mem_singleton, List.not_mem_nil, or_false, not_or]
          exact ⟨Nat.ne_of_lt (Nat.lt_succ_self _), Nat.ne_of_gt hlS⟩
        have hval : ∀ (i : Nat) (v : Value), items[i]? = some v → ∃ p, ks[i]? = some p ∧ v = p.1 := fun i v hv => by
          have q : items.toList[i]? = some v := by rw [Array.getElem?_toList]; exact hv
          rw [hit, List.getElem?_map] at q
          obtain ⟨p, hp, e⟩ := Option.map_eq_some_iff.mp q
          exact ⟨p, hp, e.symm⟩
        have none_of : ∀ b, s.heap.objs.size ≤ b → s.heap.get? b = none := fun b hb => by
          cases q : s.heap.get? b with
          | none => rfl
          | some o => exact absurd (Nat.lt_of_lt_of_le (Heap.lt_size q) hb) (Nat.lt_irrefl _)
        refine set_take K ((Walks.list hh3 _ l hneI items).toS) s.heap.objs.size hSf hisz hfew hval s.heap hk (none_of _ (Nat.le_refl _)) (fun b hb => none_of b (by
            rw [List.mem_singleton.mp hb, Heap.size_push]
            exact Nat.le_succ _)) hu (items.size - 0) 0 _ (by omega) (Nat.zero_le _)
          ⟨⟨_, Heap.get?_push_size _ rfl, rfl, rfl⟩, (hl1.push _)⟩ (fun b o e => Heap.get?_push_of_some _ (Heap.get?_push_of_some _ e)) ?hS0 ?hR
        case hS0 => exact ⟨[], K.new _ _ (Heap.get?_push_of_some _ hS), Takes.zero⟩
        case hR =>
          intro s' L hm hS' g' hkp
          obtain ⟨h', g2, d', tk', os'⟩ := s'
          have eg : g2 = s.gens := hm.gens
          have ed : d' = s.drawn := hm.drawn
          have eo : os' = s.os := hm.os
          subst eg; subst ed; subst eo
          show wpAny _ _ _ _ _ _
          refine wpAny_pure ?_
          show wpAny _ _ (ret Value.none) _ _ _
          rw [hisz] at g'
          exact wpAny_pure ⟨rfl, h', tk', L, rfl, hS', g', hkp⟩
      · cases r₂ with
        | error e => exact hr₂
        | ok fl₂ =>
          cases fl₂ with
          | ret r =>
            obtain ⟨rfl, h', tk, L, rfl, hS', g', hk'⟩ := hr₂
            repeat (any_goals (first | assumption | wp_step))
            exact h _ _ _ hS' g' hk'
          | _ => exact hr₂.elim
    | _ => exact hr.elim

theorem set_of_tuple {l : Addr} {items : Array Value} {Q : Value → Shared → Prop} (K : SKind P w α ks) (hh : A.handled = none) (hl : s.heap.IsTuple l items) (hit : items.toList = ks.map (·.1))
    (hk : K.ok s.heap) (hfew : (dd (ks.map (·.2))).length < 63) (hu : A.units + 3 < cLine)
    (h : ∀ (h' : Heap) (tk : Nat) L, K.set h' s.heap.objs.size L → Takes ks ks.length L → (∀ b o, s.heap.get? b = some o → h'.get? b = some o) → Q (.ref s.heap.objs.size) { s with heap := h', toks := tk }) :
    wpAny (model P w) A (call (.type "set") [.ref l]) Q E s := by
  have hisz : items.size = ks.length := by
    have q := congrArg List.length hit
    rw [Array.length_toList, List.length_map] at q
    exact q
  obtain ⟨c, tl, hmro⟩ := PySem.F.called_set.mro
  have hmade := PySem.F.called_set.made
  have hsub := PySem.F.called_set.sub
  refine wpAny_call (codeAny_of_tree ?_)
  show wpAny _ _ (callAny (.type "set") _) _ _ _
  refine wpAny_pure ⟨Code.quiet_builtin _ (by decide +kernel), codeAny_builtin PySem.F.entry_type_call ?_⟩
  rw [Around.under_plain (weight_type_call_type "set" [.ref l] []) rfl]
  have h1 := PySem.F.called_set.notType
  have h2 := PySem.F.called_set.canCreate
  have hct := PySem.F.typeCall_set_1 (.ref l)
  repeat (any_goals (first | assumption | wp_step))
  refine codeAny_mono (code_set_led1 (.ref l) (E := E) (Q₁ := fun obj s₁ => obj = .ref s.heap.objs.size ∧ s₁ = { s with heap := s.heap.push (freshS w) }) ⟨rfl, rfl⟩) fun r s₁ hr => ?_
  cases r with
  | error e => exact hr
  | ok fl =>
    cases fl with
    | ret obj =>
      obtain ⟨rfl, rfl⟩ := hr
      have hS : (s.heap.push (freshS w)).get? s.heap.objs.size = some (freshS w) := Heap.get?_push_size _ rfl
      have hT : Shared.TypeIs { s with heap := s.heap.push (freshS w) } (.ref s.heap.objs.size) "set" := ⟨_, hS, rfl⟩
      have hli := PySem.F.called_set.init.lookup
      have hbi := PySem.F.called_set.init.bind (.ref s.heap.objs.size)
      repeat (any_goals (first | assumption | wp_step))
      refine codeAny_mono (codeAny_call_builtin (R := wants (fun r s₂ => r = .none ∧ ∃ h' tk L, s₂ = { s with heap := h', toks := tk } ∧ K.set h' s.heap.objs.size L ∧ Takes ks ks.length L ∧ (∀ b o, s.heap.get? b = some o → h'.get? b = some o)) E) PySem.F.called_set.init.plain PySem.F.entry_set_init (check_set_init_1 hT ?_)) fun r₂ s₂ hr₂ => ?_
      · obtain ⟨ol, hol, hcl, nl, hdl⟩ := hl
        obtain ⟨ocls, odict, odata, oslots⟩ := ol
        simp only at hcl hdl
        subst hcl; subst hdl
        have hol' : (s.heap.push (freshS w)).get? l = some { cls := .type "tuple", dict := odict, data := .seq items nl, slots := oslots } := Heap.get?_push_of_some _ hol
        have hsls := PySem.F.sub_tuple_set
        have hslf := PySem.F.sub_tuple_frozenset
        have hne : (Value.type "tuple" == Value.type "dict") = false := by decide
        have hl1 : (s.heap.push (freshS w)).IsTuple l items := ⟨_, hol', rfl, nl, rfl⟩
        unfold Builtin.«set.__init__» noKeywords Builtin.Frozenset.updateFrom
        generalize hPI : pyIter = PI
        wp_walk
        subst hPI
        refine wpAny_pyIter_tuple hl1 ?_
        refine wpAny_bind (wpAny_runValue ?_)
        have hlS : l < s.heap.objs.size := Heap.lt_size hol
        have hh3 : A.in1.in1.in1.handled = none := by simp [hh]
        have hneI : l ≠ (s.heap.push (freshS w)).objs.size := by
          rw [Heap.size_push]; exact Nat.ne_of_lt (Nat.lt_succ_of_lt hlS)
        have hSf : s.heap.objs.size ∉ [(s.heap.push (freshS w)).objs.size, l] := by
          rw [Heap.size_push]; simp only [List.mem_cons, List.mem_singleton, List.not_mem_nil, or_false, not_or]
          exact ⟨Nat.ne_of_lt (Nat.lt_succ_self _), Nat.ne_of_gt hlS⟩
        have hval : ∀ (i : Nat) (v : Value), items[i]? = some v → ∃ p, ks[i]? = some p ∧ v = p.1 := fun i v hv => by
          have q : items.toList[i]? = some v := by rw [Array.getElem?_toList]; exact hv
          rw [hit, List.getElem?_map] at q
          obtain ⟨p, hp, e⟩ := Option.map_eq_some_iff.mp q
          exact ⟨p, hp, e.symm⟩
        have none_of : ∀ b, s.heap.objs.size ≤ b → s.heap.get? b = none := fun b hb => by
          cases q : s.heap.get? b with
          | none => rfl
          | some o => exact absurd (Nat.lt_of_lt_of_le (Heap.lt_size q) hb) (Nat.lt_irrefl _)
        refine set_take K ((Walks.tuple hh3 _ l hneI items).toS) s.heap.objs.size hSf hisz hfew hval s.heap hk (none_of _ (Nat.le_refl _)) (fun b hb => none_of b (by
            rw [List.mem_singleton.mp hb, Heap.size_push]
            exact Nat.le_succ _)) hu (items.size - 0) 0 _ (by omega) (Nat.zero_le _)
          ⟨⟨_, Heap.get?_push_size _ rfl, rfl, rfl⟩, (hl1.push _)⟩ (fun b o e => Heap.get?_push_of_some _ (Heap.get?_push_of_some _ e)) ?hS0 ?hR
        case hS0 => exact ⟨[], K.new _ _ (Heap.get?_push_of_some _ hS), Takes.zero⟩
        case hR =>
          intro s' L hm hS' g' hkp
          obtain ⟨h', g2, d', tk', os'⟩ := s'
          have eg : g2 = s.gens := hm.gens
          have ed : d' = s.drawn := hm.drawn
          have eo : os' = s.os := hm.os
          subst eg; subst ed; subst eo
          show wpAny _ _ _ _ _ _
          refine wpAny_pure ?_
          show wpAny _ _ (ret Value.none) _ _ _
          rw [hisz] at g'
          exact wpAny_pure ⟨rfl, h', tk', L, rfl, hS', g', hkp⟩
      · cases r₂ with
        | error e => exact hr₂
        | ok fl₂ =>
          cases fl₂ with
          | ret r =>
            obtain ⟨rfl, h', tk, L, rfl, hS', g', hk'⟩ := hr₂
            repeat (any_goals (first | assumption | wp_step))
            exact h _ _ _ hS' g' hk'
          | _ => exact hr₂.elim
    | _ => exact hr.elim
end
end Bx
set_option Elab.async false
set_option linter.all false
set_option maxRecDepth 100000
set_option maxHeartbeats 4000000
/-! S3: sets of texts and of tuples as kinds. -/
namespace Bx
open PySem PySem.Spec PyProof.Rows L2
open PySem.Froz (sObj TxOk tailTx addTx SD is_str add_x add_ok get_upd)
section
variable {P : Program} {w : World} {A : Around} {E : Value → Shared → Prop} {s : Shared}
theorem there_x {a : Addr} {T : String} {D : SD} {l : List Str} {k : Str} {u : Tok} {Q : Bool → Shared → Prop} (ho : s.heap.get? a = some (sObj T D)) (F : TxOk P w D l) (hk : k ∈ l) (hb : l.length < scanBound)
    (h : Q false s) : wpAny (model P w) A (setAddHashed a (.str k u) (hashStr w k)) Q E s := by
  obtain ⟨es, ep, t⟩ := D
  have hd : (sObj T (es, ep, t)).data = .set es ep t := rfl
  have hf : t.fits es.size = true := F.fit
  have hel : ElemsOf (strKind P w) es.toList := F.el
  have hsz : es.size = l.length := F.sz
  have hb0 : es.size < scanBound := by omega
  have hkey : (strKind P w).is k (.str k u) = true := is_str k u
  obtain ⟨j, hj⟩ : ∃ j, List.findIdx? (fun e => (strKind P w).is k e.2) es.toList = some j := by
    cases hr : List.findIdx? (fun e => (strKind P w).is k e.2) es.toList with
    | some j => exact ⟨j, rfl⟩
    | none =>
      obtain ⟨e, he, q⟩ := (F.mem k).mp hk
      have := List.findIdx?_eq_none_iff.mp hr e he
      rw [q] at this
      cases this
  unfold setAddHashed setAddHashedIn
  refine wpAny_holding (wpAny_bind (wpAny_setState_of ho hd hf ?_))
  dsimp only
  rw [byScan_of rfl hb0 hel]
  simp only [↓reduceIte]
  unfold setAddByScan
  refine wpAny_bind ?_
  refine wpAny_bind (wpAny_rule ?_)
  refine wpAny_bind (wpAny_setScan_of (knd := strKind P w) (k := k) hkey ho hd hf hel ?_)
  rw [hj]
  dsimp only
  exact wpAny_pure (wpAny_pure h)
theorem tail_rows {ep : Nat} {es1 : Array (Int × Value)} {t2 : SetTable} {b : Bool} (r : Ris t2.place.toList) : (tailTx ep es1 t2 b).1.toList.Perm es1.toList ∧ Ris (tailTx ep es1 t2 b).2.2.place.toList ∧ (tailTx ep es1 t2 b).2.2.led = t2.led := by
  unfold tailTx
  split
  · exact ⟨relayAll_perm _ _ _, relayAll_ris _ _ _, relayAll_led _ _ _⟩
  · exact ⟨List.Perm.refl _, r, rfl⟩
theorem add_rows (h : Int) (v : Value) (D : SD) (r : Ris D.2.2.place.toList) : (addTx h v D).1.toList.Perm (D.1.push (h, v)).toList ∧ Ris (addTx h v D).2.2.place.toList ∧ (addTx h v D).2.2.led = D.2.2.led := by
  obtain ⟨es, ep, t⟩ := D
  have r0 := layNew_ris t es h v r
  have l0 := layNew_led t es h v
  have p0 := layNew_perm t es h v
  unfold addTx
  dsimp only
  by_cases c : (layNew t es h v).2.1.plain = true
  · rw [if_pos c]
    obtain ⟨q1, q2, q3⟩ := tail_rows (ep := ep) (es1 := (layNew t es h v).1) (t2 := { (layNew t es h v).2.1 with plain := false }) (b := (layNew t es h v).2.2.1) r0
    exact ⟨q1.trans p0, q2, q3.trans l0⟩
  · rw [if_neg c]
    obtain ⟨q1, q2, q3⟩ := tail_rows (ep := ep) (es1 := (layNew t es h v).1) (b := (layNew t es h v).2.2.1) r0
    exact ⟨q1.trans p0, q2, q3.trans l0⟩
def strSet (P : Program) (w : World) (h : Heap) (a : Addr) (L : List (Value × Str)) : Prop :=
  L.length < 64 ∧ ∃ D, h.get? a = some (sObj "set" D) ∧ TxOk P w D (L.map (·.2)) ∧ (D.1.toList.map (·.2)).Perm (L.map (·.1)) ∧ (L.map (·.2)).Nodup ∧ Ris D.2.2.place.toList ∧ (w.params.followText "set-order" = true ∨ D.2.2.led = true)
/-- texts -/
def strK (P : Program) (w : World) (ks : List (Value × Str)) (hks : ∀ p ∈ ks, ∃ t, p.1 = Value.str p.2 t) : SKind P w Str ks where
  ok := fun _ => True
  okK := fun _ _ _ _ => trivial
  set := strSet P w
  new := fun h a e => ⟨(by show 0 < 64; decide), (#[], 0, .fresh 0 0 (!w.params.followText "set-order")), e, PySem.Froz.TxOk.nil rfl, List.Perm.refl _, .nil, .nil, by
    cases h : w.params.followText "set-order" with
    | true => exact .inl rfl
    | false => exact .inr rfl⟩
  keep := fun h h' a L ⟨z, D, ho, r⟩ k _ _ => ⟨z, D, k _ ho, r⟩
  nd := fun h a L ⟨_, D, _, _, _, n, _⟩ => n
  out := fun h a L ⟨_, D, ho, F, pm, n, r, l⟩ => ⟨D.1, D.2.1, D.2.2, ⟨_, ho, rfl, rfl⟩, F.fit, r, l, pm, by rw [F.sz, List.length_map], _, ho, ⟨rfl, rfl, rfl⟩, rfl⟩
  add := fun A E s a L p Q ⟨z, D, ho, F, pm, n, r, l⟩ _ hp _ hu hf hQ => by
    obtain ⟨t, e⟩ := hks p hp
    obtain ⟨u, k⟩ := p
    dsimp only at e hf hQ ⊢
    subst e
    unfold setAdd
    refine wpAny_holding (wpAny_bind (wpAny_pyHash_str ?_))
    have hle : (L.map (·.2)).length = L.length := List.length_map ..
    by_cases hm : k ∈ L.map (·.2)
    · refine there_x (s := { s with toks := s.toks + 1 }) ho F hm ?_ ?_
      · unfold scanBound; omega
      · exact hQ false s.heap (s.toks + 1) L (Heap.SameBut.refl _ _) (Nat.le_succ _) ⟨z, D, ho, F, pm, n, r, l⟩ (fun _ => rfl) fun z => absurd hm z
    · refine add_x (s := { s with toks := s.toks + 1 }) ho F hm (by have := hf hm; unfold scanBound; omega) ?_
      obtain ⟨q1, q2, q3⟩ := add_rows (hashStr w k) (.str k t) D r
      refine hQ true _ (s.toks + 1) ((.str k t, k) :: L) (Heap.SameBut.update ..) (Nat.le_succ _) ⟨hf hm, _, get_upd _ ho rfl, add_ok t F, ?_, List.nodup_cons.mpr ⟨hm, n⟩, q2, q3 ▸ l⟩ (fun z => absurd z hm) fun _ => List.Perm.refl _
      refine (q1.map (·.2)).trans ?_
      rw [Array.toList_push, List.map_append]
      exact (List.perm_append_comm).trans (List.Perm.cons _ pm)
/-! bonds -/
def bKey (t : Bond) : List Key := [.inr t.a, .inr t.b, .inr t.c, .inr t.d]
theorem bKey_inj {x y : Bond} (h : bKey x = bKey y) : x = y := by
  obtain ⟨a, b, c, d⟩ := x
  obtain ⟨a', b', c', d'⟩ := y
  unfold bKey at h
  injection h with h1 h
  injection h with h2 h
  injection h with h3 h
  injection h with h4 h
  injection h1 with h1
  injection h2 with h2
  injection h3 with h3
  injection h4 with h4
  dsimp only at h1 h2 h3 h4
  subst h1 h2 h3 h4
  rfl
def fB (p : Value × Bond) : Value × List Key := (p.1, bKey p.2)
def gB (p : Addr × List Key) : Value × List Key := (.ref p.1, p.2)
def bondOk (P : Program) (w : World) (ks : List (Value × Bond)) (h : Heap) : Prop := ∀ p ∈ ks, ∃ a, p.1 = Value.ref a ∧ IsK P w h (bKey p.2) a
def bondSet (P : Program) (w : World) (h : Heap) (a : Addr) (L : List (Value × Bond)) : Prop := ∃ (R : Rw) (es : Array (Int × Value)) (ep : Nat) (t : SetTable), SetTab P w h a R es ep t ∧ (R.map gB).Perm (L.map fB)
theorem bond_mem {R : Rw} {L : List (Value × Bond)} (pm : (R.map gB).Perm (L.map fB)) {b : Bond} : bKey b ∈ R.map (·.2) ↔ b ∈ L.map (·.2) := by
  have e1 : (R.map gB).map (·.2) = R.map (·.2) := by rw [List.map_map]; rfl
  have e2 : (L.map fB).map (·.2) = L.map fun p => bKey p.2 := by rw [List.map_map]; rfl
  have q := (pm.map (·.2)).mem_iff (a := bKey b)
  rw [e1, e2] at q
  rw [q, List.mem_map, List.mem_map]
  constructor
  · rintro ⟨p, hp, e⟩
    exact ⟨p, hp, bKey_inj e⟩
  · rintro ⟨p, hp, e⟩
    exact ⟨p, hp, congrArg bKey e⟩
theorem bond_len {R : Rw} {L : List (Value × Bond)} (pm : (R.map gB).Perm (L.map fB)) : R.length = L.length := by
  have := pm.length_eq
  rwa [List.length_map, List.length_map] at this
def bondK (P : Program) (w : World) (ks : List (Value × Bond)) : SKind P w Bond ks where
  ok := bondOk P w ks
  okK := fun h h' o k p hp => let ⟨a, e, x⟩ := o p hp; ⟨a, e, isK_keep x k⟩
  set := bondSet P w
  new := fun h a ho => ⟨[], #[], 0, .fresh 0 0 (!w.params.followText "set-order"), ⟨⟨_, ho, ⟨rfl, rfl, rfl⟩, rfl⟩, rfl, ⟨List.Pairwise.nil, rfl, rfl, .inl rfl, fun x hx => (by cases hx), fun i h j hi => (by simp at hi)⟩, List.nodup_nil, (fun p hp => (by cases hp)), by
    show _ ∨ (!w.params.followText "set-order") = true
    cases w.params.followText "set-order"
    · exact .inr rfl
    · exact .inl rfl, by show 0 * 5 < 7 * 3; decide, by show 0 < 64; decide⟩, List.Perm.refl _⟩
  keep := fun h h' a L ⟨R, es, ep, t, T, pm⟩ k o sub => by
    obtain ⟨ob, ho, r⟩ := T.ob
    refine ⟨R, es, ep, t, ⟨⟨ob, k ob ho, r⟩, T.rows, T.tab, T.nd, fun p hp => ?_, T.led, T.room, T.few⟩, pm⟩
    obtain ⟨q, hq, e⟩ := List.mem_map.mp (pm.mem_iff.mp (List.mem_map.mpr ⟨p, hp, rfl⟩))
    obtain ⟨b, eb, x⟩ := o q (sub q hq)
    have e1 : q.1 = Value.ref p.1 := congrArg Prod.fst e
    have e2 : bKey q.2 = p.2 := congrArg Prod.snd e
    rw [e1] at eb
    injection eb with eb
    rw [eb, ← e2]
    exact x
  nd := fun h a L ⟨R, es, ep, t, T, pm⟩ => by
    have q := (pm.map (·.2)).nodup_iff.mp (by rw [List.map_map]; exact T.nd)
    have q : ((L.map (·.2)).map bKey).Nodup := by
      rw [List.map_map] at q ⊢
      exact q
    exact List.Pairwise.of_map (R := (· ≠ ·)) bKey (fun x y hne e => hne (congrArg bKey e)) q
  out := fun h a L ⟨R, es, ep, t, T, pm⟩ => by
    obtain ⟨o, ho, hx, hd⟩ := T.ob
    have z : es.size = R.length := rowsK_size T.rows
    refine ⟨es, ep, t, ⟨o, ho, hx.1, hd⟩, T.fits, T.tab.ris, T.led, ?_, z.trans (bond_len pm), o, ho, hx, hd⟩
    have q := pm.map (·.1)
    rw [T.rows]
    unfold rowsK
    rw [List.map_map] at q ⊢
    rw [List.map_map] at q
    exact q
  add := fun A E s a L p Q ⟨R, es, ep, t, T, pm⟩ o hp sub hu hf hQ => by
    obtain ⟨x, e, hx⟩ := o p hp
    obtain ⟨u, b⟩ := p
    dsimp only at e hf hQ hx ⊢
    subst e
    unfold setAdd
    refine wpAny_holding (wpAny_bind (wpAny_pyHash_tuple hu hx ?_))
    refine add_tab (s := { s with toks := s.toks + ((bKey b).length + 1) }) T hx hu (fun hm => by rw [bond_len pm]; exact hf fun z => hm ((bond_mem pm).mpr z)) fun c h' R' es' ep' t' sb T' c1 c2 => ?_
    by_cases hm : b ∈ L.map (·.2)
    · rw [c1 ((bond_mem pm).mpr hm)] at T'
      exact hQ c h' _ L sb (Nat.le_add_right _ _) ⟨R, es', ep', t', T', pm⟩ (fun _ => rfl) fun z => absurd hm z
    · refine hQ c h' _ ((.ref x, b) :: L) sb (Nat.le_add_right _ _) ⟨R', es', ep', t', T', ?_⟩ (fun z => absurd z hm) fun _ => List.Perm.refl _
      exact ((c2 fun z => hm ((bond_mem pm).mp z)).map gB).trans (List.Perm.cons _ pm)
end
end Bx
set_option Elab.async false
set_option linter.all false
set_option maxRecDepth 100000
set_option maxHeartbeats 4000000
/-! S4: sorted(set(e)), len(set(e)). -/
namespace Bx
open PySem PySem.Spec PyProof.Rows L2
open PySem.W (Datum DatumOrd Holds HoldAll T3 T4 Tup EachIs)
/-- lists of such can be made sets of -/
class SetRd (α : Type) [DecidableEq α] [DatumOrd α] : Prop where
  kind : ∀ {X : Cx} {pins : List (Addr × Obj)} {σ : St} {H : Hp} {s : Shared} {vs : List V} {us : List Value} {xs : List α}, Inv X pins σ H s → HDs H vs xs → Vals vs us → ∃ K : SKind X.prog X.w α (us.zip xs), K.ok s.heap
theorem zip_mem {H : Hp} {α : Type} [DecidableEq α] [Datum α] : ∀ {vs : List V} {us : List Value} {xs : List α}, HDs H vs xs → Vals vs us → ∀ p ∈ us.zip xs, ∃ v, RelV v p.1 ∧ HD H v p.2
  | _, _, [], _, _, p, hp => by simp at hp
  | _, _, x :: xs, h, r, p, hp => by
    cases r with
    | nil => cases h
    | cons r1 r2 =>
      cases h with
      | cons h1 h2 =>
        rcases List.mem_cons.mp hp with e | e
        · rw [e]; exact ⟨_, r1, h1⟩
        · exact zip_mem h2 r2 p e
theorem zip_fst {H : Hp} {α : Type} [DecidableEq α] [Datum α] : ∀ {vs : List V} {us : List Value} {xs : List α}, HDs H vs xs → Vals vs us → (us.zip xs).map (·.1) = us ∧ (us.zip xs).map (·.2) = xs
  | [], [], [], _, .nil => ⟨rfl, rfl⟩
  | _ :: vs, _ :: _, x :: xs, h, .cons _ r2 => by
    have h2 : HDs H vs xs := by
      cases h with
      | cons _ h2 => exact h2
    obtain ⟨e1, e2⟩ := zip_fst (xs := xs) h2 r2
    exact ⟨congrArg _ e1, congrArg _ e2⟩
  | [], _, _ :: _, h, _ => by cases h
  | _ :: _, _, [], h, _ => by cases h
instance : SetRd Str where
  kind I h r := ⟨strK _ _ _ fun p hp => by
    obtain ⟨v, rv, hv⟩ := zip_mem h r p hp
    rw [hd_str hv] at rv
    obtain ⟨t, e⟩ := rv
    exact ⟨t, e⟩, trivial⟩
instance : SetRd Bond where
  kind I h r := ⟨bondK _ _ _, fun p hp => by
    obtain ⟨v, rv, hv⟩ := zip_mem h r p hp
    obtain ⟨a, rfl, e⟩ := hd_bond hv
    exact ⟨a, rv, key_of (ks := bKey p.2) I.hok e⟩⟩
theorem perm_map_inv {α β : Type} {f : α → β} : ∀ {us : List β} {L : List α}, us.Perm (L.map f) → ∃ L' : List α, List.Perm L' L ∧ us = L'.map f
  | [], L, p => by
    have e := List.nil_perm.mp p
    have : L = [] := List.map_eq_nil_iff.mp e
    subst this
    exact ⟨[], List.Perm.refl _, rfl⟩
  | u :: us, L, p => by
    obtain ⟨x, hx, e⟩ := List.mem_map.mp (p.mem_iff.mp List.mem_cons_self)
    obtain ⟨A, B, rfl⟩ := List.append_of_mem hx
    have q : (A ++ x :: B).Perm (x :: (A ++ B)) := List.perm_middle
    have p2 := p.trans (q.map f)
    rw [List.map_cons, e] at p2
    obtain ⟨L', pl, e2⟩ := perm_map_inv (List.Perm.cons_inv p2)
    exact ⟨x :: L', (List.Perm.cons x pl).trans q.symm, by rw [List.map_cons, e, e2]⟩
section
variable {X : Cx} {e a b c : Expr} {es : List Expr} {σ : St} {H H' H1 : Hp} {r ra rb rz : Rs} {rs : List Rs} {pos : Pos} {ds ds1 ds2 : List PyData} {d : PyData}
variable {α : Type} [DecidableEq α] [DatumOrd α]
/-- the list or tuple that r stands for -/
def SqR (α : Type) [DecidableEq α] [DatumOrd α] (H : Hp) (r : Rs) (xs : List α) : Prop := ∀ H0 H' v, Same H H0 → Same H0 H' → r.P H0 v H' → ∃ p vs, v = .ref p ∧ (H' p = some (.lst vs) ∨ Rd H' p (.tup vs)) ∧ HDs H' vs xs
theorem sqr_new {xs : List α} : SqR α H (.ts xs) xs := fun H0 H' v _ _ p => by
  obtain ⟨p, vs, rfl, _, h, hs⟩ := p
  exact ⟨p, vs, rfl, .inl h, hs⟩
theorem sqr_tup {xs : List α} : SqR α H (.t (Tup.mk xs)) xs := fun H0 H' v _ _ pv => by
  obtain ⟨p, vs, rfl, h, hs⟩ := hd_tup (show HD H' v (Tup.mk xs) from pv)
  exact ⟨p, vs, rfl, .inr h.rd, hs⟩
theorem sqr_var {l : Addr} {vs : List V} {xs : List α} (hl : H l = some (.lst vs)) (hs : HDs H vs xs) : SqR α H (.v (.ref l)) xs := fun H0 H' v s0 s1 p => by
  have p : v = .ref l := p
  have k := s0.trans s1
  exact ⟨l, vs, p, .inl (k _ _ hl), hs.same k⟩
variable [SetRd α]
/-- set(v), and then -/
theorem set_then {pins : List (Addr × Obj)} {s : Shared} {p : Addr} {vs : List V} {xs : List α} {Q : Value → Shared → Prop} (I : Inv X pins σ H s) (hc : X.calm = true) (hu : X.A.units + 64 < cLine) (hp : H p = some (.lst vs) ∨ Rd H p (.tup vs)) (hs : HDs H vs xs) (hfew : (dd xs).length < 63)
    (q : ∀ (S : Addr) (h' : Heap) (tk : Nat) (L : List (Value × α)) es ep t, Inv X pins σ H { s with heap := h', toks := tk } → SetAt h' S es ep t → t.fits es.size = true → Ris t.place.toList → (X.w.params.followText "set-order" = true ∨ t.led = true) → (es.toList.map (·.2)).Perm (L.map (·.1)) → es.size = L.length →
      (∃ o, h'.get? S = some o ∧ o.ExactSet ∧ o.data = .set es ep t) → (L.map (·.2)).Perm (dd xs) → (∀ y ∈ L, ∃ v, RelV v y.1 ∧ HD H v y.2) → Q (.ref S) { s with heap := h', toks := tk }) : wpAny (model X.prog X.w) X.A (call (.type "set") [.ref p]) Q X.xe s := by
  have fin : ∀ (us : List Value) (K : SKind X.prog X.w α (us.zip xs)), Vals vs us → ∀ (h' : Heap) (tk : Nat) L, K.set h' s.heap.objs.size L → Takes (us.zip xs) (us.zip xs).length L → (∀ b o, s.heap.get? b = some o → h'.get? b = some o) → Q (.ref s.heap.objs.size) { s with heap := h', toks := tk } := fun us K rv h' tk L hS g k => by
    obtain ⟨es, ep, t, h1, h2, h3, h4, h5, h6, h7⟩ := K.out _ _ _ hS
    obtain ⟨e1, e2⟩ := zip_fst hs rv
    have pm := g.perm (K.nd _ _ _ hS)
    rw [e2] at pm
    exact q s.heap.objs.size h' tk L es ep t (I.kept k) h1 h2 h3 h4 h5 h6 h7 pm fun y hy => zip_mem hs rv y (List.mem_of_mem_take (g.sub y hy))
  have hh := I.ok.hd hc
  rcases hp with hp | hp
  · obtain ⟨us, rv, hT, _⟩ := I.list (SqL.of hp)
    obtain ⟨K, ok⟩ := SetRd.kind I hs rv
    obtain ⟨e1, e2⟩ := zip_fst hs rv
    exact set_of_list K hh hT.isList (by rw [e1]) ok (by rw [e2]; exact hfew) (by omega) fun h' tk L hS g k => fin us K rv h' tk L hS g k
  · obtain ⟨us, rv, hT, _⟩ := I.tuple (.inl hp)
    obtain ⟨K, ok⟩ := SetRd.kind I hs rv
    obtain ⟨e1, e2⟩ := zip_fst hs rv
    exact set_of_tuple K hh hT (by rw [e1]) ok (by rw [e2]; exact hfew) (by omega) fun h' tk L hS g k => fin us K rv h' tk L hS g k
theorem each_zip {R : Value → α → Prop} : ∀ {L : List (Value × α)}, (∀ y ∈ L, R y.1 y.2) → EachIs R (L.map (·.1)) (L.map (·.2))
  | [], _ => .nil
  | y :: L, h => .cons (h y List.mem_cons_self) (each_zip fun z hz => h z (List.mem_cons_of_mem _ hz))
theorem bt_set : bootBuiltins "set" = some (.type "set") := by decide +kernel
theorem bt_sorted : bootBuiltins "sorted" = some (.builtin "sorted") := by decide +kernel
variable [LO α]
/-- sorted(set(e)) -/
theorem pv_sortSet {p p2 q : Pos} {xs : List α} (hc : X.calm = true) (hm : X.mg "sorted" = none) (hm2 : X.mg "set" = none) (h : PV X e σ H r) (hr : SqR α H r xs) (hfew : (dd xs).length < 63) (hk : PySem.W.Sortable ((dd xs).map (Datum.toD (α := α)))) (hu : X.A.units + 64 < cLine := by assumption) (hd : Datum.depth α ≤ 50 := by decide)
    (hg : Gl X "sorted" := by rfl) (hg2 : Gl X "set" := by rfl) (ns : NS X e := by rfl) : PV X (.Call (.Name "sorted" p) [.Call (.Name "set" p2) [e] [] q] [] pos) σ H (.ts (sortO (dd xs))) := fun pins s H1 hs1 I => by
  refine Call_ (ld_blt I hg hm bt_sorted ?_)
  refine PyProof.Rows.callWith_builtin1 (PyProof.Rows.args_cons ?_ rfl) rfl rfl
  refine Call_ (ld_blt I hg2 hm2 bt_set ?_)
  refine PyProof.Rows.callWith_type1 (PyProof.Rows.args_cons (thn (h pins s H1 hs1 I) fun u s1 ⟨v, H2, I2, rv, s2, pv⟩ => PyProof.Rows.args_nil ?_) ns) ns rfl
  obtain ⟨l, vs, rfl, hl, hs⟩ := hr H1 H2 v hs1 s2 pv
  obtain rfl : u = Value.ref l := rv
  refine set_then I2 hc hu hl hs hfew fun S h' tk L es ep t I3 a1 a2 a3 a4 a5 a6 a7 pm hL => PyProof.Rows.args_nil ?_
  have hlen : L.length < 63 := by
    have := pm.length_eq
    rw [List.length_map] at this
    omega
  refine sorted_over (P := fun ys : List α => ys.Perm (dd xs)) I3 hu hd (fun Q' hq => ?_) (fun ys py => ⟨by rw [py.length_eq, sizeLine_eq]; omega, ?_⟩) fun a ws ys s' py I4 n hz => ?_
  · refine collect_set (A := X.A.in1) (I3.ok.hd hc) a1 a2 (by rw [a6]; unfold scanBound; omega) a3 a4 fun s' out k1 _ k2 k3 po => ?_
    obtain ⟨L', pl, e'⟩ := perm_map_inv (po.trans a5)
    subst e'
    exact hq s' _ (L'.map (·.2)) ⟨k1, k2, k3⟩ (each_zip fun y hy => hL y (pl.mem_iff.mp hy)) ((pl.map (·.2)).trans pm)
  · rcases hk with hk | hk
    · exact .inl fun d hd => hk d ((py.map _).mem_iff.mp hd)
    · exact .inr fun d hd => hk d ((py.map _).mem_iff.mp hd)
  · have e : sortO ys = sortO (dd xs) := sortO_of py
    rw [e] at hz
    exact ⟨.ref a, _, I4, rfl, s2.trans (same_new n), a, ws, rfl, s2.free n, upd_same, hz.same (same_new n)⟩
/-- len(set(e)) -/
theorem pv_lenSet {p p2 q : Pos} {xs : List α} (hc : X.calm = true) (hm : X.mg "len" = none) (hm2 : X.mg "set" = none) (h : PV X e σ H r) (hr : SqR α H r xs) (hfew : (dd xs).length < 63) (hu : X.A.units + 64 < cLine := by assumption)
    (hg : Gl X "len" := by rfl) (hg2 : Gl X "set" := by rfl) (ns : NS X e := by rfl) : PV X (.Call (.Name "len" p) [.Call (.Name "set" p2) [e] [] q] [] pos) σ H (.i (dd xs).length) := fun pins s H1 hs1 I => by
  refine Call_ (ld_blt I hg hm PySem.boot_len ?_)
  refine PyProof.Rows.callWith_builtin1 (PyProof.Rows.args_cons ?_ rfl) rfl rfl
  refine Call_ (ld_blt I hg2 hm2 bt_set ?_)
  refine PyProof.Rows.callWith_type1 (PyProof.Rows.args_cons (thn (h pins s H1 hs1 I) fun u s1 ⟨v, H2, I2, rv, s2, pv⟩ => PyProof.Rows.args_nil ?_) ns) ns rfl
  obtain ⟨l, vs, rfl, hl, hs⟩ := hr H1 H2 v hs1 s2 pv
  obtain rfl : u = Value.ref l := rv
  refine set_then I2 hc hu hl hs hfew fun S h' tk L es ep t I3 a1 a2 a3 a4 a5 a6 ⟨o, ho, hx, hd⟩ pm hL => PyProof.Rows.args_nil ?_
  have hlen : L.length = (dd xs).length := by
    have := pm.length_eq
    rwa [List.length_map] at this
  refine call_len_set ho hx hd a2 (by rw [a6]; omega) ⟨.int (dd xs).length, H2, I3.tok _, ⟨_, by rw [a6, hlen]⟩, s2, DI.int _⟩
end
end Bx
set_option Elab.async false
set_option linter.all false
set_option maxRecDepth 100000
set_option maxHeartbeats 4000000
/-! W0: tuples known whole. -/
namespace Bx
open PySem PySem.Spec PyProof.Rows L2
open PySem.W (Datum DatumOrd Holds HoldAll T3 T4 Tup EachIs)
abbrev Rs.w (ds : List PyData) : Rs := .p (fun H v => Whole H v ds) fun _ _ _ s h => h.same s
section
variable {X : Cx} {e o a b c : Expr} {es : List Expr} {σ : St} {H H' H1 : Hp} {r ra rb rz : Rs} {rs : List Rs} {pos apos cpos : Pos} {ds ds1 ds2 : List PyData} {d : PyData}
theorem Rs.w_d {H1 H2 : Hp} {v : V} (h : (Rs.w ds).P H1 v H2) (n : hasT ds = true) : DI H2 v (.tuple ds) := Whole.di h n
theorem PV.whole_d (h : PV X e σ H (.w ds)) (n : hasT ds = true) : PV X e σ H (.d (.tuple ds)) := fun pins s H1 hs I => thn (h pins s H1 hs I) fun u s' ⟨w, H2, I2, rw', hs2, p⟩ => ⟨w, H2, I2, rw', hs2, Rs.w_d p n⟩
/-- a tuple's display, known whole -/
theorem pv_tupW {k} (h : PAd X es σ H ds) (hl : ds.length ≤ 1000000 := by simp) : PV X (.Tuple es k pos) σ H (.w ds) := fun pins s H1 hs I => by
  refine wpAny_Tuple_spliced (thn (h pos pins s H1 hs I) fun us s1 ⟨xs, H2, I2, r, s2, pd⟩ => ?_)
  have z : xs.length ≤ sizeLine := by rw [pd.length]; exact Nat.le_trans hl (by decide)
  refine ⟨by rw [← r.length]; exact z, ?_⟩
  have hf : H2 s1.heap.objs.size = none := I2.hok.fresh (Nat.le_refl _)
  refine ⟨.ref s1.heap.objs.size, upd H2 s1.heap.objs.size (.frz { cls := .type "tuple", data := .seq us.toArray } (.tup xs)), I2.laid (t' := s1.toks) (fun b u e => Heap.get?_push_of_some _ e) (Nat.le_refl _) ?_, rfl, s2.trans (same_new hf), _, _, xs, rfl, upd_same, rfl, pd.same (same_new hf)⟩
  exact ⟨Heap.get?_push_size _ rfl, z, us, r, ⟨_, Heap.get?_push_size _ rfl, rfl, _, rfl⟩⟩
/-- tuple(a new list), known whole -/
theorem pv_tupleW {p : Pos} (hm : X.mg "tuple" = none) (ha : PV X e σ H (.l ds)) (hg : Gl X "tuple" := by rfl) (ns : NS X e := by rfl) : PV X (.Call (.Name "tuple" p) [e] [] pos) σ H (.w ds) := fun pins s H1 hs I => by
  refine Call_ (ld_blt I hg hm bt_tuple ?_)
  refine PyProof.Rows.callWith_type1 (PyProof.Rows.args_cons (thn (ha pins s H1 hs I) fun u s1 ⟨v, H2, I2, rv, s2, pv⟩ => PyProof.Rows.args_nil ?_) ns) ns rfl
  obtain ⟨l, ws, rfl, _, hp, hd⟩ := pv
  obtain rfl : u = Value.ref l := rv
  obtain ⟨its, r', pl, hz⟩ := I2.list (SqL.of hp)
  have hlen := r'.length
  refine call_tuple_list pl.isList (fun h' kp => ?_) (by simp only [List.size_toArray] <;> omega)
  have I3 : Inv X pins σ H2 { s1 with heap := h' } := I2.kept (t' := s1.toks) kp
  have hf : H2 h'.objs.size = none := I3.hok.fresh (Nat.le_refl _)
  refine ⟨.ref h'.objs.size, upd H2 h'.objs.size (.frz { cls := .type "tuple", data := .seq its.toArray } (.tup ws)), I3.laid (t' := s1.toks) (fun b u e => Heap.get?_push_of_some _ e) (Nat.le_refl _) ?_, rfl, s2.trans (same_new hf), _, _, ws, rfl, upd_same, rfl, hd.same (same_new hf)⟩
  exact ⟨Heap.get?_push_size _ rfl, hz, its, r', ⟨_, Heap.get?_push_size _ rfl, rfl, _, rfl⟩⟩
/-- what is known of one -/
theorem Whole.get {H : Hp} {v : V} {pins : List (Addr × Obj)} {s : Shared} (h : Whole H v ds) (I : Inv X pins σ H s) : ∃ (q : Addr) (o : Obj) (xs : List V) (its : List Value) (n : Nat), v = .ref q ∧ s.heap.get? q = some o ∧ o.cls = .type "tuple" ∧ o.dict = none ∧ o.data = .seq its.toArray n ∧ Vals xs its ∧ DIs H xs ds := by
  obtain ⟨q, o, xs, rfl, e, d, hs⟩ := h
  obtain ⟨ho, _, its, rv, o', ho', hc, n, hd⟩ := I.hok q _ e
  rw [ho] at ho'
  cases ho'
  exact ⟨q, o, xs, its, n, rfl, ho, hc, d, hd, rv, hs⟩
/-- t.index(x) -/
theorem pv_indexW {α : Type} [DecidableEq α] [Datum α] {x : α} {xs : List α} (ho : PV X o σ H (.w (xs.map Datum.toD))) (he : PV X e σ H (.t x)) (hx : x ∈ xs) (hn : hasT (xs.map Datum.toD) = true) (hu : X.A.units + 64 < cLine := by assumption) (hd : Datum.depth α ≤ 60 := by decide)
    (hbase : attributeBase o "index" X.env (eval o X.env) = eval o X.env := by rfl)
    (hfew : ((backTo cpos (starEach [e] X.env)).all (fun x => !x.1) && (backToKw cpos (keywordEach [] X.env)).all (fun x => x.1.isSome) && decide ([e].length + ([] : List Keyword).length + (if ([] : List Keyword).isEmpty then 0 else 1) < 30)) = true := by rfl)
    (hline : (apos.endLine == cpos.line) = true := by rfl) (hs : starEach [e] X.env = (false, eval e X.env) :: starEach [] X.env := by rfl) (hplain : (backTo cpos (starEach [] X.env)).any (·.1) = false := by rfl) :
    PV X (.Call (.Attribute o "index" apos) [e] [] cpos) σ H (.i (xs.idxOf x)) := fun pins s H1 h1 I => by
  refine wpAny_Call_method_late hbase hfew hline rfl (thn (ho pins s H1 h1 I) fun v s1 ⟨w, H2, I2, r1, s2, W⟩ => ?_)
  obtain ⟨q, o', ws, its, n, ew, hq, hc, hdi, hda, rv, hds⟩ := Whole.get W I2
  have W' : Whole H2 w (xs.map Datum.toD) := W
  subst ew
  obtain rfl : v = Value.ref q := r1
  refine ⟨"tuple", "tuple.index", PySem.F.plainAttrs_tuple, PySem.F.slot_tuple_index, PySem.F.type_tuple_index, ⟨o', hq, hc⟩, fun a ea => by cases ea; exact ⟨o', hq, hdi⟩, ?_⟩
  have hA := pas_cons he pas_nil hs cpos pins s1 H2 (h1.trans s2) I2
  rw [hs] at hA ⊢
  refine Calls.callWith_builtin (by show (false || (backTo cpos (starEach [] X.env)).any (·.1)) = false; rw [hplain]; rfl) (Calls.evalArgs_plain ?_)
  refine thn hA fun us s3 ⟨vs, H3, I3, r2, s3', pr⟩ => ?_
  obtain ⟨y, rfl, py⟩ := rsl1 pr
  exact mt_idxT hu hd pins s3 σ H3 (V.ref q) _ _ _ _ I3 (show RelV (V.ref q) (Value.ref q) from rfl) r2 ⟨y, x, xs, rfl, (W'.same s3').di hn, py, hx, s2.trans s3', DI.int _⟩
end
end Bx
set_option Elab.async false
set_option linter.all false
set_option maxRecDepth 100000
set_option maxHeartbeats 4000000
/-! X0: dicts: {**a, **b}. -/
namespace Bx
open PySem PySem.Spec PyProof.Rows L2
open PySem.W (Datum DatumOrd Holds HoldAll T3 T4 Tup EachIs)
section
variable {prog : Program} {w : World} {K : Type} [DecidableEq K] {knd : KeyKind prog w K} {A : Around} {E : Value → Shared → Prop} {s : Shared}
theorem put_pairs {d : Addr} {kvs : List (K × Value)} {k : K} {key v : Value} {Q : Unit → Shared → Prop} (hkey : knd.is k key = true) (hm : s.heap.DictOf knd d kvs)
    (hQ : ∀ h', h'.DictOf knd d (stored kvs k v) → Heap.SameBut d s.heap h' → Q () { s with heap := h' }) (hsz : kvs.length ≤ sizeLine) :
    wpAny (model prog w) A (dictPut d (knd.hash k) key v) Q E s := by
  obtain ⟨o, es, ep, ho, hc, hd, hk, hp, hn⟩ := hm
  have hes : es.size ≤ sizeLine := by
    have e1 := hp.length
    have e2 : es.toList.length = es.size := by simp
    omega
  unfold dictPut
  refine wpAny_bind (wpAny_dictFind_of hkey ho hd hk ?_)
  have hidx : (es.findIdx? fun e => knd.is k e.key) = kvs.findIdx? fun kv => decide (kv.1 = k) := by
    rw [← hp.findIdx k]; obtain ⟨l⟩ := es; simp
  cases hi : es.findIdx? fun e => knd.is k e.key with
  | some i =>
    refine wpAny_updateDict ho hd (hQ _ ⟨_, _, ep, Heap.get?_update_self _ ho (Obj.isFreed_of_dict (Obj.data_mapDict hd _)), hc.mapDict _, Obj.data_mapDict hd _, hk.modify _ _, ?_, ?_⟩ (Heap.SameBut.update ..))
    · rw [stored, if_pos (any_of_findIdx_some (hidx ▸ hi))]
      have hl : (es.toList.findIdx? fun e => knd.is k e.key) = some i := by rw [← hi]; obtain ⟨l⟩ := es; simp
      have := hp.modify hn hl v
      obtain ⟨l⟩ := es
      simpa using this
    · rw [stored, if_pos (any_of_findIdx_some (hidx ▸ hi)), keys_map_store]; exact hn
  | none =>
    have hnot : k ∉ kvs.map (·.1) := not_mem_of_findIdx_none (hidx ▸ hi)
    have hany : ¬ (kvs.any fun kv => decide (kv.1 = k)) = true := by
      rw [List.any_eq_true]; rintro ⟨kv, hkv, he⟩
      exact hnot (List.mem_map.mpr ⟨kv, hkv, of_decide_eq_true he⟩)
    refine wpAny_updateDictKeys (hz := hes) ho hd (hQ _ ⟨_, _, ep + 1, Heap.get?_update_self _ ho (Obj.isFreed_of_dict (Obj.data_mapDictKeys hd _)), hc.mapDictKeys _, Obj.data_mapDictKeys hd _, hk.push hkey _, ?_, ?_⟩ (Heap.SameBut.update ..))
    · rw [stored, if_neg hany]
      have := hp.append hkey (knd.hash k) v
      obtain ⟨l⟩ := es
      simpa using this
    · rw [stored, if_neg hany, List.map_append, List.nodup_append]
      refine ⟨hn, by simp, ?_⟩
      intro a ha b hb
      simp only [List.map_cons, List.map_nil, List.mem_singleton] at hb
      subst hb
      exact fun e => hnot (e ▸ ha)
/-- what **o puts into d -/
theorem merge_map {d o : Addr} {kvs more : List (K × Value)} {Q : Unit → Shared → Prop} (hdo : d ≠ o) (hoS : (o == sysModules) = false)
    (hd : s.heap.DictOf knd d kvs) (ho : s.heap.DictOf knd o more) (hQ : ∀ h', h'.DictOf knd d (merged kvs more) → Heap.SameBut d s.heap h' → Q () { s with heap := h' })
    (hsz : kvs.length + more.length ≤ sizeLine) : wpAny (model prog w) A (mergeMapping d (.ref o) false) Q E s := by
  obtain ⟨od, esd, epd, hod, hcd, hdd, hkd, hpd, hnd⟩ := id hd
  obtain ⟨oo, eso, epo, hoo, hco, hdo', hko, hpo, hno⟩ := id ho
  have hlen : more.length = eso.size := by rw [← hpo.length]; simp
  have hT : s.TypeIs (.ref o) "dict" := ⟨oo, hoo, hco.1⟩
  unfold mergeMapping
  refine wpAny_bind (wpAny_isInstance hT PySem.isSubtype_dict_dict ?_)
  simp only [if_true]
  refine wpAny_bind (wpAny_specialOf hT PySem.F.slot_dict_iter.lookup ?_)
  refine wpAny_bind (wpAny_pure ?_)
  rw [show (some (Value.builtin "dict.__iter__") == some (Value.builtin "dict.__iter__")) = true by decide]
  dsimp only
  rw [if_neg (by rw [hoS]; exact Bool.false_ne_true)]
  refine wpAny_bind (wpAny_dictEntries hod hdd ?_)
  have tail : wpAny (model prog w) A (do
      let l ← dictEntries o
      let epoch ← dictEpoch o
      forIn (List.range l.size) PUnit.unit fun i (_ : PUnit) => (do
        let l' ← dictEntries o
        match l'[i]? with
        | some e => do
          holding [e.key, e.val] (dictPut d e.hash e.key e.val)
          let ep' ← dictEpoch o
          if (ep' != epoch) = true then do
            (unsupported "dict.changed-during-merge" : Sem PUnit)
            pure (ForInStep.yield PUnit.unit)
          else pure (ForInStep.yield PUnit.unit)
        | _ => do
          (unsupported "dict.changed-during-merge" : Sem PUnit)
          pure (ForInStep.yield PUnit.unit) : Sem (ForInStep PUnit))
      pure ()) Q E s := by
    refine wpAny_bind (wpAny_dictEntries hoo hdo' ?_)
    refine wpAny_bind (wpAny_dictEpoch hoo hdo' ?_)
    refine wpAny_bind ?_
    rw [List.range_eq_range']
    refine wpAny_forIn_list _
      (fun rest _ s' => ∃ h' i, s' = { s with heap := h' } ∧ rest = List.range' i (eso.size - i) ∧ i ≤ eso.size ∧ h'.DictOf knd d (merged kvs (more.take i)) ∧ h'.get? o = some oo ∧ Heap.SameBut d s.heap h')
      _ ?_ ?_ _ _ ⟨s.heap, 0, rfl, by simp, Nat.zero_le _, by simpa [merged] using hd, hoo, Heap.SameBut.refl _ _⟩
    · rintro x rest b s' ⟨h', i, rfl, hr, hi, hd', hoo', hs'⟩
      have hlt : i < eso.size := by
        rcases Nat.lt_or_ge i eso.size with h | h
        · exact h
        · rw [Nat.sub_eq_zero_of_le h] at hr; simp at hr
      obtain ⟨rfl, hrest⟩ : x = i ∧ rest = List.range' (i + 1) (eso.size - (i + 1)) := by
        have e : eso.size - i = (eso.size - (i + 1)) + 1 := by omega
        rw [e, List.range'_succ] at hr
        injection hr with h1 h2
        exact ⟨h1, h2⟩
      refine wpAny_bind (wpAny_dictEntries hoo' hdo' ?_)
      rw [Array.getElem?_eq_getElem hlt]
      obtain ⟨kv, hkv⟩ : ∃ kv, more[x]? = some kv := ⟨more[x]'(by rw [hlen]; exact hlt), List.getElem?_eq_getElem _⟩
      obtain ⟨k, v⟩ := kv
      obtain ⟨hkey, hval⟩ := hpo.get? (e := eso[x]) (by simp [hlt]) hkv
      obtain ⟨k', hkey', hhash⟩ := hko eso[x] (Array.getElem_mem hlt)
      obtain rfl : k' = k := knd.inj _ _ _ hkey' hkey
      show wpAny _ _ (holding [eso[x].key, eso[x].val] (dictPut d eso[x].hash eso[x].key eso[x].val) >>= _) _ _ _
      rw [hhash, hval]
      have hmx : (merged kvs (more.take x)).length ≤ sizeLine := by
        have e1 := PySem.merged_length_le kvs (more.take x)
        have e2 : (more.take x).length ≤ more.length := by rw [List.length_take]; omega
        omega
      refine wpAny_bind (wpAny_holding (put_pairs hkey hd' (fun h'' hd'' hs'' => ?_) hmx))
      have hoo'' : h''.get? o = some oo := (hs''.2 o (Ne.symm hdo)).trans hoo'
      refine wpAny_bind (wpAny_dictEpoch hoo'' hdo' ?_)
      rw [if_neg (by simp)]
      exact wpAny_pure ⟨h'', x + 1, rfl, hrest, hlt, by rw [PySem.merged_take_succ kvs more x (k', v) hkv]; exact hd'', hoo'', hs'.trans hs''⟩
    · rintro b s' ⟨h', i, rfl, hr, hi, hd', hoo', hs'⟩
      have hin : i = eso.size := by
        rcases Nat.lt_or_ge i eso.size with h | h
        · have e : eso.size - i = (eso.size - (i + 1)) + 1 := by omega
          rw [e, List.range'_succ] at hr; exact nomatch hr
        · exact Nat.le_antisymm hi h
      refine wpAny_pure (hQ h' ?_ hs')
      rw [hin, ← hlen, List.take_length] at hd'; exact hd'
  split
  · refine wpAny_bind (wpAny_dictEntries hoo hdo' ?_)
    refine wpAny_bind ?_
    rw [← Array.forIn_toList]
    refine wpAny_forIn_list _ (fun rest _ s' => s' = s ∧ ∀ e ∈ rest, ∃ k, knd.is k e.key = true) _ ?_ ?_ _ _ ⟨rfl, fun e he => ?_⟩
    · rintro e rest b s' ⟨rfl, hall⟩
      obtain ⟨k, hk⟩ := hall e List.mem_cons_self
      have hv := knd.byValue k e.key hk
      cases he : e.key with
      | ref a => rw [he] at hv; cases hv
      | _ => exact wpAny_pure ⟨rfl, fun e' he' => hall e' (List.mem_cons_of_mem _ he')⟩
    · rintro b s' ⟨rfl, _⟩
      exact tail
    · obtain ⟨k, hk, _⟩ := hko e (by simpa using he)
      exact ⟨k, hk⟩
  · exact tail
end
end Bx
set_option Elab.async false
set_option linter.all false
set_option maxRecDepth 100000
set_option maxHeartbeats 4000000
/-! X1: dict rules over the layer. -/
namespace Bx
open PySem PySem.Spec PyProof.Rows L2
open PySem.W (Datum DatumOrd Holds HoldAll T3 T4 Tup EachIs)
section
variable {X : Cx} {a b : Expr} {ta tb : TE} {pos : Pos}
/-- **y into the dict at p -/
theorem d_merge {pins : List (Addr × Obj)} {σ : St} {H : Hp} {s : Shared} {A : Around} {E : Value → Shared → Prop} {p l : Addr} {kvs ls : List (Key × V)} {Q : Unit → Shared → Prop} (I : Inv X pins σ H s) (hp : H p = some (.dK kvs)) (hl : H l = some (.dK ls)) (hne : p ≠ l) (hz : kvs.length + ls.length ≤ 1000000)
    (q : ∀ s', Inv X pins σ (upd H p (.dK (mergeK kvs ls))) s' → Q () s') : wpAny (model X.prog X.w) A (mergeMapping p (.ref l) false) Q E s := by
  obtain ⟨z1, n1, vs1, r1, d1⟩ := dk_of I.hok hp
  obtain ⟨z2, n2, vs2, r2, d2⟩ := dk_of I.hok hl
  have e1 := r1.length
  have e2 := r2.length
  have hb : (1000000 : Nat) ≤ sizeLine := by decide
  refine merge_map (s := s) hne n2 d1 d2 (fun h' dd' hs => q _ ?_) (by omega)
  have he : ∃ q, h'.get? p = some q := let ⟨q, _, _, hq, _⟩ := dd'; ⟨q, hq⟩
  exact d_write I (by rw [hp]; exact True.intro) hs he (dk_new (Nat.le_trans (length_mergeK ls kvs) (by omega)) n1 (r2.merge r1) dd')
/-- {**a, **b} -/
def tStar2 (ta tb : TE) : TE := fun σ H Q => ∀ p, H p = none → ta σ (upd H p (.dK [])) fun x H1 => ∃ l kvs, x = V.ref l ∧ H1 l = some (.dK kvs) ∧ p ≠ l ∧ kvs.length ≤ 1000 ∧ H1 p = some (.dK []) ∧
  tb σ (upd H1 p (.dK (mergeK [] kvs))) fun y H2 => ∃ m ls, y = V.ref m ∧ H2 m = some (.dK ls) ∧ p ≠ m ∧ ls.length ≤ 1000 ∧ H2 p = some (.dK (mergeK [] kvs)) ∧ Q (.ref p) (upd H2 p (.dK (mergeK (mergeK [] kvs) ls)))
theorem pe_star2 (ha : PE X a ta) (hb : PE X b tb) : PE X (.Dict [none, none] [a, b] pos) (tStar2 ta tb) := by
  refine ⟨fun pins s σ H Q I q => ?_⟩
  rw [arm_eval_Dict]
  refine wpAny_bind (wpAny_standAt ?_)
  show wpAny _ _ (dictDisplay [(none, do let x ← eval a X.env; standAt pos; pure x), (none, do let x ← eval b X.env; standAt pos; pure x)]) _ _ _
  have hn := I.hok.fresh (Nat.le_refl s.heap.objs.size)
  have I1 := I.laid (a := s.heap.objs.size) (o := .dK []) (h' := s.heap.push { cls := .type "dict", data := .dict #[] }) (t' := s.toks) (fun _ _ q => Heap.get?_push_of_some _ q) (Nat.le_refl _) (dk_empty s.heap I.big)
  unfold dictDisplay
  dsimp only
  refine wpAny_bind ?_
  simp only [List.forIn_cons, List.forIn_nil]
  refine wpAny_bind (wpAny_bind ?_)
  rw [if_pos (show ([] : List (Sem Value × Sem Value)).isEmpty = true from rfl)]
  refine wpAny_pure ?_
  dsimp only
  refine wpAny_bind (wpAny_alloc ?_)
  refine wpAny_bind (wpAny_holding ?_)
  refine wpAny_bind (thn (ha.run pins _ σ _ _ I1 (q _ hn)) fun u s1 ⟨x, H1, I2, rx, l, kvs, ex, hl, hpl, hz, hp1, q1⟩ => wpAny_bind (wpAny_standAt (wpAny_pure ?_)))
  subst ex
  obtain rfl : u = Value.ref l := rx
  refine wpAny_bind (wpAny_onRaise (wpAny_tryCatch (wpAny_onRaise (wpAny_holding (d_merge I2 hp1 hl hpl (by rw [List.length_nil]; omega) fun s2 I3 => ?_)))))
  refine wpAny_pure ?_
  dsimp only
  refine wpAny_bind (wpAny_bind ?_)
  rw [if_pos (show ([] : List (Sem Value × Sem Value)).isEmpty = true from rfl)]
  refine wpAny_pure ?_
  dsimp only
  refine wpAny_bind (wpAny_pure ?_)
  refine wpAny_bind (wpAny_holding ?_)
  refine wpAny_bind (thn (hb.run pins _ σ _ _ I3 q1) fun u2 s3 ⟨y, H2, I4, ry, m, ls, ey, hm, hpm, hz2, hp2, q2⟩ => wpAny_bind (wpAny_standAt (wpAny_pure ?_)))
  subst ey
  obtain rfl : u2 = Value.ref m := ry
  have hk := length_mergeK kvs []
  rw [List.length_nil] at hk
  refine wpAny_bind (wpAny_onRaise (wpAny_tryCatch (wpAny_onRaise (wpAny_holding (d_merge I4 hp2 hm hpm (by omega) fun s4 I5 => ?_)))))
  refine wpAny_pure ?_
  dsimp only
  refine wpAny_pure ?_
  dsimp only
  refine wpAny_bind ?_
  rw [if_pos (show ([] : List (Sem Value × Sem Value)).isEmpty = true from rfl)]
  refine wpAny_pure ?_
  exact wpAny_pure ⟨.ref s.heap.objs.size, _, I5, rfl, q2⟩
end
end Bx
set_option Elab.async false
set_option linter.all false
set_option maxRecDepth 100000
set_option maxHeartbeats 4000000
/-! X2: dict(tuple of pairs), {t: v}, d.items() of tuple keys. -/
namespace Bx
open PySem PySem.Spec PyProof.Rows L2
open PySem.W (Datum DatumOrd Holds HoldAll T3 T4 Tup EachIs)
section
variable {X : Cx}
theorem pairs_in {pins : List (Addr × Obj)} {σ : St} {H : Hp} {s : Shared} (I : Inv X pins σ H s) : ∀ {vs : List V} {its : List Value} {ps : List (Str × Str)}, HDs H vs ps → Vals vs its →
    ∃ (as : List Addr) (kv : List (Value × Value)) (prs : List (Key × Value)), its = as.map Value.ref ∧ as.length = ps.length ∧ kv.length = ps.length ∧ prs.length = ps.length ∧ KV (ps.map fun q => ((Sum.inr q.1 : Key), V.str q.2)) prs ∧
      ∀ (j : Nat) k v, kv[j]? = some (k, v) → (∃ b, as[j]? = some b ∧ IsTup s.heap b #[k, v]) ∧ ∃ kk, prs[j]? = some (kk, v) ∧ keyIs kk k = true
  | [], its, [], _, r => by
    cases r
    exact ⟨[], [], [], rfl, rfl, rfl, rfl, .nil, fun j k v e => by simp at e⟩
  | v :: vs, its, p :: ps, h, r => by
    have h12 : HD H v p ∧ HDs H vs ps := by
      cases h with
      | cons h1 h2 => exact ⟨h1, h2⟩
    obtain ⟨a, v1, v2, rfl, ea, i1, i2⟩ := hd_pair h12.1
    have e1 := hd_str i1
    have e2 := hd_str i2
    subst e1 e2
    cases r with
    | cons r1 r2 =>
      obtain ⟨as, kv, prs, e, l1, l2, l3, rel, all⟩ := pairs_in I h12.2 r2
      obtain ⟨us, rv, hT, _⟩ := I.tuple (.inl ea)
      obtain ⟨u, y, ei, ru, ry⟩ := vals2 rv
      subst ei
      subst e
      cases r1
      refine ⟨a :: as, (u, y) :: kv, (Sum.inr p.1, y) :: prs, rfl, by simp [l1], by simp [l2], by simp [l3], .cons ⟨rfl, ry⟩ rel, fun j k v e => ?_⟩
      cases j with
      | zero =>
        have e' : (u, y) = (k, v) := Option.some.inj e
        cases e'
        exact ⟨⟨a, rfl, hT⟩, Sum.inr p.1, rfl, kV_is (P := X.prog) (w := X.w) (k := Sum.inr p.1) ru⟩
      | succ j =>
        obtain ⟨⟨b, h1, h2⟩, kk, h3, h4⟩ := all j k v (by simpa using e)
        exact ⟨⟨b, by simpa using h1, h2⟩, kk, by simpa using h3, h4⟩
  | [], _, _ :: _, h, _ => by cases h
  | _ :: _, _, [], h, _ => by cases h
def prK (ps : List (Str × Str)) : List (Key × V) := ps.map fun q => (Sum.inr q.1, V.str q.2)
theorem cr_dictTup (hc : X.calm = true) : CallR X (.type "dict") (fun xs H Q => ∃ (v : V) (ps : List (Str × Str)), xs = [v] ∧ Whole H v (ps.map Datum.toD) ∧ ps.length ≤ 1000 ∧ ∀ p, H p = none → Q (.ref p) (upd H p (.dK (mergeK [] (prK ps))))) := by
  intro pins s σ H xs us Q I r ⟨v, ps, e, hv, hz, q⟩
  subst e
  obtain ⟨u, rfl, ru⟩ := vals1 r
  obtain ⟨t, o, vs, its, n, e, ho, hcl, hdict, hd, rv, hds⟩ := Whole.get hv I
  subst e
  have hs : HDs H vs ps := hds
  obtain rfl : u = Value.ref t := ru
  obtain ⟨as, kv, prs, e, l1, l2, l3, rel, all⟩ := pairs_in I hs rv
  subst e
  have ok : PlainSeq "tuple" s.heap t (as.map Value.ref).toArray ∧ PairItems s.heap (as.map Value.ref).toArray (fun j => as.getD j 0) kv := by
    refine ⟨⟨o, n, ho, hcl, hdict, hd⟩, by simp [l1, l2], fun j k v e => ?_⟩
    obtain ⟨⟨b, h1, h2⟩, _⟩ := all j k v e
    have eb : as.getD j 0 = b := by rw [List.getD_eq_getElem?_getD, h1]; rfl
    show _ ∧ PairAt s.heap (as.getD j 0) k v
    rw [eb]
    exact ⟨by simp [h1], .inl h2⟩
  refine PySem.call_dict_pairs (knd := mixKind X.prog X.w) (kvs := prs) (PairArg.tuple t (as.map Value.ref).toArray (fun j => as.getD j 0) kv) (I.ok.hd hc) ok ⟨by rw [l3, l2], fun i key v e => ?_⟩ (by rw [l2]; exact Nat.le_trans hz (by decide)) fun h' tk hd' k => ?_
  · obtain ⟨_, kk, h3, h4⟩ := all i key v e
    exact ⟨kk, h3, h4⟩
  · have hm : (s.heap.objs.size == sysModules) = false := beq_eq_false_iff_ne.mpr (Nat.ne_of_gt I.big)
    have hlen : (mergeK [] (prK ps)).length ≤ sizeLine := by
      refine Nat.le_trans (length_mergeK (prK ps) []) ?_
      rw [List.length_nil, Nat.zero_add, prK, List.length_map, sizeLine_eq]
      omega
    exact ⟨.ref s.heap.objs.size, _, I.laid (t' := tk) (fun b o e => k b o (by simp) e) (Nat.le_refl _) (show ObjOk X.prog X.w _ _ _ (.dK (mergeK [] (prK ps))) from ⟨hlen, hm, merged [] prs, KV.merge rel .nil, hd'⟩), rfl, q _ (I.hok.fresh (Nat.le_refl _))⟩
end
end Bx
set_option Elab.async false
set_option linter.all false
set_option maxRecDepth 100000
set_option maxHeartbeats 4000000
/-! X3: {t: v}, d.items() of tuple keys. -/
namespace Bx
open PySem PySem.Spec PyProof.Rows L2
open PySem.W (Datum DatumOrd Holds HoldAll T3 T4 Tup EachIs)
abbrev Rs.w3 (t : T3 Int Int Pat) : Rs := .p (fun H v => W3 H v t) fun _ _ _ s h => h.same s
section
variable {X : Cx} {e k a b c : Expr} {es : List Expr} {σ : St} {H H' H1 : Hp} {r ra rb rz : Rs} {rs : List Rs} {pos apos cpos : Pos} {ds ds1 ds2 : List PyData} {d : PyData}
/-- {k: e}, k a bond -/
theorem pv_disp1 {t : Bond} {y : T3 Int Int Pat} (hk : PV X k σ H (.t t)) (hv : PV X e σ H (.w3 y)) (hu : X.A.units + 64 < cLine := by assumption) : PV X (.Dict [some k] [e] pos) σ H (.m [(bKey t, y)]) := fun pins s H1 hs1 I => by
  rw [arm_eval_Dict, zip_pairTrees [some k] [e] X.env pos rfl rfl, dictDisplay_pairs (pairTrees [some k] [e] X.env pos) (by intro h; cases h) (by show 1 < 17; decide)]
  refine wpAny_bind (wpAny_standAt (wpAny_bind (wpAny_subDictH (knd := tupleKind (mixKind X.prog X.w)) (Q := fun d s' => wpAny (model X.prog X.w) X.A (pure (Value.ref d)) (EP X pins σ fun v H2 => Same H1 H2 ∧ (Rs.m [(bKey t, y)]).P H1 v H2) X.xe s') (show X.A.units < cLine by omega) (by show 1 ≤ 15; decide) ?_)))
  have hn := I.hok.fresh (Nat.le_refl s.heap.objs.size)
  have I1 := I.laid (a := s.heap.objs.size) (o := .dT []) (h' := s.heap.push { cls := .type "dict", data := .dict #[] }) (t' := s.toks) (fun _ _ q => Heap.get?_push_of_some _ q) (Nat.le_refl _) (dt_empty s.heap I.big)
  refine thn ((pps_cons (X := X) (pos := pos) (pe_s (e := k)) (pe_s (e := e)) pps_nil).run pins _ σ _ (fun ps H2 => ∃ q v2, ps = [(V.ref q, v2)] ∧ Same (upd H1 s.heap.objs.size (.dT [])) H2 ∧ H2 q = some (.tup ((bKey t).map kV)) ∧ W3 H2 v2 y) I1 ?_) fun us s2 ⟨ps, H2, I2, rel, q, v2, eps, s2', hq, hw⟩ => ?_
  · refine (hk.mono (hs1.trans (same_new hn))).t (Same.refl _) fun x H2 s2 px => ?_
    refine (hv.mono (hs1.trans (same_new hn))).t s2 fun z H3 s3 pz => ?_
    obtain ⟨q, rfl, hq⟩ := hd_bond (show HD H2 x t from px)
    exact ⟨q, z, rfl, s2.trans s3, s3 _ _ hq, pz⟩
  · subst eps
    cases rel with
    | @cons a0 b as bs r rr =>
      cases rr
      obtain ⟨r1, r2⟩ := r
      obtain ⟨u1, u2⟩ := b
      dsimp only at r1 r2
      obtain rfl : u1 = Value.ref q := r1
      have hD := s2' _ _ (upd_same (H := H1) (a := s.heap.objs.size) (o := .dT []))
      obtain ⟨z, hd, xs, rel, dd⟩ := dt_of I2.hok hD
      cases rel
      refine ⟨[(bKey t, q, u2)], ⟨rfl, rfl, key_of (ks := bKey t) I2.hok hq, True.intro⟩, dd, fun h' tk dd' hs => wpAny_pure ?_⟩
      have he : ∃ o, h'.get? s.heap.objs.size = some o := let ⟨o, _, _, hq, _⟩ := dd'; ⟨o, hq⟩
      obtain ⟨o, es', ep, h1, h2, h3, h4, _, h5⟩ := dd'
      have hk2 : (upd H2 s.heap.objs.size (.dT [(bKey t, v2)])) q = some (.tup ((bKey t).map kV)) := by
        have ne : q ≠ s.heap.objs.size := fun z => by rw [z, hD] at hq; cases hq
        rw [upd_ne ne]; exact hq
      refine ⟨.ref s.heap.objs.size, upd H2 s.heap.objs.size (.dT [(bKey t, v2)]), d_write (t' := tk) I2 (by rw [hD]; exact True.intro) hs he ⟨by show 1 ≤ sizeLine; decide, hd, [(bKey t, q, u2)], .cons ⟨rfl, hk2, r2⟩ .nil, o, es', ep, h1, h2, h3, h4, h5⟩, rfl, ?_, s.heap.objs.size, [v2], rfl, hn, upd_same, ?_⟩
      · exact fun b u e => by
          have nb : b ≠ s.heap.objs.size := ne_of_none e hn
          rw [upd_ne nb]
          exact s2' b u (by rw [upd_ne nb]; exact e)
      · refine .cons ?_ .nil
        obtain ⟨⟨p, v3, ev, g1, g2⟩, ne⟩ := hw
        have ne1 : p ≠ s.heap.objs.size := fun z => by rw [z, hD] at g1; cases g1
        obtain ⟨q3, o3, xs3, e3, f1, f2, f3⟩ := g2
        have ne2 : q3 ≠ s.heap.objs.size := fun z => by rw [z, hD] at f1; cases f1
        refine ⟨⟨p, v3, ev, by rw [upd_ne ne1]; exact g1, q3, o3, xs3, e3, by rw [upd_ne ne2]; exact f1, f2, f3.ts (TK.upd (fun ys e => by rw [hD] at e; cases e) fun _ ys e => by rw [hD] at e; cases e)⟩, ne⟩
end
end Bx
set_option Elab.async false
set_option linter.all false
set_option maxRecDepth 100000
set_option maxHeartbeats 4000000
/-! X4: for .. in d.items(), tuple keys. -/
namespace Bx
open PySem PySem.Spec PyProof.Rows L2
open PySem.W (Datum DatumOrd Holds HoldAll T3 T4 Tup EachIs)
section
variable {X : Cx} {pins : List (Addr × Obj)} {σ : St} {H : Hp} {s : Shared} {d : Addr} {o : Obj}
theorem frz_all {kvs : List (List Key × V)} (I : Inv X pins σ H s) (h : H d = some (.frz o (.dT kvs))) :
    (d == sysModules) = false ∧ s.heap.get? d = some o ∧ o.ExactDict ∧ ∃ (es : Array DictEntry) (ep : Nat), o.data = .dict es ep ∧ es.size = kvs.length ∧
      ∀ (i : Nat) (k : List Key) (v : V), kvs[i]? = some (k, v) → ∃ (en : DictEntry) (q : Addr), es[i]? = some en ∧ en.key = .ref q ∧ H q = some (.tup (k.map kV)) ∧ RelV v en.val := by
  obtain ⟨hd, z, hs, xs, pr, o', es, ep, ho, hx, hdt, he, _⟩ := I.hok d _ h
  rw [hd] at ho
  cases ho
  refine ⟨hs, hd, hx, es, ep, hdt, ?_, fun i k v e => ?_⟩
  · have l1 : es.size = xs.length := size_of_entries he
    have l2 : kvs.length = xs.length := Paired.length pr
    omega
  · obtain ⟨b, hb, e1, e2, e3⟩ := paired_get pr e
    have q := entry_at he i
    rw [hb] at q
    exact ⟨_, b.2.1, q, rfl, e2, e3⟩
end
def ItiT (d : Addr) (o : Obj) (kvs : List (List Key × V)) : It :=
  ⟨fun i H => H d = some (.frz o (.dT kvs)) ∧ i < kvs.length, fun i H x H' => ∃ T q k v, kvs[i]? = some (k, v) ∧ x = .ref T ∧ H T = none ∧ H q = some (.tup (k.map kV)) ∧ H' = upd H T (.tup [.ref q, v]), fun i H => H d = some (.frz o (.dT kvs)) ∧ kvs.length ≤ i⟩
section
variable {P : Program} {w : World} {K : PySem.W.Frag} {tg : Expr} {d : Addr} {o : Obj} {es : Array DictEntry} {ep : Nat}
theorem turn_itemsT {kvs : List (List Key × V)} {elts : List Expr} {kk : Nat} {tpos : Pos} (it : Addr) (hod : o.data = .dict es ep) :
    Turn P w K (.Tuple elts kk tpos) (ItiT d o kvs) [it] it (fun i h => ∃ ok ov, IsItemIter h it d i kvs.length ep ok ov) where
  mem := by simp
  obj := fun i h st b hb => by
    have e : b = it := by simpa using hb
    subst e
    obtain ⟨ok, ov, e⟩ := st
    exact ⟨_, e, fun v z => nomatch z⟩
  keep := fun i h h' st k => let ⟨ok, ov, e⟩ := st; ⟨ok, ov, k it (by simp) _ e⟩
  item := by
    intro X hP hw hK hc i pins s σ H E I hf st hg
    subst hP hw hK
    obtain ⟨hd, hi⟩ := hg
    obtain ⟨hs, hgd, hx, es', ep', hdt, hsz, ent⟩ := frz_all I hd
    obtain ⟨rfl, rfl⟩ := dict_ep hod hdt
    obtain ⟨⟨k, v⟩, hkv⟩ : ∃ p, kvs[i]? = some p := ⟨kvs[i], List.getElem?_eq_getElem hi⟩
    obtain ⟨en, q, hen, hkey, hq, rv⟩ := ent i k v hkv
    obtain ⟨ok, ov, he⟩ := st
    rw [← hsz] at he
    have hi' : i < es'.size := by omega
    have een : es'[i] = en := by
      rw [Array.getElem?_eq_getElem hi'] at hen
      exact Option.some.inj hen
    have hlt : it < s.heap.objs.size := Heap.lt_size he
    refine DT.nextI he ⟨o, hgd, hx, hdt⟩ hi' fun h' ho hT hz hk => ?_
    rw [een] at ho hT
    refine ⟨_, rfl, wpAny_letOwnedTupleGo_items (s := { s with heap := h' }) ho fun h'' he' sb => ?_⟩
    have hT2 : h''.get? s.heap.objs.size = some { cls := .type "tuple", data := .seq #[en.key, en.val] } := (sb.2 _ (Nat.ne_of_gt hlt)).trans hT
    have new : ObjOk X.prog X.w (upd H s.heap.objs.size (.tup [.ref q, v])) h'' s.heap.objs.size (.tup [.ref q, v]) :=
      ⟨by show 2 ≤ sizeLine; decide, [en.key, en.val], .cons (show RelV (V.ref q) en.key from hkey) (.cons rv .nil), ⟨_, hT2, rfl, _, rfl⟩⟩
    have I1 : Inv X pins σ (upd H s.heap.objs.size (.tup [.ref q, v])) { s with heap := h'' } :=
      I.turnedNew (t' := s.toks) (ch := [it]) (fun b ob hb e => (sb.2 b (by simpa using hb)).trans (hk b ob (by simpa using hb) e)) hf (Nat.le_refl _) new
    refine ⟨.ref s.heap.objs.size, _, I1, rfl, ⟨_, q, k, v, hkv, rfl, I.hok.fresh (Nat.le_refl _), hq, rfl⟩, ⟨en.key, en.val, ?_⟩, fun b hb => ?_⟩
    · rw [← hsz]; exact he'
    · have e : b = it := by simpa using hb
      rw [e, upd_ne (Nat.ne_of_lt hlt)]
      exact (hf it (by simp)).1
  done := by
    intro X hP hw hK hc i pins s σ H E I hf st hg
    subst hP hw hK
    obtain ⟨hd, hi⟩ := hg
    obtain ⟨f0, f1, f2, f3, f4, f5⟩ := hf it (by simp)
    obtain ⟨hs, hgd, hx, es', ep', hdt, hsz, ent⟩ := frz_all I hd
    obtain ⟨rfl, rfl⟩ := dict_ep hod hdt
    obtain ⟨ok, ov, he⟩ := st
    rw [← hsz] at he
    exact DT.endI (I.ok.hd hc) he ⟨o, hgd, hx, hdt⟩ (by omega) fun h' eb => ⟨rfl, I.turned (t' := s.toks) (fun b ob hb e => eb b ob hb e) f0 f1 f3 f4 f5⟩
  self := fun A i s Q E st h => let ⟨_, _, e⟩ := st; PySem.W.kcp_self e h
end
def iItemsT (td : TE) : TI := fun σ H R => td σ H fun x H1 => ∃ d kvs, x = .ref d ∧ H1 d = some (.dT kvs) ∧ ∀ o, R (ItiT d o kvs) (upd H1 d (.frz o (.dT kvs)))
section
variable {X : Cx} {tg e : Expr} {td : TE} {apos cpos : Pos}
theorem pi_itemsT {elts : List Expr} {kk : Nat} {tpos : Pos} (he : PE X e td) (hbase : attributeBase e "items" X.env (eval e X.env) = eval e X.env := by rfl) (hline : (apos.endLine == cpos.line) = true := by rfl) :
    PI X (.Tuple elts kk tpos) (.Call (.Attribute e "items" apos) [] [] cpos) (iItemsT td) := by
  refine ⟨fun pins s σ H R I h => ?_⟩
  refine wpAny_Call_method (T := "dict") (id := "dict.items") hbase rfl hline PySem.F.plainAttrs_dict PySem.F.slot_dict_items PySem.F.type_dict_items (thn (he.run pins s σ H _ I h) fun u s1 ⟨x, H1, I1, rx, d, kvs, ex, hd, q⟩ => ?_)
  subst ex
  obtain rfl : u = Value.ref d := rx
  obtain ⟨o, I1⟩ := I1.lock hd True.intro
  have hd : (upd H1 d (.frz o (.dT kvs))) d = some (.frz o (.dT kvs)) := upd_same
  have q := q o
  generalize upd H1 d (.frz o (.dT kvs)) = H1' at I1 hd q
  obtain ⟨hs, hgd, hx, es, ep, hdt, hsz, ent⟩ := frz_all I1 hd
  have hT : s1.TypeIs (.ref d) "dict" := ⟨o, hgd, hx.1⟩
  refine ⟨hT, fun a ea => by cases ea; exact ⟨o, hgd, hx.2.1⟩, ?_⟩
  have I2 : Inv X pins σ H1' { s1 with heap := s1.heap.push { cls := .type "dict_items", data := .fields #[.ref d] } } := I1.kept (t' := s1.toks) fun b ob q => Heap.get?_push_of_some _ q
  have fin : wpAny (model X.prog X.w) X.A (pyIter (.ref s1.heap.objs.size)) (PIE X pins σ (.Tuple elts kk tpos) R) X.xe { s1 with heap := s1.heap.push { cls := .type "dict_items", data := .fields #[.ref d] } } := by
    refine DT.iterI (d := d) (es := es) (ep := ep) ⟨_, Heap.get?_push_size _ rfl, rfl, rfl⟩ ⟨o, Heap.get?_push_of_some _ hgd, hx, hdt⟩ (pi_one (tk := s1.toks) I2 _ (turn_itemsT _ hdt) ⟨.none, .none, ?_⟩ q)
    rw [← hsz]
    exact Heap.get?_push_size _ rfl
  show wpAny _ _ (callWith cpos (.builtin "dict.items") [.ref d] [] []) _ X.xe s1
  exact method_meetsIn PySem.F.slot_dict_items PySem.F.entry_dict_items rfl (PySem.evalArgs_none ⟨rfl, hT, PySem.F.args_dict_items_1 _, _, DT.meetsItems (es := es) (ep := ep) hs, ⟨o, hgd, hx, hdt⟩, fin⟩)
end
end Bx
set_option Elab.async false
set_option linter.all false
set_option maxRecDepth 100000
set_option maxHeartbeats 4000000
/-! X5: loops by what each turn gives. -/
namespace Bx
open PySem PySem.Spec PyProof.Rows L2
open PySem.W (Datum DatumOrd Holds HoldAll T3 T4 Tup EachIs)
theorem Whole.ts {H H' : Hp} {v : V} {ds : List PyData} (s : TK H H') (h : Whole H v ds) : Whole H' v ds := by
  obtain ⟨q, o, xs, rfl, e, d, hs⟩ := h
  exact ⟨q, o, xs, rfl, s.f _ _ _ e, d, hs.ts s⟩
theorem W3.ts {H H' : Hp} {v : V} {t : T3 Int Int Pat} (s : TK H H') (h : W3 H v t) : W3 H' v t := by
  obtain ⟨⟨p, v3, e, h1, h2⟩, n⟩ := h
  exact ⟨⟨p, v3, e, s.t _ _ h1, h2.ts s⟩, n⟩
theorem W3s.ts {H H' : Hp} {vs : List V} {ts : List (T3 Int Int Pat)} (s : TK H H') (h : W3s H vs ts) : W3s H' vs ts := by
  induction h with
  | nil => exact .nil
  | cons h _ ih => exact .cons (h.ts s) ih
theorem W3s.length {H : Hp} {vs : List V} {ts : List (T3 Int Int Pat)} (h : W3s H vs ts) : vs.length = ts.length := by
  induction h with
  | nil => rfl
  | cons _ _ ih => exact congrArg (· + 1) ih
theorem W3s.get {H : Hp} {vs : List V} {ts : List (T3 Int Int Pat)} (h : W3s H vs ts) : ∀ {i : Nat} {t : T3 Int Int Pat}, ts[i]? = some t → ∃ v, vs[i]? = some v ∧ W3 H v t := by
  induction h with
  | nil => intro i t e; simp at e
  | cons h _ ih =>
    intro i t e
    cases i with
    | zero =>
      have e := Option.some.inj e
      subst e
      exact ⟨_, rfl, h⟩
    | succ i => exact ih (i := i) e
theorem W3s.get' {H : Hp} {vs : List V} {ts : List (T3 Int Int Pat)} (h : W3s H vs ts) : ∀ {i : Nat} {v : V}, vs[i]? = some v → ∃ t, ts[i]? = some t ∧ W3 H v t := by
  induction h with
  | nil => intro i t e; simp at e
  | cons h _ ih =>
    intro i t e
    cases i with
    | zero =>
      have e := Option.some.inj e
      subst e
      exact ⟨_, rfl, h⟩
    | succ i => exact ih (i := i) e
theorem W3s.hds {H : Hp} {vs : List V} {ts : List (T3 Int Int Pat)} (h : W3s H vs ts) : HDs H vs ts := by
  induction h with
  | nil => exact HDs.nil
  | cons h _ ih => exact HDs.cons h.hd ih
theorem W3s.append {H : Hp} {vs ws : List V} {ts us : List (T3 Int Int Pat)} (h : W3s H vs ts) (k : W3s H ws us) : W3s H (vs ++ ws) (ts ++ us) := by
  induction h with
  | nil => exact k
  | cons h _ ih => exact .cons h ih
section
variable {X : Cx} {tg iter e : Expr} {σ : St} {H : Hp} {apos cpos : Pos}
def PItG (S : Hp → Hp → Prop) (X : Cx) (tg iter : Expr) (σ : St) (H : Hp) (n : Nat) (Y : Nat → Hp → V → Hp → Prop) : Prop :=
  ∃ wi, PI X tg iter wi ∧ ∀ H1, Same H H1 → ∀ R : It → Hp → Prop, (∀ J H2, Same H1 H2 → Walk J n (S H2) Y → R J H2) → wi σ H1 R
theorem PIt.g {S : Hp → Hp → Prop} {ds : List PyData} (h : PIt S X tg iter σ H ds) : PItG S X tg iter σ H ds.length (YD ds) := h
theorem ws_forG {S : Hp → Hp → Prop} {g : TG} {n : Nat} {Y : Nat → Hp → V → Hp → Prop} {body : List Stmt} {pos : Pos} {D : Ends} (hp : PassesOwn (model X.prog X.w) X.A X.env X.xe) (hc : X.calm = true) (hi : PItG S X tg iter σ H n Y) (hg : PG X tg g) (Pv : Nat → St → Hp → Prop)
    (h0 : ∀ H1, Same H H1 → Pv 0 σ H1) (hS : ∀ H1 i σ' H', Same H H1 → i ≤ n → Pv i σ' H' → S H1 H')
    (hs : ∀ i x σ' H' H'', i < n → Pv i σ' H' → Y i H' x H'' → GTo g σ' H'' x fun σ2 => WB X body { D with nx := Pv (i + 1), ct := Pv (i + 1), bk := D.nx } σ2 H'')
    (hd : ∀ σ' H', Pv n σ' H' → D.nx σ' H') (hf : ∀ x, foldedSetIterable iter X.env x = pure x := by intro _; rfl) : WS X (.For tg iter body [] pos) D σ H := by
  obtain ⟨wi, hpi, hq⟩ := hi
  refine .of (ps_for hp hc hpi hg pss_w hf) (hq H (Same.refl _) _ fun J H2 s2 w => for_it w Pv (h0 H2 s2) (fun i σ' H' hi p => hS H2 i σ' H' s2 hi p) (fun i x σ' H' H'' hi p y => ?_) hd)
  exact hs i x σ' H' H'' hi p y _ fun σ2 h => h
/-- the items of such a dict -/
def YI (kds : List (List Key × T3 Int Int Pat)) : Nat → Hp → V → Hp → Prop := fun i H x H' => Same H H' ∧ ∃ (T q : Addr) (v : V) (k : List Key) (t : T3 Int Int Pat), kds[i]? = some (k, t) ∧ x = .ref T ∧ H' T = some (.tup [.ref q, v]) ∧ H' q = some (.tup (k.map kV)) ∧ W3 H' v t
theorem pit_items {elts : List Expr} {kk : Nat} {tpos : Pos} {kds : List (List Key × T3 Int Int Pat)} (h : PV X e σ H (.m kds)) (hbase : attributeBase e "items" X.env (eval e X.env) = eval e X.env := by rfl) (hline : (apos.endLine == cpos.line) = true := by rfl) :
    PItG Same X (.Tuple elts kk tpos) (.Call (.Attribute e "items" apos) [] [] cpos) σ H kds.length (YI kds) := by
  refine ⟨_, pi_itemsT pe_s hbase hline, fun H1 hs R hR => h.t hs fun v H2 s2 pd => ?_⟩
  obtain ⟨d, vs, rfl, n, hd, hw⟩ := pd
  refine ⟨d, _, rfl, hd, fun o => hR _ _ ?_ ?_⟩
  · intro b u e
    have nb : b ≠ d := ne_of_none e n
    rw [upd_ne nb]
    exact s2 b u e
  · have t2 : TK H2 (upd H2 d (.frz o (.dT ((kds.map (·.1)).zip vs)))) := TK.upd (fun ys e => by rw [hd] at e; cases e) fun _ ys e => by rw [hd] at e; cases e
    have hl : vs.length = kds.length := by rw [hw.length, List.length_map]
    have hz : ((kds.map (·.1)).zip vs).length = kds.length := by rw [List.length_zip, List.length_map, hl, Nat.min_self]
    have fz : ∀ H', Same (upd H2 d (.frz o (.dT ((kds.map (·.1)).zip vs)))) H' → H' d = some (.frz o (.dT ((kds.map (·.1)).zip vs))) := fun H' s => s _ _ upd_same
    refine ⟨fun i H' hi s => ⟨fz H' s, by rw [hz]; exact hi⟩, fun H' s => ⟨fz H' s, by rw [hz]; exact Nat.le_refl _⟩, fun i H' x H'' hi s y => ?_⟩
    obtain ⟨T, q, k, v, hkv, rfl, nT, hq, rfl⟩ := y
    have hg : kds[i]? = some kds[i] := List.getElem?_eq_getElem hi
    have hk : ((kds.map (·.1)).zip vs)[i]? = some (kds[i].1, v) := by
      rw [List.getElem?_zip_eq_some] at hkv ⊢
      refine ⟨by rw [List.getElem?_map, hg]; rfl, hkv.2⟩
    rw [hk] at hkv
    have ek : kds[i].1 = k := congrArg Prod.fst (Option.some.inj hkv)
    obtain ⟨t, ht, hwt⟩ := hw.get' (List.getElem?_zip_eq_some.mp hk).2
    rw [List.getElem?_map, hg] at ht
    have ht : kds[i].2 = t := Option.some.inj ht
    have sn := same_new (o := .tup [.ref q, v]) nT
    exact ⟨sn, T, q, v, k, t, by rw [hg, ← ek, ← ht], rfl, upd_same, sn _ _ hq, (hwt.ts (t2.trans (.same s))).same sn⟩
/-- last, (more, many, walk) -/
theorem gto_item {K : PySem.W.Frag} {i j l m : Nat} {T q : Addr} {v : V} {t : T3 Int Int Pat} {P : St → Prop} (hT : H T = some (.tup [.ref q, v])) (hw : W3 H v t) (k : ∀ v3, Whole H v3 (t.c.items.map Datum.toD) → P ((((σ.set i (some (.ref q))).set j (some (.int t.a))).set l (some (.int t.b))).set m (some v3))) :
    GTo (gTup K 2 (gCons (gName i) (gCons (gTup K 3 (gCons (gName j) (gCons (gName l) (gCons (gName m) gNil)))) gNil))) σ H (.ref T) P := fun Q q' => by
  obtain ⟨⟨p, v3, rfl, h1, h2⟩, _⟩ := hw
  exact ⟨_, _, rfl, SqT.of hT, rfl, _, _, rfl, _, _, rfl, ⟨_, _, rfl, SqT.of h1, rfl, _, _, rfl, _, _, rfl, _, _, rfl, rfl, rfl, q' _ (k _ h2)⟩⟩
end
end Bx
set_option Elab.async false
set_option linter.all false
set_option maxRecDepth 100000
set_option maxHeartbeats 4000000
/-! B7: more rules. -/
namespace Bx
open PySem PySem.Spec PyProof.Rows L2
open PySem.W (Datum DatumOrd Holds HoldAll T3 T4 Tup EachIs)
theorem str_beq (w y : Str) : (w == y) = decide (w = y) := by
  by_cases h : w = y
  · subst h; simp
  · simp [h]
theorem inV_strs (y : Str) : ∀ ys : List Str, inV (.str y) (ys.map V.str) = decide (y ∈ ys)
  | [] => rfl
  | w :: ws => by
    have ih := inV_strs y ws
    unfold inV at ih ⊢
    rw [List.map_cons, List.any_cons, ih]
    show ((w == y) || decide (y ∈ ws)) = _
    rw [str_beq]
    by_cases h : w = y
    · subst h; simp
    · have h' : ¬ y = w := fun e => h e.symm
      simp [h, h']
section
variable {X : Cx} {tg e e2 o a b c : Expr} {es : List Expr} {σ : St} {H H' H1 : Hp} {r ra rb rz : Rs} {rs : List Rs} {pos apos cpos : Pos} {ds ds1 ds2 : List PyData} {d : PyData}
/-- a sign in a text -/
theorem pv_inSign {n : Nat} {z : Str} (ha : PV X a σ H (.s (sg n))) (hb : PV X b σ H (.s z)) (hm : behindInMarks .In b = false := by rfl) : PV X (.Compare a [.In] [b] pos) σ H (.b (decide (n ∈ z.cps.toList))) :=
  pv_cmp op_in_sign ha hb (fun H0 H' u v _ _ px py Q q => ⟨n, z, Rs.pS px, Rs.pS py, q _ H' (Same.refl _) (DI.bl _)⟩) hm
/-- a text in a global tuple of texts -/
theorem pv_inGlob {x y : Str} {z : Addr} {ys : List Str} {p : Pos} (hm : X.mg x = some (.ref z)) (hz : ∀ H, SqT X.K H z (ys.map V.str)) (ha : PV X a σ H (.s y)) (hg : Gl X x := by rfl) (hd : (x == ("__debug__" : Str)) = false := by decide) (hmk : behindInMarks .In (.Name x p) = false := by rfl) :
    PV X (.Compare a [.In] [.Name x p] pos) σ H (.b (decide (y ∈ ys))) :=
  pv_cmp (ra := .s y) (rb := .v (.ref z)) op_in_seq ha (.of (pe_glob (v := .ref z) hg hm rfl hd) fun H1 _ => ⟨Same.refl _, rfl⟩) (fun H0 H' u v _ _ px py Q q => by
    have py : v = .ref z := py
    have fl : (ys.map V.str).all flatV = true := by rw [List.all_map]; exact List.all_eq_true.mpr fun _ _ => rfl
    have iv := inV_strs y ys
    refine ⟨z, _, py, .inr (hz H'), by rw [Rs.pS px]; rfl, fl, ?_⟩
    rw [Rs.pS px, iv]
    exact q _ H' (Same.refl _) (DI.bl _)) hmk
theorem DIs.zipD_get {H : Hp} {xs ys : List V} {i : Nat} {x y : V} (h1 : DIs H xs ds1) (h2 : DIs H ys ds2) (hx : xs[i]? = some x) (hy : ys[i]? = some y) : ∃ a b, (zipD ds1 ds2)[i]? = some (.tuple [a, b]) ∧ DI H x a ∧ DI H y b := by
  obtain ⟨a, e1, d1⟩ := h1.get' hx
  obtain ⟨b, e2, d2⟩ := h2.get' hy
  exact ⟨a, b, Bx.zipD_get e1 e2, d1, d2⟩
/-- zip of two tuples, walked -/
theorem pit_zip {p tpos : Pos} {elts : List Expr} {kk : Nat} (hm : X.mg "zip" = none) (h1 : PV X e σ H (.d (.tuple ds1))) (h2 : PV X e2 σ H (.d (.tuple ds2))) (hg : Gl X "zip" := by rfl) (hs : starEach [e, e2] X.env = (false, eval e X.env) :: starEach [e2] X.env := by rfl) (hpl : (backTo pos (starEach [e2] X.env)).any (·.1) = false := by rfl)
    (hs2 : starEach [e2] X.env = (false, eval e2 X.env) :: starEach [] X.env := by rfl) : PIt Same X (.Tuple elts kk tpos) (.Call (.Name "zip" p) [e, e2] [] pos) σ H (zipD ds1 ds2) := by
  refine ⟨_, RZ.pi_zipA hg hm pa_s hs hpl, fun H1 hs1 R hR => (pas_cons h1 (pas_cons h2 pas_nil hs2) hs).t hs1 fun vs H2 s2 pr => ?_⟩
  obtain ⟨v, w, rfl, pv, pw⟩ := rsl2 pr
  have pv : DI H2 v (.tuple ds1) := pv
  have pw : DI H2 w (.tuple ds2) := pw
  cases pv with
  | @tup p1 xs _ e1 d1 => cases pw with
    | @tup p2 ys _ e2' d2 =>
      refine ⟨p1, p2, xs, ys, rfl, .inr ⟨e1.sq, e2'.sq, hR _ H2 s2 ?_⟩⟩
      have hl : (zipD ds1 ds2).length = min xs.length ys.length := by unfold zipD; rw [List.length_zipWith, d1.length, d2.length]
      refine ⟨fun i H' hi s => ?_, fun H' s => ⟨xs, ys, (e1.ts (.same s)).sq, (e2'.ts (.same s)).sq, by omega⟩, fun i H' x H'' hi s y => ?_⟩
      · have h1 : i < xs.length := by omega
        have h2 : i < ys.length := by omega
        exact ⟨xs, ys, xs[i], ys[i], (e1.ts (.same s)).sq, (e2'.ts (.same s)).sq, by simp [h1], by simp [h2]⟩
      · obtain ⟨T, x, z, rfl, nT, rfl, h4, h5⟩ := y
        obtain ⟨a, b, e, i1, i2⟩ := DIs.zipD_get d1 d2 (h4 xs (e1.ts (.same s)).sq) (h5 ys (e2'.ts (.same s)).sq)
        have sn := same_new (o := .tup [x, z]) nT
        exact ⟨sn, _, e, .mk upd_same (.cons (i1.same (Same.trans s sn)) (.cons (i2.same (Same.trans s sn)) .nil))⟩
/-! targets of names -/
theorem pgT2 (hN : X.N.Nodup) (hc : X.calm = true) (i j : Nat) {xi : Str} {pi : Pos} {xj : Str} {pj : Pos} {kk : Nat}
    (hi : X.N[i]? = some xi := by rfl) (li : Loc X.env.scope xi := by first | exact Or.inl rfl | exact Or.inr rfl) (fi : X.fn xi = true ∨ X.env.scope.names.lookup xi = some .local := by first | exact .inl rfl | exact .inr rfl)
    (hj : X.N[j]? = some xj := by rfl) (lj : Loc X.env.scope xj := by first | exact Or.inl rfl | exact Or.inr rfl) (fj : X.fn xj = true ∨ X.env.scope.names.lookup xj = some .local := by first | exact .inl rfl | exact .inr rfl) : PG X (.Tuple [.Name xi pi, .Name xj pj] kk pos) (gTup X.K 2 (gCons (gName i) (gCons (gName j) gNil))) :=
  pg_tup hc (pgs_cons (pg_name hN hi li fi) (pgs_cons (pg_name hN hj lj fj) pgs_nil))
theorem pgT3 (hN : X.N.Nodup) (hc : X.calm = true) (i j l : Nat) {xi : Str} {pi : Pos} {xj : Str} {pj : Pos} {xl : Str} {pl : Pos} {kk : Nat}
    (hi : X.N[i]? = some xi := by rfl) (li : Loc X.env.scope xi := by first | exact Or.inl rfl | exact Or.inr rfl) (fi : X.fn xi = true ∨ X.env.scope.names.lookup xi = some .local := by first | exact .inl rfl | exact .inr rfl)
    (hj : X.N[j]? = some xj := by rfl) (lj : Loc X.env.scope xj := by first | exact Or.inl rfl | exact Or.inr rfl) (fj : X.fn xj = true ∨ X.env.scope.names.lookup xj = some .local := by first | exact .inl rfl | exact .inr rfl)
    (hl : X.N[l]? = some xl := by rfl) (ll : Loc X.env.scope xl := by first | exact Or.inl rfl | exact Or.inr rfl) (fl : X.fn xl = true ∨ X.env.scope.names.lookup xl = some .local := by first | exact .inl rfl | exact .inr rfl) : PG X (.Tuple [.Name xi pi, .Name xj pj, .Name xl pl] kk pos) (gTup X.K 3 (gCons (gName i) (gCons (gName j) (gCons (gName l) gNil)))) :=
  pg_tup hc (pgs_cons (pg_name hN hi li fi) (pgs_cons (pg_name hN hj lj fj) (pgs_cons (pg_name hN hl ll fl) pgs_nil)))
theorem pgT4 (hN : X.N.Nodup) (hc : X.calm = true) (i j l m : Nat) {xi : Str} {pi : Pos} {xj : Str} {pj : Pos} {xl : Str} {pl : Pos} {xm : Str} {pm : Pos} {kk : Nat}
    (hi : X.N[i]? = some xi := by rfl) (li : Loc X.env.scope xi := by first | exact Or.inl rfl | exact Or.inr rfl) (fi : X.fn xi = true ∨ X.env.scope.names.lookup xi = some .local := by first | exact .inl rfl | exact .inr rfl)
    (hj : X.N[j]? = some xj := by rfl) (lj : Loc X.env.scope xj := by first | exact Or.inl rfl | exact Or.inr rfl) (fj : X.fn xj = true ∨ X.env.scope.names.lookup xj = some .local := by first | exact .inl rfl | exact .inr rfl)
    (hl : X.N[l]? = some xl := by rfl) (ll : Loc X.env.scope xl := by first | exact Or.inl rfl | exact Or.inr rfl) (fl : X.fn xl = true ∨ X.env.scope.names.lookup xl = some .local := by first | exact .inl rfl | exact .inr rfl)
    (hm : X.N[m]? = some xm := by rfl) (lm : Loc X.env.scope xm := by first | exact Or.inl rfl | exact Or.inr rfl) (fm : X.fn xm = true ∨ X.env.scope.names.lookup xm = some .local := by first | exact .inl rfl | exact .inr rfl) : PG X (.Tuple [.Name xi pi, .Name xj pj, .Name xl pl, .Name xm pm] kk pos) (gTup X.K 4 (gCons (gName i) (gCons (gName j) (gCons (gName l) (gCons (gName m) gNil))))) :=
  pg_tup hc (pgs_cons (pg_name hN hi li fi) (pgs_cons (pg_name hN hj lj fj) (pgs_cons (pg_name hN hl ll fl) (pgs_cons (pg_name hN hm lm fm) pgs_nil))))
theorem pgT13 (hN : X.N.Nodup) (hc : X.calm = true) (i j l m : Nat) {xi : Str} {pi : Pos} {xj : Str} {pj : Pos} {xl : Str} {pl : Pos} {xm : Str} {pm : Pos} {kk k2 : Nat} {q : Pos}
    (hi : X.N[i]? = some xi := by rfl) (li : Loc X.env.scope xi := by first | exact Or.inl rfl | exact Or.inr rfl) (fi : X.fn xi = true ∨ X.env.scope.names.lookup xi = some .local := by first | exact .inl rfl | exact .inr rfl)
    (hj : X.N[j]? = some xj := by rfl) (lj : Loc X.env.scope xj := by first | exact Or.inl rfl | exact Or.inr rfl) (fj : X.fn xj = true ∨ X.env.scope.names.lookup xj = some .local := by first | exact .inl rfl | exact .inr rfl)
    (hl : X.N[l]? = some xl := by rfl) (ll : Loc X.env.scope xl := by first | exact Or.inl rfl | exact Or.inr rfl) (fl : X.fn xl = true ∨ X.env.scope.names.lookup xl = some .local := by first | exact .inl rfl | exact .inr rfl)
    (hm : X.N[m]? = some xm := by rfl) (lm : Loc X.env.scope xm := by first | exact Or.inl rfl | exact Or.inr rfl) (fm : X.fn xm = true ∨ X.env.scope.names.lookup xm = some .local := by first | exact .inl rfl | exact .inr rfl) : PG X (.Tuple [.Name xi pi, .Tuple [.Name xj pj, .Name xl pl, .Name xm pm] k2 q] kk pos) (gTup X.K 2 (gCons (gName i) (gCons (gTup X.K 3 (gCons (gName j) (gCons (gName l) (gCons (gName m) gNil)))) gNil))) :=
  pg_tup hc (pgs_cons (pg_name hN hi li fi) (pgs_cons (pgT3 hN hc j l m hj lj fj hl ll fl hm lm fm) pgs_nil))
end
end Bx
set_option Elab.async false
set_option linter.all false
set_option maxRecDepth 100000
set_option maxHeartbeats 4000000
/-! B8: more statements. -/
namespace Bx
open PySem PySem.Spec PyProof.Rows L2
open PySem.W (Datum DatumOrd Holds HoldAll T3 T4 Tup EachIs)
section
variable {X : Cx} {tg e e2 o a b c : Expr} {es : List Expr} {σ : St} {H H' H1 : Hp} {r ra rb rc rz : Rs} {rs : List Rs} {pos apos cpos : Pos} {ds ds1 ds2 : List PyData} {d : PyData} {D : Ends}
/-- target = e -/
theorem ws_asg {g : TG} (h : PV X e σ H r) (hg : PG X tg g) (k : ∀ v H1, Same H H1 → r.P H v H1 → GTo g σ H1 v fun σ2 => D.nx σ2 H1) (hs : swapsWithSole [tg] e pos.line X.env = pure false := by rfl) (hw : swappedStores [tg] e X.env = pure none := by rfl)
    (h1 : (assignEach [tg] X.env).map (·.2) = [assign tg X.env] := by rfl) : WS X (.Assign [tg] e pos) D σ H :=
  .of (ps_asg pe_s hg hs hw h1) (h.t (Same.refl _) fun v H1 s1 p => k v H1 s1 p _ fun σ2 q => q)
/-- x, y = a, b -/
theorem ws_par (i j : Nat) {x y : Str} {px py pt : Pos} {kt k2 pt2} (hN : X.N.Nodup) (hc : X.calm = true) (ha : PV X a σ H ra) (hb : PV X b σ H rb) (k : ∀ v w H1, Same H H1 → ra.P H v H1 → rb.P H w H1 → D.nx ((σ.set i (some v)).set j (some w)) H1) (hij : i ≠ j := by decide)
    (hi : X.N[i]? = some x := by rfl) (hj : X.N[j]? = some y := by rfl) (hx : X.env.scope.names.lookup x = some .local := by rfl) (hy : X.env.scope.names.lookup y = some .local := by rfl)
    (hw : swappedStores [.Tuple [.Name x px, .Name y py] kt pt] (.Tuple [a, b] k2 pt2) X.env = pure (some [x, y]) := by rfl)
    (hs : swapsWithSole [.Tuple [.Name x px, .Name y py] kt pt] (.Tuple [a, b] k2 pt2) pos.line X.env = pure false := by rfl) (n1 : starEach [a, b] X.env = (false, eval a X.env) :: starEach [b] X.env := by rfl) (n2 : NS X b := by rfl) :
    WS X (.Assign [.Tuple [.Name x px, .Name y py] kt pt] (.Tuple [a, b] k2 pt2) pos) D σ H :=
  .of (ps_par hc hN hi hj hij hx hy pa_s hw hs) ((pas_cons ha (pas_cons hb pas_nil n2) n1).t (Same.refl _) fun vs H1 s1 pr => by
    obtain ⟨v, w, rfl, p1, p2⟩ := rsl2 pr
    exact ⟨v, w, rfl, k v w H1 s1 p1 p2⟩)
theorem ws_par3 (i j l : Nat) {x y z : Str} {px py pz pt : Pos} {kt k2 pt2} (hN : X.N.Nodup) (hc : X.calm = true) (ha : PV X a σ H ra) (hb : PV X b σ H rb) (hcc : PV X c σ H rc) (k : ∀ v w u H1, Same H H1 → ra.P H v H1 → rb.P H w H1 → rc.P H u H1 → D.nx (((σ.set i (some v)).set j (some w)).set l (some u)) H1)
    (hij : i ≠ j := by decide) (hil : i ≠ l := by decide) (hjl : j ≠ l := by decide) (hi : X.N[i]? = some x := by rfl) (hj : X.N[j]? = some y := by rfl) (hl : X.N[l]? = some z := by rfl)
    (hx : X.env.scope.names.lookup x = some .local := by rfl) (hy : X.env.scope.names.lookup y = some .local := by rfl) (hz : X.env.scope.names.lookup z = some .local := by rfl)
    (hw : swappedStores [.Tuple [.Name x px, .Name y py, .Name z pz] kt pt] (.Tuple [a, b, c] k2 pt2) X.env = pure (some [x, y, z]) := by rfl)
    (hs : swapsWithSole [.Tuple [.Name x px, .Name y py, .Name z pz] kt pt] (.Tuple [a, b, c] k2 pt2) pos.line X.env = pure false := by rfl)
    (n1 : starEach [a, b, c] X.env = (false, eval a X.env) :: starEach [b, c] X.env := by rfl) (n2 : starEach [b, c] X.env = (false, eval b X.env) :: starEach [c] X.env := by rfl) (n3 : NS X c := by rfl) :
    WS X (.Assign [.Tuple [.Name x px, .Name y py, .Name z pz] kt pt] (.Tuple [a, b, c] k2 pt2) pos) D σ H :=
  .of (ps_par3 hc hN hi hj hl hij hil hjl hx hy hz pa_s hw hs) ((pas_cons ha (pas_cons hb (pas_cons hcc pas_nil n3) n2) n1).t (Same.refl _) fun vs H1 s1 pr => by
    obtain ⟨v, w, u, rfl, p1, p2, p3⟩ := rsl3 pr
    exact ⟨v, w, u, rfl, k v w u H1 s1 p1 p2 p3⟩)
end
end Bx
set_option Elab.async false
set_option linter.all false
set_option maxRecDepth 100000
set_option maxHeartbeats 4000000
/-! B9: slices said plainly; small rules. -/
namespace Bx
open PySem PySem.Spec PyProof.Rows L2
open PySem.W (Datum DatumOrd Holds HoldAll T3 T4 Tup EachIs)
theorem atI_nat {α : Type} {ds : List α} {k : Nat} {d : α} (h : ds[k]? = some d) : L2.atI ds (k : Int) = some d := by
  have hl : k < ds.length := (List.getElem?_eq_some_iff.mp h).1
  unfold L2.atI ixN
  rw [if_pos (by omega), if_pos (by omega)]
  show ds[(k : Int).toNat]? = some d
  rw [Int.toNat_natCast]; exact h
theorem atI_zero {α : Type} {ds : List α} {d : α} (h : ds[0]? = some d) : L2.atI ds 0 = some d := atI_nat (k := 0) h
theorem atI_last {α : Type} {ds : List α} {d : α} (h : ds.getLast? = some d) : L2.atI ds (-1) = some d := by
  have hl : 0 < ds.length := by
    cases ds with
    | nil => simp at h
    | cons _ _ => exact Nat.succ_pos _
  unfold L2.atI ixN
  rw [if_neg (by omega), if_pos (by omega)]
  show ds[((-1 : Int) + ds.length).toNat]? = some d
  rw [List.getLast?_eq_getElem?] at h
  rw [show ((-1 : Int) + ds.length).toNat = ds.length - 1 by omega]
  exact h
theorem cutFrom {α : Type} (ds : List α) (k : Nat) : (ds.drop (HT.sIx ds.length 0 (some (k : Int)))).take (HT.sIx ds.length ds.length none - HT.sIx ds.length 0 (some (k : Int))) = ds.drop k := by
  rw [HT.sIx_nat, HT.sIx_none]
  by_cases h : k ≤ ds.length
  · rw [Nat.min_eq_left h, ← List.length_drop, List.take_length]
  · have h : ds.length ≤ k := by omega
    rw [Nat.min_eq_right h, Nat.sub_self, List.take_zero, List.drop_eq_nil_of_le h]
theorem cutTo {α : Type} (ds : List α) (k : Nat) : (ds.drop (HT.sIx ds.length 0 none)).take (HT.sIx ds.length ds.length (some (k : Int)) - HT.sIx ds.length 0 none) = ds.take k := by
  rw [HT.sIx_nat, HT.sIx_none, List.drop_zero, Nat.sub_zero]
  by_cases h : k ≤ ds.length
  · rw [Nat.min_eq_left h]
  · have h : ds.length ≤ k := by omega
    rw [Nat.min_eq_right h, List.take_length, List.take_of_length_le h]
section
variable {X : Cx} {tg e e2 o a b c : Expr} {es : List Expr} {σ : St} {H H' H1 : Hp} {r ra rb rc rz : Rs} {rs : List Rs} {pos apos cpos : Pos} {ds ds1 ds2 : List PyData} {d : PyData} {D : Ends}
theorem po_non : ∀ H1, Same H H1 → ∀ Q : Option Int → Hp → Prop, (∀ H2, Same H1 H2 → Q none H2) → tNoPart σ H1 Q := fun H1 hs Q q => q H1 (Same.refl _)
/-- t[k:] -/
theorem pv_slFrom {k : Nat} {lo : Expr} {p2 : Pos} (ha : PV X e σ H (.d (.tuple ds))) (hl : PV X lo σ H (.i (k : Nat))) : PV X (.Subscript e (.Slice (some lo) none none p2) pos) σ H (.d (.tuple (ds.drop k))) :=
  (pv_slT ha (po_some pe_s) po_none (po_pv hl) po_non).is (by rw [cutFrom])
/-- t[:k] -/
theorem pv_slTo {k : Nat} {hi : Expr} {p2 : Pos} (ha : PV X e σ H (.d (.tuple ds))) (hh : PV X hi σ H (.i (k : Nat))) : PV X (.Subscript e (.Slice none (some hi) none p2) pos) σ H (.d (.tuple (ds.take k))) :=
  (pv_slT ha po_none (po_some pe_s) po_non (po_pv hh)).is (by rw [cutTo])
theorem pv_gtI {i j : Int} (ha : PV X a σ H (.i i)) (hb : PV X b σ H (.i j)) : PV X (.Compare a [.Gt] [b] pos) σ H (.b (decide (j < i))) := pv_cmp op_gt ha hb (rr_I0 fun _ => DI.bl _)
theorem pv_ltI {i j : Int} (ha : PV X a σ H (.i i)) (hb : PV X b σ H (.i j)) : PV X (.Compare a [.Lt] [b] pos) σ H (.b (decide (i < j))) := pv_cmp op_lt ha hb (rr_I0 fun _ => DI.bl _)
theorem pv_ltD {α : Type} [DecidableEq α] [DatumOrd α] {x y : α} (ha : PV X a σ H (.t x)) (hb : PV X b σ H (.t y)) (hu : X.A.units + 64 < cLine := by assumption) (hd : Datum.depth α ≤ 60 := by decide) : PV X (.Compare a [.Lt] [b] pos) σ H (.b (DatumOrd.lt x y)) := pv_cmp (op_ltD hu hd) ha hb rr_TT
theorem pv_gtD {α : Type} [DecidableEq α] [DatumOrd α] {x y : α} (ha : PV X a σ H (.t x)) (hb : PV X b σ H (.t y)) (hu : X.A.units + 64 < cLine := by assumption) (hd : Datum.depth α ≤ 60 := by decide) : PV X (.Compare a [.Gt] [b] pos) σ H (.b (DatumOrd.lt y x)) := pv_cmp (op_gtD hu hd) ha hb rr_TT
/-- a list of pairs is data -/
theorem zipD_toD {α β : Type} [DecidableEq α] [Datum α] [DecidableEq β] [Datum β] : ∀ (xs : List α) (ys : List β), zipD (xs.map Datum.toD) (ys.map Datum.toD) = (xs.zip ys).map Datum.toD
  | [], _ => rfl
  | _ :: _, [] => rfl
  | x :: xs, y :: ys => congrArg _ (zipD_toD xs ys)
theorem flat_str (x : Str) : ∀ n, flatTo n (.str x)
  | 0 => trivial
  | _ + 1 => trivial
theorem flat_bond (b : Bond) (n : Nat) : flatTo (n + 1) (Datum.toD b) := ⟨fun d hd => by
  have hd : d ∈ [PyData.str b.a, .str b.b, .str b.c, .str b.d] := hd
  simp only [List.mem_cons, List.not_mem_nil, or_false] at hd
  rcases hd with rfl | rfl | rfl | rfl <;> exact flat_str _ n, by show 4 ≤ 1000; decide⟩
theorem flat_pat {y : List Bond} (h : y.length ≤ 1000) (n : Nat) : flatTo (n + 2) (Datum.toD (Tup.mk y)) := ⟨fun d hd => by
  obtain ⟨b, _, rfl⟩ := List.mem_map.mp hd
  exact flat_bond b n, by rw [List.length_map]; exact h⟩
/-- a call of a def with its promise, the def standing lower -/
theorem pv_cal {Y : Type} {Pre : Y → List V → Hp → Prop} {res : Y → Rs} {j k : Nat} {x : Str} {ps : List Str} {p : Pos} (D : Dfn X.prog X.w X.K X.mg X.base j x ps (spY Pre res)) (hr : Room k X.A) (ha : PAs X (e :: es) σ H rs) (y : Y)
    (hp : ∀ H0 H' vs, Same H H0 → Same H0 H' → RsL rs H0 vs H' → Pre y vs H') (hl : j ≤ k := by decide) (hg : Gl X x := by rfl) (hdb : (x == ("__debug__" : Str)) = false := by decide)
    (he : starEach (e :: es) X.env = (false, eval e X.env) :: starEach es X.env := by rfl) (hpl : (backTo pos (starEach es X.env)).any (·.1) = false := by rfl) : PV X (.Call (.Name x p) (e :: es) [] pos) σ H (res y) := pv_call (D.mono hl) hr ha y hp hg hdb he hpl
end
end Bx
set_option Elab.async false
set_option linter.all false
set_option maxRecDepth 100000
set_option maxHeartbeats 4000000
/-! B10: a comprehension with two fors. -/
namespace Bx
open PySem PySem.Spec PyProof.Rows L2
open PySem.W (Datum DatumOrd Holds HoldAll T3 T4 Tup EachIs)
theorem walk_W {J : It} {n : Nat} {G : Hp → Prop} {Y : Nat → Hp → V → Hp → Prop} {Body : V → Hp → (Hp → Prop) → Prop} {Done : Hp → Prop} {H0 : Hp} (w : Walk J n G Y) (Pv : Nat → Hp → Prop) (h0 : Pv 0 H0) (hG : ∀ i H, i ≤ n → Pv i H → G H)
    (hs : ∀ i x H H', i < n → Pv i H → Y i H x H' → Body x H' (Pv (i + 1))) (hd : ∀ H, Pv n H → Done H) :
    ∃ W : Nat → Nat → Hp → Prop, (∃ m, W 0 m H0) ∧ ∀ i m H, W i m H → (J.stop i H ∧ Done H) ∨ (J.go i H ∧ ∃ Nx : Hp → Prop, (∀ H', Nx H' → ∃ m', m' < m ∧ W (i + 1) m' H') ∧ ∀ x H', J.yld i H x H' → Body x H' Nx) := by
  refine ⟨fun i m H => m = n - i ∧ i ≤ n ∧ Pv i H, ⟨n, by simp, Nat.zero_le _, h0⟩, ?_⟩
  rintro i m H ⟨rfl, hi, p⟩
  have q := hG i H hi p
  by_cases hlt : i < n
  · exact .inr ⟨w.goes i H hlt q, Pv (i + 1), fun H' p' => ⟨n - (i + 1), by omega, rfl, hlt, p'⟩, fun x H' y => hs i x H H' hlt p (w.yields i H x H' hlt q y)⟩
  · have e : i = n := by omega
    subst e
    exact .inl ⟨w.stops H q, hd H p⟩
section
variable {X : Cx} {tg iter tg1 iter1 elt : Expr} {σ : St} {H : Hp} {pos : Pos} {scope : Scope} {own : List (Str × Nat)}
/-- the inner for over a tuple made from the outer target -/
theorem pv_lc2t {α : Type} {xs : List α} {enc : α → PyData} {g : TG} {i1 : Nat} {dsf : α → List PyData} {vs1 : List Nat} {M : Nat} (hc : X.calm = true) (hN : X.N.Nodup) (hi : PIt Same X tg iter σ H (xs.map enc)) (ok : BlkOk X.N X.env.scope scope own) (hv : ∀ i ∈ vs1, i ∈ own.map (·.2))
    (hg : ∀ (s : Shared) (H : Hp) (C : Addr) (cl : List (Str × Addr)) (fp : List Addr), PG (X.blk s H scope (compEnvC scope cl C X.env) fp) tg g)
    (hg1 : ∀ (s : Shared) (H : Hp) (C : Addr) (cl : List (Str × Addr)) (fp : List Addr), PG (X.blk s H scope (compEnvC scope cl C X.env) fp) tg1 (gName i1))
    (hz : (xs.flatMap dsf).length ≤ 1000000)
    (turn : ∀ (a : α) (v : V) (H1 : Hp), a ∈ xs → Same H H1 → DI H1 v (enc a) → GTo g (wipe σ (own.map (·.2))) H1 v fun σ2 => wipe σ2 (own.map (·.2)) = wipe σ (own.map (·.2)) ∧
      (∀ (s0 : Shared) (H0 : Hp) (C : Addr) (cl : List (Str × Addr)) (fp : List Addr), PV (X.blk s0 H0 scope (compEnvC scope cl C X.env) fp) iter1 σ2 H1 (.d (.tuple (dsf a)))) ∧
      ∀ (y : V) (d : PyData) (H2 : Hp), DI H2 y d → wipe ((wipe σ2 vs1).set i1 (some y)) vs1 = wipe σ2 vs1 ∧ ∀ (s0 : Shared) (H0 : Hp) (C : Addr) (cl : List (Str × Addr)) (fp : List Addr), PV (X.blk s0 H0 scope (compEnvC scope cl C X.env) fp) elt ((wipe σ2 vs1).set i1 (some y)) H2 (.d d))
    (hs : ∀ x, foldedSetIterable iter X.env x = pure x := by intro _; rfl) (hs1 : ∀ env x, foldedSetIterable iter1 env x = pure x := by intro _ _; rfl) :
    PV X (.ListComp elt [⟨tg, iter, [], 0⟩, ⟨tg1, iter1, [], 0⟩] scope pos) σ H (.l (xs.flatMap dsf)) := by
  obtain ⟨wi, hp, hq⟩ := hi
  refine .of (pe_lc2 (wi1 := iTup X.K (tSF X scope iter1)) (te := tSF X scope elt) (tt := tYes) (tt1 := tYes) hc hN hp ok hv hg (fun _ _ _ _ _ => pts_nil)
    (fun s0 H0 C cl fp => pi_tup (X := X.blk s0 H0 scope (compEnvC scope cl C X.env) fp) ⟨fun pins s σ H Q I h => h s0 H0 C cl fp pins s I⟩) hg1 (fun _ _ _ _ _ => pts_nil)
    (fun s0 H0 C cl fp => ⟨fun pins s σ H Q I h => h s0 H0 C cl fp pins s I⟩) hs hs1) fun H1 h1 => hq H1 h1 _ fun J H2 s2 w D nD => ?_
  rw [List.length_map] at w
  have lenI : ∀ i, ((xs.take i).flatMap dsf).length ≤ 1000000 := fun i => by
    refine Nat.le_trans ?_ hz
    conv => rhs; rw [← List.take_append_drop i xs]
    rw [List.flatMap_append, List.length_append]
    exact Nat.le_add_right _ _
  refine walk_W w (fun i Hc => Same H2 Hc ∧ ∃ acc, Hc D = some (.lst acc) ∧ DIs Hc acc ((xs.take i).flatMap dsf)) ⟨same_new nD, [], upd_same, .nil⟩ (fun i Hc _ q => q.1) (fun i x Hc Hc' hi q y => ?_) fun Hc q => ?_
  · obtain ⟨sc, acc, hD, hacc⟩ := q
    obtain ⟨sy, d, hd, dx⟩ := y
    rw [List.getElem?_map] at hd
    obtain ⟨a, ha, rfl⟩ := Option.map_eq_some_iff.mp hd
    have s3 : Same H Hc' := ((h1.trans s2).trans sc).trans sy
    have es : (xs.take (i + 1)).flatMap dsf = (xs.take i).flatMap dsf ++ dsf a := by rw [take_succ' ha, List.flatMap_append]; simp
    refine turn a x Hc' (List.mem_of_getElem? ha) s3 dx _ fun σ2 ⟨w2, q1, q2⟩ => ⟨w2, iteT (B := (fun Hc => Same H2 Hc ∧ ∃ acc, Hc D = some (.lst acc) ∧ DIs Hc acc ((xs.take (i + 1)).flatMap dsf)) Hc') ?_⟩
    refine fun s0 H0 C cl fp => (q1 s0 H0 C cl fp).t (Same.refl _) fun v H4 s4 pv => ?_
    have pv : DI H4 v (.tuple (dsf a)) := pv
    cases pv with
    | @tup t ys _ et ht =>
      refine ⟨t, rfl, ⟨ys, et.sq⟩, ?_⟩
      have hl := ht.length
      have base : Same H2 H4 := sc.trans (sy.trans s4)
      have ne : ∀ {b : Addr} {u : HO}, H2 b = some u → b ≠ D := fun e => ne_of_none e nD
      refine walk_W (J := Itt X.K t) (n := ys.length) (G := fun H' => Same H2 H' ∧ TK H4 H') (Y := YAt ys) (walk_tup.mono (fun H' g => (et.ts g.2).sq) fun _ _ _ _ _ _ y => y)
        (fun j Hc => (Same H2 Hc ∧ TK H4 Hc) ∧ ∃ acc, Hc D = some (.lst acc) ∧ DIs Hc acc ((xs.take i).flatMap dsf ++ (dsf a).take j)) ⟨⟨base, .refl _⟩, acc, s4 _ _ (sy _ _ hD), by rw [List.take_zero, List.append_nil]; exact hacc.same (sy.trans s4)⟩ (fun j H g p => p.1) (fun j z H5 H5' hj p y => ?_) fun H5 p => ?_
      · obtain ⟨⟨b1, b2⟩, acc, hD5, hacc5⟩ := p
        obtain ⟨rfl, hz'⟩ := y
        obtain ⟨dz, e1, e2⟩ := ht.get' hz'
        obtain ⟨w3, q3⟩ := q2 z dz H5' (e2.ts b2)
        refine ⟨w3, iteT (B := (fun Hc => (Same H2 Hc ∧ TK H4 Hc) ∧ ∃ acc, Hc D = some (.lst acc) ∧ DIs Hc acc ((xs.take i).flatMap dsf ++ (dsf a).take (j + 1))) H5') ?_⟩
        refine fun s0 H0 C cl fp => (q3 s0 H0 C cl fp).t (Same.refl _) fun y H6 s6 py => ?_
        have hD6 := s6 _ _ hD5
        have t6 := TK.updL (o := .lst (acc ++ [y])) hD6
        have lacc : acc.length ≤ 1000000 := by
          rw [hacc5.length]
          refine Nat.le_trans ?_ (lenI (i + 1))
          rw [es, List.length_append, List.length_append, List.length_take]
          omega
        refine ⟨acc, hD6, Nat.lt_of_le_of_lt lacc (by decide), ⟨fun b u e => ?_, b2.trans ((TK.same s6).trans t6)⟩, acc ++ [y], upd_same, ?_⟩
        · rw [upd_ne (ne e)]
          exact s6 _ _ (b1 _ _ e)
        · rw [take_succ' e1, ← List.append_assoc]
          exact ((hacc5.same s6).ts t6).append (.cons (DI.ts t6 py) .nil)
      · obtain ⟨⟨b1, b2⟩, acc, hD5, hacc5⟩ := p
        refine ⟨b1, acc, hD5, ?_⟩
        rw [hl, List.take_length] at hacc5
        rw [es]
        exact hacc5
  · obtain ⟨sc, acc, hD, hacc⟩ := q
    rw [List.take_length] at hacc
    exact ⟨s2.trans sc, D, acc, rfl, s2.free nD, hD, hacc⟩
end
end Bx
set_option Elab.async false
set_option linter.all false
set_option maxRecDepth 100000
set_option maxHeartbeats 4000000
/-! B11: name = [.. for ..] on one line. -/
namespace Bx
open PySem PySem.Spec PyProof.Rows L2
open PySem.W (Datum DatumOrd Holds HoldAll T3 T4 Tup)
section
variable {X : Cx} {tg iter elt e a b c : Expr} {es ifs : List Expr} {σ : St} {H H' H1 : Hp} {r ra rb rz : Rs} {rs : List Rs} {pos : Pos} {ds ds1 ds2 : List PyData} {d : PyData} {scope : Scope} {own : List (Str × Nat)}
theorem ws_lc_core {α : Type} {xs : List α} {enc : α → PyData} {g : TG} {tt : TT} {te : TE} {p : α → Bool} {f : α → PyData} {i0 : Nat} {y0 : Str} {py spos : Pos} {D0 : Ends} (hc : X.calm = true) (hN : X.N.Nodup) (hi : PIt Same X tg iter σ H (xs.map enc)) (ok : BlkOk X.N X.env.scope scope own)
    (hg : ∀ (s : Shared) (H : Hp) (C : Addr) (cl : List (Str × Addr)) (fp : List Addr), PG (X.blk s H scope (compEnvC scope cl C X.env) fp) tg g) (ht : ∀ (s : Shared) (H : Hp) (C : Addr) (cl : List (Str × Addr)) (fp : List Addr), PTs (X.blk s H scope (compEnvC scope cl C X.env) fp) ifs tt)
    (he : ∀ (s : Shared) (H : Hp) (C : Addr) (cl : List (Str × Addr)) (fp : List Addr), PE (X.blk s H scope (compEnvC scope cl C X.env) fp) elt te)
    (hz : xs.length ≤ 1000000)
    (turn : ∀ (a : α) (v : V) (H1 : Hp), a ∈ xs → Same H H1 → DI H1 v (enc a) → ∀ (Kt : VK) (Kf : Hp → Prop), (∀ y H4, Same H1 H4 → p a = true → DI H4 y (f a) → Kt y H4) → (∀ H3, Same H1 H3 → p a = false → Kf H3) →
      g v (wipe σ (own.map (·.2))) H1 fun σ2 H2 => wipe σ2 (own.map (·.2)) = wipe σ (own.map (·.2)) ∧ tt σ2 H2 fun b H3 => if b = true then te σ2 H3 Kt else Kf H3)
    (k : ∀ v H1, Same H H1 → (Rs.l ((xs.filter p).map f)).P H v H1 → D0.nx (σ.set i0 (some v)) H1) (hsw : swapsWith (.ListComp elt [⟨tg, iter, ifs, 0⟩] scope pos) (some (.Name y0 py)) spos.line X.env = pure true := by rfl) (hy : X.N[i0]? = some y0 := by rfl) (hyl : X.env.scope.names.lookup y0 = some .local := by rfl)
    (hs : ∀ x, foldedSetIterable iter X.env x = pure x := by intro _; rfl) : WS X (.Assign [.Name y0 py] (.ListComp elt [⟨tg, iter, ifs, 0⟩] scope pos) spos) D0 σ H := by
  obtain ⟨wi, hp, hq⟩ := hi
  have h1 := Same.refl H
  refine .of (ps_setLc (i := i0) hc hN hy hyl hsw hp ok hg ht he hs) (hq H h1 _ fun J H2 s2 w D nD => ?_)
  rw [List.length_map] at w
  refine lc_it w (fun i Hc => Same H2 Hc ∧ ∃ acc, Hc D = some (.lst acc) ∧ acc.length ≤ i ∧ DIs Hc acc (((xs.take i).filter p).map f)) ⟨same_new nD, [], upd_same, Nat.le_refl _, .nil⟩ (fun i Hc _ q => q.1) (fun i x Hc Hc' hi q y => ?_) fun Hc q => ?_
  · obtain ⟨sc, acc, hD, hl, hacc⟩ := q
    obtain ⟨sy, d, hd, dx⟩ := y
    rw [List.getElem?_map] at hd
    obtain ⟨a, ha, rfl⟩ := Option.map_eq_some_iff.mp hd
    have s3 : Same H Hc' := ((h1.trans s2).trans sc).trans sy
    have ne : ∀ {Hx : Hp}, Same Hc' Hx → Hx D = some (.lst acc) := fun s => s _ _ (sy _ _ hD)
    refine turn a x Hc' (List.mem_of_getElem? ha) s3 dx _ _ (fun y H4 s4 hp dy => ?_) fun H3 s4 hp => ?_
    · refine ⟨acc, ne s4, Nat.lt_of_le_of_lt hl (Nat.lt_of_lt_of_le hi (Nat.le_trans hz (by decide))), fun b u hb => ?_, acc ++ [y], upd_same, by rw [List.length_append]; exact Nat.succ_le_succ hl, ?_⟩
      · have nb : b ≠ D := ne_of_none hb nD
        rw [upd_ne nb]
        exact (sc.trans (sy.trans s4)) _ _ hb
      · rw [take_succ' ha, List.filter_append, List.map_append]
        have e1 : (List.filter p [a]).map f = [f a] := by rw [List.filter_cons_of_pos hp]; rfl
        rw [e1]
        have t := TK.updL (o := .lst (acc ++ [y])) (ne s4)
        exact ((hacc.same (sy.trans s4)).ts t).append (.cons (dy.ts t) .nil)
    · refine ⟨(sc.trans sy).trans s4, acc, ne s4, Nat.le_succ_of_le hl, ?_⟩
      rw [take_succ' ha, List.filter_append, List.map_append]
      have e1 : (List.filter p [a]).map f = [] := by rw [List.filter_cons_of_neg (by rw [hp]; exact Bool.false_ne_true)]; rfl
      rw [e1, List.append_nil]
      exact hacc.same (sy.trans s4)
  · obtain ⟨sc, acc, hD, _, hacc⟩ := q
    rw [List.take_length] at hacc
    exact k _ Hc (s2.trans sc) ⟨D, acc, rfl, s2.free nD, hD, hacc⟩
/-- one for, no test -/
theorem ws_lc0 {α : Type} {xs : List α} {enc : α → PyData} {g : TG} {f : α → PyData} {i0 : Nat} {y0 : Str} {py spos : Pos} {D0 : Ends} (hc : X.calm = true) (hN : X.N.Nodup) (hi : PIt Same X tg iter σ H (xs.map enc)) (ok : BlkOk X.N X.env.scope scope own)
    (hg : ∀ (s : Shared) (H : Hp) (C : Addr) (cl : List (Str × Addr)) (fp : List Addr), PG (X.blk s H scope (compEnvC scope cl C X.env) fp) tg g)
    (hz : xs.length ≤ 1000000)
    (turn : ∀ (a : α) (v : V) (H1 : Hp), a ∈ xs → Same H H1 → DI H1 v (enc a) → GTo g (wipe σ (own.map (·.2))) H1 v fun σ2 => wipe σ2 (own.map (·.2)) = wipe σ (own.map (·.2)) ∧
      ∀ (s0 : Shared) (H0 : Hp) (C : Addr) (cl : List (Str × Addr)) (fp : List Addr), PV (X.blk s0 H0 scope (compEnvC scope cl C X.env) fp) elt σ2 H1 (.d (f a)))
    (k : ∀ v H1, Same H H1 → (Rs.l (xs.map f)).P H v H1 → D0.nx (σ.set i0 (some v)) H1) (hsw : swapsWith (.ListComp elt [⟨tg, iter, [], 0⟩] scope pos) (some (.Name y0 py)) spos.line X.env = pure true := by rfl) (hy : X.N[i0]? = some y0 := by rfl) (hyl : X.env.scope.names.lookup y0 = some .local := by rfl)
    (hs : ∀ x, foldedSetIterable iter X.env x = pure x := by intro _; rfl) : WS X (.Assign [.Name y0 py] (.ListComp elt [⟨tg, iter, [], 0⟩] scope pos) spos) D0 σ H := by
  have e : List.filter (fun _ => true) xs = xs := List.filter_eq_self.mpr fun _ _ => rfl
  exact ws_lc_core (pos := pos) (p := fun _ => true) (f := f) (tt := tYes) (te := tSF X scope elt) hc hN hi ok hg (fun _ _ _ _ _ => pts_nil) (fun s0 H0 C cl fp => ⟨fun pins s σ H Q I h => h s0 H0 C cl fp pins s I⟩) hz
    (fun a v H1 ha h1 dv Kt Kf kt kf => turn a v H1 ha h1 dv _ fun σ2 ⟨w2, q⟩ => ⟨w2, iteT (B := Kf H1) fun s0 H0 C cl fp => (q s0 H0 C cl fp).t (Same.refl _) fun y H4 s4 py => kt y H4 s4 rfl py⟩) (fun v H1 s1 p => k v H1 s1 (by rw [e] at p; exact p)) hsw hy hyl hs
/-- one for, one test -/
theorem ws_lc1 {α : Type} {xs : List α} {enc : α → PyData} {g : TG} {p : α → Bool} {f : α → PyData} {i0 : Nat} {y0 : Str} {py spos : Pos} {D0 : Ends} {c : Expr} (hc : X.calm = true) (hN : X.N.Nodup) (hi : PIt Same X tg iter σ H (xs.map enc)) (ok : BlkOk X.N X.env.scope scope own)
    (hg : ∀ (s : Shared) (H : Hp) (C : Addr) (cl : List (Str × Addr)) (fp : List Addr), PG (X.blk s H scope (compEnvC scope cl C X.env) fp) tg g)
    (hz : xs.length ≤ 1000000)
    (turn : ∀ (a : α) (v : V) (H1 : Hp), a ∈ xs → Same H H1 → DI H1 v (enc a) → GTo g (wipe σ (own.map (·.2))) H1 v fun σ2 => wipe σ2 (own.map (·.2)) = wipe σ (own.map (·.2)) ∧
      (∀ (s0 : Shared) (H0 : Hp) (C : Addr) (cl : List (Str × Addr)) (fp : List Addr), PB (X.blk s0 H0 scope (compEnvC scope cl C X.env) fp) c σ2 H1 (p a)) ∧
      ∀ (s0 : Shared) (H0 : Hp) (C : Addr) (cl : List (Str × Addr)) (fp : List Addr), p a = true → PV (X.blk s0 H0 scope (compEnvC scope cl C X.env) fp) elt σ2 H1 (.d (f a)))
    (k : ∀ v H1, Same H H1 → (Rs.l ((xs.filter p).map f)).P H v H1 → D0.nx (σ.set i0 (some v)) H1) (hsw : swapsWith (.ListComp elt [⟨tg, iter, [c], 0⟩] scope pos) (some (.Name y0 py)) spos.line X.env = pure true := by rfl) (hy : X.N[i0]? = some y0 := by rfl) (hyl : X.env.scope.names.lookup y0 = some .local := by rfl)
    (hs : ∀ x, foldedSetIterable iter X.env x = pure x := by intro _; rfl) : WS X (.Assign [.Name y0 py] (.ListComp elt [⟨tg, iter, [c], 0⟩] scope pos) spos) D0 σ H := by
  refine ws_lc_core (p := p) (f := f) (tt := tSBF X scope c) (te := tSF X scope elt) hc hN hi ok hg (fun s0 H0 C cl fp => pts_one ⟨fun pins s σ H Q I h => h s0 H0 C cl fp pins s I⟩) (fun s0 H0 C cl fp => ⟨fun pins s σ H Q I h => h s0 H0 C cl fp pins s I⟩) hz
    (fun a v H1 ha h1 dv Kt Kf kt kf => turn a v H1 ha h1 dv _ fun σ2 ⟨w2, q1, q2⟩ => ⟨w2, fun s0 H0 C cl fp => (q1 s0 H0 C cl fp).t (Same.refl _) fun H2 s2 => ?_⟩) k hsw hy hyl hs
  cases e : p a with
  | true => exact iteT fun s0 H0 C cl fp => ((q2 s0 H0 C cl fp e).mono s2).t (Same.refl _) fun y H4 s4 py => kt y H4 (s2.trans s4) e py
  | false => exact iteF (kf H2 s2 e)
end
end Bx
set_option Elab.async false
set_option linter.all false
set_option maxRecDepth 100000
set_option maxHeartbeats 4000000
/-! D2: simple defs. -/
namespace Bx
open PySem PySem.Spec PyProof.Rows L2
open PySem.W (Datum DatumOrd Holds HoldAll T3 T4 Tup EachIs)
theorem toD_bond (t : Bond) : Datum.toD t = .tuple [.str t.a, .str t.b, .str t.c, .str t.d] := rfl
theorem all_true (n : Nat) : (List.replicate n true).all id = true := by simp
section
variable {P : Program} {w : World} {K : PySem.W.Frag} {mg : Str → Option Value} {base : Heap}
/-! ### rises of one -/
abbrev spRises : Sp := spY (fun (y : List Bond) vs H => ∃ v, vs = [v] ∧ HD H v (Tup.mk y) ∧ y.length = 1) fun _ => .b true
theorem ok_rises (T : Txt K mg) : Dfn P w K mg base 2 "rises" ["things"] spRises := by
  refine dfn_of T.h_rises sc_rises (fun vs H Q E h => ?_) (fun f cdv A outer s H vs Q E hr h => ?_)
  · obtain ⟨_, ⟨_, rfl, _⟩, _⟩ := h; rfl
  · obtain ⟨y, ⟨v, rfl, hv, hy⟩, q⟩ := h
    have hu := hr.units
    obtain ⟨b, rfl⟩ : ∃ b, y = [b] := List.length_eq_one_iff.mp hy
    have hv : DI H v (.tuple [Datum.toD b]) := hv
    refine wb_one (ws_ret (r := .b (([] : List Bool).all id)) (pv_all rfl T.b_all ?_) q)
    refine pv_lc0 (g := gTup K 2 (gCons (gName 1) (gCons (gName 2) gNil))) (xs := ([] : List Bool)) (enc := fun _ => .none) (f := fun b => .bool b) rfl sc_rises.nd (pit_zip T.b_zip (pv_dat 0 rfl hv) (pv_slT (u := none) (pv_dat 0 rfl hv) (po_some pe_s) po_none (po_pv pv_int) fun H1 hs Q q => q H1 (Same.refl _))) (blkOk_by (own := [("one", 1), ("other", 2)]) rfl) (fun _ _ _ _ _ => pgT2 sc_rises.nd rfl 1 2) (Nat.zero_le _) (fun a v H1 ha => by cases ha)
/-! ### is_name, is_place -/
abbrev spName : Sp := spY (fun (y : Str) vs H => vs = [.str y] ∧ y ∈ letters) fun _ => .b true
theorem ok_is_name (T : Txt K mg) : Dfn P w K mg base 2 "is_name" ["thing"] spName := by
  refine dfn_of T.h_is_name sc_is_name (fun vs H Q E h => ?_) (fun f cdv A outer s H vs Q E hr h => ?_)
  · obtain ⟨_, ⟨rfl, _⟩, _⟩ := h; rfl
  · obtain ⟨y, ⟨rfl, hy⟩, q⟩ := h
    have hu := hr.units
    obtain ⟨c, rfl, hc⟩ := letter_sg hy
    obtain ⟨t1, c1⟩ := T.c_NAMES
    refine wb_one (ws_ret (r := .b (true && (decide ((1 : Int) = 1) && decide (c ∈ ("abcdefgh" : Str).cps.toList)))) (pv_a (pv_isi (T := "str") T.b_isinstance T.b_str (pv_dat 0 rfl (DI.str _)) tyr_d kb_str_str bt_str) fun _ => pv_a (pv_eqT (α := Int) (pv_lenS (z := sg c) T.b_len (pv_dat 0 rfl (DI.str _)) (by show 1 ≤ 1000; decide)) pv_int) fun _ => pv_one (pv_inSign (pv_dat 0 rfl (DI.str _)) (pv_gstr c1))) ?_)
    rw [decide_eq_true hc]
    exact q
abbrev spPlace : Sp := spY (fun (y : Str) vs H => vs = [.str y] ∧ (y = "r" ∨ y = "s")) fun _ => .b true
theorem ok_is_place (T : Txt K mg) : Dfn P w K mg base 2 "is_place" ["thing"] spPlace := by
  refine dfn_of T.h_is_place sc_is_place (fun vs H Q E h => ?_) (fun f cdv A outer s H vs Q E hr h => ?_)
  · obtain ⟨_, ⟨rfl, _⟩, _⟩ := h; rfl
  · obtain ⟨y, ⟨rfl, hy⟩, q⟩ := h
    have hu := hr.units
    obtain ⟨z, c1, c2⟩ := T.c_ENDS
    refine wb_one (ws_ret (r := .b (true && decide (y ∈ (["r", "s"] : List Str)))) (pv_a (pv_isi (T := "str") T.b_isinstance T.b_str (pv_dat 0 rfl (DI.str _)) tyr_d kb_str_str bt_str) fun _ => pv_one (pv_inGlob (ys := ["r", "s"]) c1 c2 (pv_dat 0 rfl (DI.str _)))) ?_)
    have e : y ∈ (["r", "s"] : List Str) := by simpa using hy
    rw [decide_eq_true e]
    exact q
/-! ### other_end -/
abbrev spOther : Sp := spY (fun (y : Str) vs H => vs = [.str y]) fun y => .s (othE y)
theorem ok_other_end (T : Txt K mg) : Dfn P w K mg base 2 "other_end" ["end"] spOther := by
  refine dfn_of T.h_other_end sc_other_end (fun vs H Q E h => ?_) (fun f cdv A outer s H vs Q E hr h => ?_)
  · obtain ⟨_, rfl, _⟩ := h; rfl
  · obtain ⟨y, rfl, q⟩ := h
    have hu := hr.units
    obtain ⟨t1, c1⟩ := T.c_HANDED_IN
    obtain ⟨t2, c2⟩ := T.c_HANDED_OVER
    refine wb_one (ws_ret (r := .s (othE y)) (pv_ifE (pb_eqT (α := Str) (pv_dat 0 rfl (DI.str _)) (pv_gstr c2)) (fun k => ?_) fun k => ?_) q)
    · have k : y = "r" := of_decide_eq_true k
      subst k
      exact pv_gstr c1
    · have k : ¬ y = "r" := of_decide_eq_false k
      exact (pv_gstr c2).is (by unfold othE; rw [if_neg k])
/-! ### ring_names -/
abbrev spRingN : Sp := spY (fun (y : List Bond) vs H => ∃ v, vs = [v] ∧ HD H v (Tup.mk y) ∧ y.length ≤ 1000) fun y => .t (Tup.mk (ringN y))
theorem ok_ring_names (T : Txt K mg) : Dfn P w K mg base 2 "ring_names" ["ring"] spRingN := by
  refine dfn_of T.h_ring_names sc_ring_names (fun vs H Q E h => ?_) (fun f cdv A outer s H vs Q E hr h => ?_)
  · obtain ⟨_, ⟨_, rfl, _⟩, _⟩ := h; rfl
  · obtain ⟨y, ⟨v, rfl, hv, hy⟩, q⟩ := h
    refine wb_one (ws_ret (r := .d (.tuple (y.map fun b => .str b.a))) (pv_tupleN T.b_tuple (pv_lc0 (xs := y) (enc := Datum.toD) (f := fun b => .str b.a) rfl sc_ring_names.nd (PIt.weak (pit_tup (pv_dat 0 rfl hv))) (blkOk_by (own := [("bond", 1)]) rfl) (fun _ _ _ _ _ => pg_name (i := 1) sc_ring_names.nd rfl (Or.inl rfl)) (Nat.le_trans hy (by decide))
      (fun b v' H1 hb h1 dv => gto_name ⟨rfl, fun s0 H0 C cl fp => pv_ixD (d := .str b.a) (pv_dat 1 rfl dv) pv_int rfl⟩))) ?_)
    have e : Datum.toD (Tup.mk (ringN y)) = .tuple (y.map fun b => .str b.a) := by
      show PyData.tuple ((ringN y).map Datum.toD) = _
      unfold ringN
      rw [List.map_map]; rfl
    intro v2 H2 s2 p2
    exact q v2 H2 s2 (by show DI H2 v2 (Datum.toD (Tup.mk (ringN y))); rw [e]; exact p2)
end
end Bx
set_option Elab.async false
set_option linter.all false
set_option maxRecDepth 100000
set_option maxHeartbeats 4000000
/-! D3: bonds, patterns, steps. -/
namespace Bx
open PySem PySem.Spec PyProof.Rows L2
open PySem.W (Datum DatumOrd Holds HoldAll T3 T4 Tup EachIs)
section
variable {P : Program} {w : World} {K : PySem.W.Frag} {mg : Str → Option Value} {base : Heap}
/-! ### is_bond -/
abbrev spBond : Sp := spY (fun (y : Bond) vs H => ∃ v, vs = [v] ∧ HD H v y ∧ WfB y) fun _ => .b true
theorem ok_is_bond (T : Txt K mg) : Dfn P w K mg base 3 "is_bond" ["thing"] spBond := by
  refine dfn_of T.h_is_bond sc_is_bond (fun vs H Q E h => ?_) (fun f cdv A outer s H vs Q E hr h => ?_)
  · obtain ⟨_, ⟨_, rfl, _⟩, _⟩ := h; rfl
  · obtain ⟨y, ⟨v, rfl, hv, hy⟩, q⟩ := h
    have hu := hr.units
    obtain ⟨t1, c1⟩ := T.c_FOUR
    refine wb_cons (ws_if (k := false) (PBW.pb ((pw_o (k := !true) (l := decide ((4 : Int) ≠ 4)) (pb_not (pb_val (pv_isi (T := "tuple") T.b_isinstance T.b_tuple (pv_dat 0 rfl hv) tyr_d kb_tuple_tuple bt_tuple))) fun _ => pw_o1 (pb_neT (α := Int) (pv_lenT T.b_len (pv_dat 0 rfl hv)) (pv_gint c1))))) (fun z => nomatch z) fun _ H1 s1 => wb_nil ?_)
    refine wb_cons (ws_asg (g := gTup K 4 (gCons (gName 1) (gCons (gName 2) (gCons (gName 3) (gCons (gName 4) gNil))))) (r := .t y) (pv_dat 0 rfl (hv.same s1)) (pgT4 sc_is_bond.nd rfl 1 2 3 4) fun v1 H2 s2 p => gto_t4 p fun u1 u2 u3 u4 h1 h2 h3 h4 => ?_)
    cases h1; cases h2; cases h3; cases h4
    have nd : ∀ {z : Str}, z = "r" ∨ z = "s" → (z = "r" ∨ z = "s") := id
    refine wb_one (ws_ret (r := .b (true && (true && (true && (true && decide (y.a ≠ y.c)))))) (pv_a (pv_call ((ok_is_name T)) hr (pas_cons (pv_dat 1 rfl (DI.str _)) pas_nil) y.a fun H0 H' vs _ _ pr => ?_) fun _ =>
      pv_a (pv_call (ok_is_place T) hr (pas_cons (pv_dat 2 rfl (DI.str _)) pas_nil) y.b fun H0 H' vs _ _ pr => ?_) fun _ =>
      pv_a (pv_call (ok_is_name T) hr (pas_cons (pv_dat 3 rfl (DI.str _)) pas_nil) y.c fun H0 H' vs _ _ pr => ?_) fun _ =>
      pv_a (pv_call (ok_is_place T) hr (pas_cons (pv_dat 4 rfl (DI.str _)) pas_nil) y.d fun H0 H' vs _ _ pr => ?_) fun _ => pv_one (pv_neT (α := Str) (pv_dat 1 rfl (DI.str _)) (pv_dat 3 rfl (DI.str _)))) ?_)
    · obtain ⟨u, rfl, pu⟩ := rsl1 pr
      exact ⟨by rw [Rs.pS pu], hy.a⟩
    · obtain ⟨u, rfl, pu⟩ := rsl1 pr
      exact ⟨by rw [Rs.pS pu], hy.b⟩
    · obtain ⟨u, rfl, pu⟩ := rsl1 pr
      exact ⟨by rw [Rs.pS pu], hy.c⟩
    · obtain ⟨u, rfl, pu⟩ := rsl1 pr
      exact ⟨by rw [Rs.pS pu], hy.d⟩
    · rw [decide_eq_true hy.ne]
      exact fun v3 H3 s3 p3 => q v3 H3 ((s1.trans s2).trans s3) p3
end
end Bx
set_option Elab.async false
set_option linter.all false
set_option maxRecDepth 100000
set_option maxHeartbeats 4000000
/-! D4: is_pattern of one, turned_about, steps_of, turns. -/
namespace Bx
open PySem PySem.Spec PyProof.Rows L2
open PySem.W (Datum DatumOrd Holds HoldAll T3 T4 Tup EachIs)
section
variable {P : Program} {w : World} {K : PySem.W.Frag} {mg : Str → Option Value} {base : Heap}
/-! ### is_pattern of one bond -/
abbrev spPat1 : Sp := spY (fun (y : Bond) vs H => ∃ v, vs = [v] ∧ HD H v (Tup.mk [y]) ∧ WfB y) fun _ => .b true
theorem ok_is_pattern (T : Txt K mg) : Dfn P w K mg base 4 "is_pattern" ["thing"] spPat1 := by
  refine dfn_of T.h_is_pattern sc_is_pattern (fun vs H Q E h => ?_) (fun f cdv A outer s H vs Q E hr h => ?_)
  · obtain ⟨_, ⟨_, rfl, _⟩, _⟩ := h; rfl
  · obtain ⟨y, ⟨v, rfl, hv, hy⟩, q⟩ := h
    have hu := hr.units
    refine wb_one (ws_ret (r := .b (true && (decide ((0 : Int) < 1) && (([true] : List Bool).all id && true)))) (pv_a (pv_isi (T := "tuple") T.b_isinstance T.b_tuple (pv_dat 0 rfl hv) tyr_d kb_tuple_tuple bt_tuple) fun _ =>
      pv_a (pv_gtI (pv_lenT T.b_len (pv_dat 0 rfl hv)) pv_int) fun _ =>
      pv_a (pv_all rfl T.b_all (pv_lc0 (xs := [y]) (enc := Datum.toD) (f := fun _ => .bool true) rfl sc_is_pattern.nd (PIt.weak (pit_tup (pv_dat 0 rfl hv))) (blkOk_by (own := [("own", 1)]) rfl) (fun _ _ _ _ _ => pg_name (i := 1) sc_is_pattern.nd rfl (Or.inl rfl)) (by show 1 ≤ 1000000; decide)
        (fun b v' H1 hb h1 dv => gto_name ⟨rfl, fun s0 H0 C cl fp => pv_cal (ok_is_bond T) hr (pas_cons (pv_dat 1 rfl dv) pas_nil) b fun H0 H' vs s0 s1 pr => ?_⟩))) fun _ =>
      pv_one ?_) q)
    · obtain ⟨u, rfl, pu⟩ := rsl1 pr
      rw [List.mem_singleton.mp hb] at pu ⊢
      exact ⟨u, rfl, pu, hy⟩
    · exact pv_cal (ok_rises T) hr (pas_cons (pv_dat 0 rfl hv) pas_nil) [y] fun H0 H' vs s0 s1 pr => by
        obtain ⟨u, rfl, pu⟩ := rsl1 pr
        exact ⟨u, rfl, pu, rfl⟩
/-! ### turned_about -/
abbrev spTurned : Sp := spY (fun (y : List Bond) vs H => ∃ v, vs = [v] ∧ HD H v (Tup.mk y) ∧ y.length ≤ 1000) fun y => .t (Tup.mk (turnedM y))
theorem ok_turned_about (T : Txt K mg) : Dfn P w K mg base 3 "turned_about" ["pattern"] spTurned := by
  refine dfn_of T.h_turned_about sc_turned_about (fun vs H Q E h => ?_) (fun f cdv A outer s H vs Q E hr h => ?_)
  · obtain ⟨_, ⟨_, rfl, _⟩, _⟩ := h; rfl
  · obtain ⟨y, ⟨v, rfl, hv, hy⟩, q⟩ := h
    have hu := hr.units
    refine wb_one (ws_ret (r := .t (Tup.mk (turnedM y))) (pv_tupleN T.b_tuple (pv_sortN (xs := y.map flipB) T.b_sorted (PV.is (pv_lc0 (g := gTup K 4 (gCons (gName 1) (gCons (gName 2) (gCons (gName 3) (gCons (gName 4) gNil))))) (xs := y) (enc := Datum.toD) (f := fun b => Datum.toD (flipB b)) rfl sc_turned_about.nd (PIt.weak (pit_tup (pv_dat 0 rfl hv))) (blkOk_by (own := [("one", 1), ("end", 2), ("other", 3), ("place", 4)]) rfl)
      (fun _ _ _ _ _ => pgT4 sc_turned_about.nd rfl 1 2 3 4) (Nat.le_trans hy (by decide)) (fun b v' H1 hb h1 dv => gto_t4 dv fun v1 v2 v3 v4 d1 d2 d3 d4 => ⟨rfl, fun s0 H0 C cl fp => ?_⟩)) (by show Rs.l (y.map fun b => Datum.toD (flipB b)) = Rs.l ((y.map flipB).map Datum.toD); rw [List.map_map]; rfl)) (sortable_bond _))) q)
    cases d1; cases d2; cases d3; cases d4
    refine pv_tup (pad_cons (pv_dat 3 rfl (DI.str b.c)) (pad_cons (pv_cal (ok_other_end T) hr (pas_cons (pv_dat 4 rfl (DI.str b.d)) pas_nil) b.d fun H0 H' vs s0 s1 pr => ?_) (pad_cons (pv_dat 1 rfl (DI.str b.a)) (pad_cons (pv_cal (ok_other_end T) hr (pas_cons (pv_dat 2 rfl (DI.str b.b)) pas_nil) b.b fun H0 H' vs s0 s1 pr => ?_) pad_nil))))
    · obtain ⟨u, rfl, pu⟩ := rsl1 pr
      rw [Rs.pS pu]
    · obtain ⟨u, rfl, pu⟩ := rsl1 pr
      rw [Rs.pS pu]
/-! ### steps_of -/
abbrev spSteps : Sp := spY (fun (y : List Bond) vs H => ∃ v, vs = [v] ∧ HD H v (Tup.mk y) ∧ y.length ≤ 1000 ∧ y ≠ []) fun y => .ts (stepsM y)
theorem ok_steps_of (T : Txt K mg) : Dfn P w K mg base 4 "steps_of" ["ring"] spSteps := by
  refine dfn_of T.h_steps_of sc_steps_of (fun vs H Q E h => ?_) (fun f cdv A outer s H vs Q E hr h => ?_)
  · obtain ⟨_, ⟨_, rfl, _⟩, _⟩ := h; rfl
  · obtain ⟨y, ⟨v, rfl, hv, hy, hne⟩, q⟩ := h
    have hu := hr.units
    obtain ⟨x, r, rfl⟩ : ∃ x r, y = x :: r := List.exists_cons_of_ne_nil hne
    refine wb_cons (ws_set (i := 1) sc_steps_of.nd (pv_cal (ok_tupled T 2) hr (pas_cons (pv_dat 0 rfl hv) pas_nil) (Datum.toD (Tup.mk (x :: r))) fun H0 H' vs s0 s1 pr => ?_) fun v1 H1 s1 p1 => ?_)
    · obtain ⟨u, rfl, pu⟩ := rsl1 pr
      exact ⟨⟨u, rfl, pu⟩, flat_pat hy 0⟩
    · have p1 : DI H1 v1 (.tuple ((x :: r).map Datum.toD)) := p1
      refine wb_one (ws_ret (r := .l (zipD ((x :: r).map Datum.toD) (((x :: r).map Datum.toD).drop 1 ++ [Datum.toD x]))) (pv_listZip rfl T.b_list T.b_zip (pv_dat 1 rfl p1) (pv_lst (pad_star (pv_slFrom (k := 1) (pv_dat 1 rfl p1) pv_int) (pad_cons (pv_ixD (pv_dat 1 rfl p1) pv_int (atI_zero rfl)) pad_nil)) (by
        rw [List.length_append, List.length_drop, List.length_map, List.length_singleton]; omega)) lsrc_tup lsrc_new (by simp) (by rw [List.length_map]; omega)) fun v2 H2 s2 p2 => q v2 H2 (s1.trans s2) ?_)
      have e : zipD ((x :: r).map Datum.toD) (((x :: r).map Datum.toD).drop 1 ++ [Datum.toD x]) = (stepsM (x :: r)).map Datum.toD := by
        have e2 : ((x :: r).map Datum.toD).drop 1 ++ [Datum.toD x] = (rot1 (x :: r)).map (Datum.toD (α := Bond)) := by
          unfold rot1
          rw [List.map_append]
          rfl
        rw [e2, zipD_toD]
        rfl
      rw [e] at p2
      exact Rs.down p2 s1
end
end Bx
set_option Elab.async false
set_option linter.all false
set_option maxRecDepth 100000
set_option maxHeartbeats 4000000
/-! D5: turns, turning_names, is_round, is_ring. -/
namespace Bx
open PySem PySem.Spec PyProof.Rows L2
open PySem.W (Datum DatumOrd Holds HoldAll T3 T4 Tup EachIs minOf)
section
variable {P : Program} {w : World} {K : PySem.W.Frag} {mg : Str → Option Value} {base : Heap}
abbrev preRing (n : Nat) : List Bond → List V → Hp → Prop := fun y vs H => ∃ v, vs = [v] ∧ HD H v (Tup.mk y) ∧ y.length ≤ n ∧ y ≠ []
abbrev spTurns : Sp := spY (preRing 60) fun y => .i (turnsM y)
abbrev g12 (K : PySem.W.Frag) (i j : Nat) : TG := gTup K 2 (gCons (gName i) (gCons (gName j) gNil))
theorem pre1 {H H0 H' : Hp} {vs : List V} {α : Type} [DecidableEq α] [Datum α] {x : α} (pr : RsL [Rs.t x] H0 vs H') : ∃ v, vs = [v] ∧ HD H' v x := by
  obtain ⟨u, rfl, pu⟩ := rsl1 pr
  exact ⟨u, rfl, pu⟩
theorem ok_turns (T : Txt K mg) : Dfn P w K mg base 5 "turns" ["ring"] spTurns := by
  refine dfn_of T.h_turns sc_turns (fun vs H Q E h => ?_) (fun f cdv A outer s H vs Q E hr h => ?_)
  · obtain ⟨_, ⟨_, rfl, _⟩, _⟩ := h; rfl
  · obtain ⟨y, ⟨v, rfl, hv, hy, hne⟩, q⟩ := h
    have hu := hr.units
    refine wb_one (ws_ret (r := .i (turnsM y)) (pv_sum (nz := (stepsM y).map fun p => turnI p.1 p.2) rfl T.b_sum (PV.is (pv_lc0 (g := g12 K 1 2) (xs := stepsM y) (enc := Datum.toD) (f := fun p => .int (turnI p.1 p.2)) rfl sc_turns.nd (pit_new (pv_cal (ok_steps_of T) hr (pas_cons (pv_dat 0 rfl hv) pas_nil) y fun H0 H' vs s0 s1 pr => ?_)) (blkOk_by (own := [("near", 1), ("far", 2)]) rfl)
      (fun _ _ _ _ _ => pgT2 sc_turns.nd rfl 1 2) (by rw [stepsM_len]; omega) (fun p v' H1 hb h1 dv => gto_t2 dv fun v1 v2 d1 d2 => ⟨rfl, fun s0 H0 C cl fp => pv_cal (ok_turning T) hr (pas_cons (pv_dat 1 rfl d1) (pas_cons (pv_dat 2 rfl d2) pas_nil)) p fun H0 H' vs s0 s1 pr => ?_⟩)) (by
        show Rs.l ((stepsM y).map fun p => .int (turnI p.1 p.2)) = Rs.l (((stepsM y).map fun p => turnI p.1 p.2).map .int)
        rw [List.map_map]; rfl))) q)
    · obtain ⟨u, rfl, pu⟩ := rsl1 pr
      exact ⟨u, rfl, pu, by omega, hne⟩
    · obtain ⟨u, u2, rfl, pu, pu2⟩ := rsl2 pr
      exact ⟨u, u2, rfl, pu, pu2⟩
abbrev spTurnN : Sp := spY (preRing 60) fun y => .t (Tup.mk (turnNamesM y))
theorem ok_turning_names (T : Txt K mg) : Dfn P w K mg base 5 "turning_names" ["ring"] spTurnN := by
  refine dfn_of T.h_turning_names sc_turning_names (fun vs H Q E h => ?_) (fun f cdv A outer s H vs Q E hr h => ?_)
  · obtain ⟨_, ⟨_, rfl, _⟩, _⟩ := h; rfl
  · obtain ⟨y, ⟨v, rfl, hv, hy, hne⟩, q⟩ := h
    have hu := hr.units
    refine wb_one (ws_ret (r := .t (Tup.mk (turnNamesM y))) (pv_tupleN T.b_tuple (pv_sortN (xs := ((stepsM y).filter fun p => decide (turnI p.1 p.2 = 1)).map fun p => p.2.a) T.b_sorted (PV.is (pv_lc1 (g := g12 K 1 2) (xs := stepsM y) (enc := Datum.toD) (p := fun p => decide (turnI p.1 p.2 = 1)) (f := fun p => .str p.2.a) rfl sc_turning_names.nd (pit_new (pv_cal (ok_steps_of T) hr (pas_cons (pv_dat 0 rfl hv) pas_nil) y fun H0 H' vs s0 s1 pr => ?_)) (blkOk_by (own := [("near", 1), ("far", 2)]) rfl)
      (fun _ _ _ _ _ => pgT2 sc_turning_names.nd rfl 1 2) (by rw [stepsM_len]; omega) (fun p v' H1 hb h1 dv => gto_t2 dv fun v1 v2 d1 d2 => ⟨rfl, fun s0 H0 C cl fp => pb_eqT (α := Int) (pv_cal (ok_turning T) hr (pas_cons (pv_dat 1 rfl d1) (pas_cons (pv_dat 2 rfl d2) pas_nil)) p fun H0 H' vs s0 s1 pr => ?_) pv_int,
        fun s0 H0 C cl fp _ => pv_ixD (d := .str p.2.a) (pv_dat 2 rfl d2) pv_int rfl⟩)) (by
        show Rs.l (((stepsM y).filter fun p => decide (turnI p.1 p.2 = 1)).map fun p => .str p.2.a) = Rs.l ((((stepsM y).filter fun p => decide (turnI p.1 p.2 = 1)).map fun p => p.2.a).map Datum.toD)
        rw [List.map_map]; rfl)) (sortable_str _))) q)
    · obtain ⟨u, rfl, pu⟩ := rsl1 pr
      exact ⟨u, rfl, pu, by omega, hne⟩
    · obtain ⟨u, u2, rfl, pu, pu2⟩ := rsl2 pr
      exact ⟨u, u2, rfl, pu, pu2⟩
abbrev spRound : Sp := spY (preRing 60) fun y => .b (roundM y)
theorem ok_is_round (T : Txt K mg) : Dfn P w K mg base 5 "is_round" ["bonds"] spRound := by
  refine dfn_of T.h_is_round sc_is_round (fun vs H Q E h => ?_) (fun f cdv A outer s H vs Q E hr h => ?_)
  · obtain ⟨_, ⟨_, rfl, _⟩, _⟩ := h; rfl
  · obtain ⟨y, ⟨v, rfl, hv, hy, hne⟩, q⟩ := h
    have hu := hr.units
    have hall : ((stepsM y).map fun p => decide (p.1.c = p.2.a)).all id = (stepsM y).all fun p => decide (p.1.c = p.2.a) := by rw [List.all_map]; rfl
    refine wb_cons (ws_if (k := !((stepsM y).map fun p => decide (p.1.c = p.2.a)).all id) (pb_not (pb_val (pv_all (nz := (stepsM y).map fun p => decide (p.1.c = p.2.a)) rfl T.b_all (PV.is (pv_lc0 (g := g12 K 1 2) (xs := stepsM y) (enc := Datum.toD) (f := fun p => .bool (decide (p.1.c = p.2.a))) rfl sc_is_round.nd (pit_new (pv_cal (ok_steps_of T) hr (pas_cons (pv_dat 0 rfl hv) pas_nil) y fun H0 H' vs s0 s1 pr => ?_)) (blkOk_by (own := [("near", 1), ("far", 2)]) rfl)
      (fun _ _ _ _ _ => pgT2 sc_is_round.nd rfl 1 2) (by rw [stepsM_len]; omega) (fun p v' H1 hb h1 dv => gto_t2 dv fun v1 v2 d1 d2 => ⟨rfl, fun s0 H0 C cl fp => pv_eqT (α := Str) (pv_ixD (d := .str p.1.c) (pv_dat 1 rfl d1) pv_int rfl) (pv_ixD (d := .str p.2.a) (pv_dat 2 rfl d2) pv_int rfl)⟩)) (by
        show Rs.l ((stepsM y).map fun p => .bool (decide (p.1.c = p.2.a))) = Rs.l (((stepsM y).map fun p => decide (p.1.c = p.2.a)).map .bool)
        rw [List.map_map]; rfl))))) (fun k H1 s1 => ?_) fun k H1 s1 => wb_nil ?_)
    · obtain ⟨u, rfl, pu⟩ := rsl1 pr
      exact ⟨u, rfl, pu, by omega, hne⟩
    · rw [hall] at k
      have k : ((stepsM y).all fun p => decide (p.1.c = p.2.a)) = false := by simpa using k
      refine wb_one (ws_ret (r := .b false) pv_bool fun v2 H2 s2 p2 => q v2 H2 (s1.trans s2) ?_)
      have e : roundM y = false := by unfold roundM; rw [k]; rfl
      show (Rs.b (roundM y)).P H v2 H2
      rw [e]
      exact p2
    · rw [hall] at k
      have k : ((stepsM y).all fun p => decide (p.1.c = p.2.a)) = true := by simpa using k
      have e : roundM y = decide (((dd (ringN y)).length : Int) = (y.map (Datum.toD (α := Bond))).length) := by
        unfold roundM
        rw [k, Bool.true_and, List.length_map]
        exact decide_eq_decide.mpr ⟨fun e => by rw [e], fun e => by omega⟩
      have hv1 := hv.same s1
      refine wb_one (ws_ret (r := .b (decide (((dd (ringN y)).length : Int) = (y.map (Datum.toD (α := Bond))).length))) (pv_eqT (α := Int) (pv_lenSet (α := Str) (xs := ringN y) rfl T.b_len T.b_set (pv_cal (ok_ring_names T) hr (pas_cons (pv_dat 0 rfl hv1) pas_nil) y fun H0 H' vs s0 s1 pr => ?_) sqr_tup ?_) (pv_lenT T.b_len (pv_dat 0 rfl hv1))) fun v2 H2 s2 p2 => q v2 H2 (s1.trans s2) ?_)
      · obtain ⟨u, rfl, pu⟩ := rsl1 pr
        exact ⟨u, rfl, pu, by omega⟩
      · have := dd_len (ringN y)
        unfold ringN at this ⊢
        rw [List.length_map] at this
        omega
      · show (Rs.b (roundM y)).P H v2 H2
        rw [e]
        exact p2
/-! ### is_ring -/
def ringB (p : List Bond) (x : Bond) (r : List Bond) : Bool := ((x :: r).all fun b => decide (b ∈ p)) && (roundM (x :: r) && decide (x = minOf x r))
abbrev spIsRing : Sp := spY (fun (y : List Bond × Bond × List Bond) vs H => ∃ v u, vs = [v, u] ∧ HD H v (Tup.mk y.1) ∧ HD H u (Tup.mk (y.2.1 :: y.2.2)) ∧ y.1.length ≤ 1000 ∧ y.2.2.length ≤ 50 ∧ y.2.2 ≠ [] ∧ ∀ b ∈ y.2.1 :: y.2.2, WfB b) fun y => .b (ringB y.1 y.2.1 y.2.2)
theorem ok_is_ring (T : Txt K mg) : Dfn P w K mg base 6 "is_ring" ["pattern", "thing"] spIsRing := by
  refine dfn_of T.h_is_ring sc_is_ring (fun vs H Q E h => ?_) (fun f cdv A outer s H vs Q E hr h => ?_)
  · obtain ⟨_, ⟨_, _, rfl, _⟩, _⟩ := h; rfl
  · obtain ⟨⟨p, x, r⟩, ⟨v, u, rfl, hv, hu', hp, hl, hne, hwf⟩, q⟩ := h
    have hu := hr.units
    dsimp only at hv hu' hp hl hne hwf q
    have h2 : ¬ ((((x :: r).map (Datum.toD (α := Bond))).length : Int) < 2) := by
      rw [List.length_map, List.length_cons]
      have : 0 < r.length := List.length_pos_iff.mpr hne
      omega
    have hall : ((x :: r).map fun _ => true).all id = true := by
      rw [List.all_map]; exact List.all_eq_true.mpr fun _ _ => rfl
    refine wb_cons (ws_if (k := (!true || (decide ((((x :: r).map (Datum.toD (α := Bond))).length : Int) < 2) || !((x :: r).map fun _ => true).all id))) (PBW.pb (pw_o (pb_not (pb_val (pv_isi (T := "tuple") T.b_isinstance T.b_tuple (pv_dat 1 rfl hu') tyr_d kb_tuple_tuple bt_tuple))) fun _ =>
      pw_o (pb_lt (pv_lenT T.b_len (pv_dat 1 rfl hu')) pv_int) fun _ => pw_o1 (pb_not (pb_val (pv_all (nz := (x :: r).map fun _ => true) rfl T.b_all (PV.is (pv_lc0 (xs := x :: r) (enc := Datum.toD) (f := fun _ => .bool true) rfl sc_is_ring.nd (PIt.weak (pit_tup (pv_dat 1 rfl hu'))) (blkOk_by (own := [("own", 2)]) rfl) (fun _ _ _ _ _ => pg_name (i := 2) sc_is_ring.nd rfl (Or.inl rfl)) (by rw [List.length_cons]; omega)
        (fun b v' H1 hb h1 dv => gto_name ⟨rfl, fun s0 H0 C cl fp => pv_cal (ok_is_pattern T) hr (pas_cons (pv_tup (pad_cons (pv_dat 2 rfl dv) pad_nil)) pas_nil) b fun H0 H' vs s0 s1 pr => ?_⟩)) (by rw [List.map_map]; rfl)))))))
      (fun k => ?_) fun _ H1 s1 => wb_nil ?_)
    · obtain ⟨z, rfl, pz⟩ := rsl1 pr
      exact ⟨z, rfl, pz, hwf b hb⟩
    · rw [hall, decide_eq_false h2] at k
      cases k
    · have hv1 := hv.same s1
      have hu1 := hu'.same s1
      have hall2 : ((x :: r).map fun b => decide (b ∈ p)).all id = (x :: r).all fun b => decide (b ∈ p) := by rw [List.all_map]; rfl
      refine wb_one (ws_ret (r := .b (((x :: r).map fun b => decide (b ∈ p)).all id && (roundM (x :: r) && decide (x = minOf x r)))) (pv_a (pv_all (nz := (x :: r).map fun b => decide (b ∈ p)) rfl T.b_all (PV.is (pv_lc0 (xs := x :: r) (enc := Datum.toD) (f := fun b => .bool (decide (b ∈ p))) rfl sc_is_ring.nd (PIt.weak (pit_tup (pv_dat 1 rfl hu1))) (blkOk_by (own := [("own", 2)]) rfl) (fun _ _ _ _ _ => pg_name (i := 2) sc_is_ring.nd rfl (Or.inl rfl)) (by rw [List.length_cons]; omega)
        (fun b v' H2 hb h1 dv => gto_name ⟨rfl, fun s0 H0 C cl fp => pv_inT (α := Bond) (xs := p) (pv_dat 2 rfl dv) (pv_cal (ok_tupled T 2) hr (pas_cons (pv_dat 0 rfl (hv1.same h1)) pas_nil) (Datum.toD (Tup.mk p)) fun H0 H' vs s0 s1 pr => ?_)⟩)) (by rw [List.map_map]; rfl))) fun _ =>
        pv_a (pv_cal (ok_is_round T) hr (pas_cons (pv_dat 1 rfl hu1) pas_nil) (x :: r) fun H0 H' vs s0 s1 pr => ?_) fun _ => pv_one (pv_eqT (α := Bond) (pv_ixD (pv_dat 1 rfl hu1) pv_int (atI_zero rfl)) (pv_minT (α := Bond) rfl T.b_min (pv_dat 1 rfl hu1)))) fun v2 H2 s2 p2 => q v2 H2 (s1.trans s2) ?_)
      · obtain ⟨z, rfl, pz⟩ := rsl1 pr
        exact ⟨⟨z, rfl, pz⟩, flat_pat hp 0⟩
      · obtain ⟨z, rfl, pz⟩ := rsl1 pr
        exact ⟨z, rfl, pz, by rw [List.length_cons]; omega, by simp⟩
      · rw [hall2] at p2
        exact p2
end
end Bx
set_option Elab.async false
set_option linter.all false
set_option maxRecDepth 100000
set_option maxHeartbeats 4000000
/-! D6: names_of, check_names, renamed. -/
namespace Bx
open PySem PySem.Spec PyProof.Rows L2
open PySem.W (Datum DatumOrd Holds HoldAll T3 T4 Tup EachIs minOf)
section
variable {X : Cx} {e f o : Expr} {σ : St} {H : Hp} {apos cpos : Pos}
/-- d.get(x, x) -/
theorem pv_dget2 {a : Addr} {kvs : List (Key × V)} {x y : Str} (ho : PV X o σ H (.v (.ref a))) (ha : H a = some (.dK kvs)) (he : PV X e σ H (.s x)) (hf : PV X f σ H (.s x)) (hy : (valV kvs (Sum.inr x)).getD (V.str x) = V.str y) (hu : X.A.units + 64 < cLine := by assumption) (m : M2 X o "get" apos e f cpos := by exact ⟨rfl, rfl, rfl, rfl⟩) :
    PV X (.Call (.Attribute o "get" apos) [e, f] [] cpos) σ H (.s y) :=
  .of (pe_dget2 (by omega) pe_s pe_s pe_s m) fun H1 h1 => ho.t h1 fun v H2 s2 pv => by
    have pv : v = V.ref a := pv
    subst pv
    have a2 := (h1.trans s2) _ _ ha
    refine ⟨a, rfl, .inl ⟨kvs, .inl a2⟩, he.t (h1.trans s2) fun v3 H3 s3 p3 => hf.t ((h1.trans s2).trans s3) fun v4 H4 s4 p4 => ?_⟩
    have s5 := s3.trans s4
    refine ⟨valV kvs (Sum.inr x), ?_, s2.trans s5, ?_⟩
    · rw [Rs.pS p3]
      exact DGet.k (k := Sum.inr x) (s5 _ _ a2)
    · rw [Rs.pS p4, hy]
      exact DI.str _
end
section
variable {P : Program} {w : World} {K : PySem.W.Frag} {mg : Str → Option Value} {base : Heap}
/-! ### names_of -/
abbrev spNames : Sp := spY (fun (y : List Bond) vs H => ∃ v, vs = [v] ∧ HD H v (Tup.mk y) ∧ y.length ≤ 30) fun y => .t (Tup.mk (namesM y))
theorem ok_names_of (T : Txt K mg) : Dfn P w K mg base 2 "names_of" ["pattern"] spNames := by
  refine dfn_of T.h_names_of sc_names_of (fun vs H Q E h => ?_) (fun f cdv A outer s H vs Q E hr h => ?_)
  · obtain ⟨_, ⟨_, rfl, _⟩, _⟩ := h; rfl
  · obtain ⟨y, ⟨v, rfl, hv, hy⟩, q⟩ := h
    have hu := hr.units
    have hl := flatN_len y
    have e : (y.flatMap fun b => [PyData.str b.a, .str b.c]) = (flatN y).map Datum.toD := by
      unfold flatN
      rw [List.map_flatMap]; rfl
    refine wb_one (ws_ret (r := .t (Tup.mk (namesM y))) (pv_tupleN T.b_tuple (pv_sortSet (xs := flatN y) (r := .ts (flatN y)) rfl T.b_sorted T.b_set (PV.is (pv_lc2t (g := gTup K 4 (gCons (gName 1) (gCons (gName 2) (gCons (gName 3) (gCons (gName 4) gNil))))) (i1 := 5) (M := 0) (vs1 := [5]) (xs := y) (enc := Datum.toD) (dsf := fun b => [.str b.a, .str b.c]) rfl sc_names_of.nd (PIt.weak (pit_tup (pv_dat 0 rfl hv))) (blkOk_by (own := [("one", 1), ("end", 2), ("other", 3), ("place", 4), ("name", 5)]) rfl) (by decide)
      (fun _ _ _ _ _ => pgT4 sc_names_of.nd rfl 1 2 3 4) (fun _ _ _ _ _ => pg_name (i := 5) sc_names_of.nd rfl (Or.inl rfl)) (by rw [e, List.length_map]; omega) (fun b v' H1 hb h1 dv => gto_t4 dv fun v1 v2 v3 v4 d1 d2 d3 d4 => ⟨rfl, fun s0 H0 C cl fp => pv_tup (pad_cons (pv_dat 1 rfl d1) (pad_cons (pv_dat 3 rfl d3) pad_nil)), fun y d H2 dy => ⟨rfl, fun s0 H0 C cl fp => pv_dat 5 rfl dy⟩⟩)) (by rw [e])) sqr_new ?_ (sortable_str _))) q)
    have := dd_len (flatN y)
    omega
end
end Bx
set_option Elab.async false
set_option linter.all false
set_option maxRecDepth 100000
set_option maxHeartbeats 4000000
/-! E0: lists that a loop fills and empties. -/
namespace Bx
open PySem PySem.Spec PyProof.Rows L2
open PySem.W (Datum DatumOrd Holds HoldAll T3 T4 Tup EachIs)
theorem Same.updN {H H' : Hp} {R : Addr} {o : HO} (s : Same H H') (n : H R = none) : Same H (L2.upd H' R o) := fun b u e => by
  have nb : b ≠ R := ne_of_none e n
  rw [upd_ne nb]
  exact s b u e
section
variable {X : Cx} {tg iter : Expr} {σ : St} {H : Hp} {pos : Pos} {ds : List PyData}
theorem ws_expr {e : Expr} {r : Rs} {D : Ends} (h : PV X e σ H r) (k : ∀ v H1, Same H H1 → r.P H v H1 → D.nx σ H1) (hs : swapsWith e none pos.line X.env = pure false := by rfl) : WS X (.Expr e pos) D σ H :=
  .of (ps_expr pe_s hs) (h.t (Same.refl _) fun v H1 s1 p => k v H1 s1 p)
/-- a for; the word starts at the heap that the walked thing's reading leaves -/
theorem ws_forH {S : Hp → Hp → Prop} {g : TG} {body : List Stmt} {D : Ends} (hp : PassesOwn (model X.prog X.w) X.A X.env X.xe) (hc : X.calm = true) (hi : PIt S X tg iter σ H ds) (hg : PG X tg g) (Pv : Hp → Nat → St → Hp → Prop)
    (h0 : ∀ H1, Same H H1 → Pv H1 0 σ H1) (hS : ∀ H1 i σ' H', Same H H1 → i ≤ ds.length → Pv H1 i σ' H' → S H1 H')
    (hs : ∀ H1 i d x σ' H', Same H H1 → ds[i]? = some d → Pv H1 i σ' H' → ∀ H'', Same H' H'' → DI H'' x d → GTo g σ' H'' x fun σ2 => WB X body { D with nx := Pv H1 (i + 1), ct := Pv H1 (i + 1), bk := D.nx } σ2 H'')
    (hd : ∀ H1 σ' H', Same H H1 → Pv H1 ds.length σ' H' → D.nx σ' H') (hf : ∀ x, foldedSetIterable iter X.env x = pure x := by intro _; rfl) : WS X (.For tg iter body [] pos) D σ H := by
  obtain ⟨wi, hpi, hq⟩ := hi
  refine .of (ps_for hp hc hpi hg pss_w hf) (hq H (Same.refl _) _ fun J H2 s2 w => for_it w (Pv H2) (h0 H2 s2) (fun i σ' H' hi p => hS H2 i σ' H' s2 hi p) (fun i x σ' H' H'' hi p y => ?_) fun σ' H' p => hd H2 σ' H' s2 p)
  obtain ⟨sy, d, hd, dx⟩ := y
  exact hs H2 i d x σ' H' s2 hd p H'' sy dx _ fun σ2 h => h
theorem map_some {α β : Type} {f : α → β} {xs : List α} {i : Nat} {d : β} (h : (xs.map f)[i]? = some d) : ∃ z, xs[i]? = some z ∧ d = f z := by
  rw [List.getElem?_map] at h
  obtain ⟨z, hz, e⟩ := Option.map_eq_some_iff.mp h
  exact ⟨z, hz, e.symm⟩
end
section
variable {X : Cx} {e o a b c : Expr} {es : List Expr} {σ : St} {H H' H1 : Hp} {r ra : Rs} {pos apos cpos : Pos} {ds : List PyData} {D : Ends}
theorem pv_neg {i : Int} (h : PV X e σ H (.i i)) : PV X (.UnaryOp .USub e pos) σ H (.i (-i)) :=
  .of (pe_un un_neg pe_s) fun H1 hs => h.t hs fun v H2 s2 p => ⟨i, Rs.pI p, s2, DI.int _⟩
/-- x, y, z = e, [], [] -/
theorem ws_par3N (i j l : Nat) {x y z : Str} {px py pz pt pb pc : Pos} {kt k2 pt2} (hN : X.N.Nodup) (hc : X.calm = true) (ha : PV X a σ H ra)
    (k : ∀ v F R H1, Same H H1 → ra.P H v H1 → H F = none → H R = none → F ≠ R → H1 F = some (.lst []) → H1 R = some (.lst []) → D.nx (((σ.set i (some v)).set j (some (.ref F))).set l (some (.ref R))) H1)
    (hij : i ≠ j := by decide) (hil : i ≠ l := by decide) (hjl : j ≠ l := by decide) (hi : X.N[i]? = some x := by rfl) (hj : X.N[j]? = some y := by rfl) (hl : X.N[l]? = some z := by rfl)
    (hx : X.env.scope.names.lookup x = some .local := by rfl) (hy : X.env.scope.names.lookup y = some .local := by rfl) (hz : X.env.scope.names.lookup z = some .local := by rfl)
    (hw : swappedStores [.Tuple [.Name x px, .Name y py, .Name z pz] kt pt] (.Tuple [a, .List [] pb, .List [] pc] k2 pt2) X.env = pure (some [x, y, z]) := by rfl)
    (hs : swapsWithSole [.Tuple [.Name x px, .Name y py, .Name z pz] kt pt] (.Tuple [a, .List [] pb, .List [] pc] k2 pt2) pos.line X.env = pure false := by rfl)
    (n1 : starEach [a, .List [] pb, .List [] pc] X.env = (false, eval a X.env) :: starEach [.List [] pb, .List [] pc] X.env := by rfl) :
    WS X (.Assign [.Tuple [.Name x px, .Name y py, .Name z pz] kt pt] (.Tuple [a, .List [] pb, .List [] pc] k2 pt2) pos) D σ H := by
  refine .of (ps_par3 hc hN hi hj hl hij hil hjl hx hy hz (pa_cons pe_s (pa_cons (pe_lst pa_nil) (pa_cons (pe_lst pa_nil) pa_nil rfl) rfl) n1) hw hs) ?_
  refine ha.t (Same.refl _) fun v H1 s1 p1 => ⟨Nat.zero_le _, fun F nF => ⟨Nat.zero_le _, fun R nR => ⟨v, _, _, rfl, ?_⟩⟩⟩
  have sF := same_new (o := .lst []) nF
  have sR := same_new (o := .lst []) nR
  have hne : F ≠ R := by
    intro e
    subst e
    rw [upd_same] at nR
    cases nR
  refine k v F R _ (s1.trans (sF.trans sR)) (Rs.up p1 (sF.trans sR)) (s1.free nF) ?_ hne ?_ upd_same
  · exact (s1.trans sF).free nR
  · rw [upd_ne hne]; exact upd_same
/-- x = l.pop() -/
theorem ws_pop {i : Nat} {x : Str} {pos' : Pos} {l : Addr} {xs : List V} {y : V} (hN : X.N.Nodup) (ho : PV X o σ H (.v (.ref l))) (hl : H l = some (.lst xs)) (hy : xs.getLast? = some y) (k : ∀ H1, Same H H1 → D.nx (σ.set i (some y)) (upd H1 l (.lst xs.dropLast)))
    (hi : X.N[i]? = some x := by rfl) (hx : Loc X.env.scope x := by first | exact Or.inl rfl | exact Or.inr rfl)
    (hs : swapsWith (.Call (.Attribute o "pop" apos) [] [] cpos) (some (.Name x pos')) pos.line X.env = pure false := by rfl) (hf : X.fn x = true ∨ X.env.scope.names.lookup x = some .local := by first | exact .inl rfl | exact .inr rfl | assumption)
    (hbase : attributeBase o "pop" X.env (eval o X.env) = eval o X.env := by rfl) (hline : (apos.endLine == cpos.line) = true := by rfl) : WS X (.Assign [.Name x pos'] (.Call (.Attribute o "pop" apos) [] [] cpos) pos) D σ H := by
  refine .of (ps_set hN hi hx (pe_bm0 PySem.F.plainAttrs_list PySem.F.slot_list_pop PySem.F.type_list_pop mt_pop pe_s hbase hline) hs hf) ?_
  refine ho.t (Same.refl _) fun v H1 s1 pv => ?_
  have pv : v = .ref l := pv
  subst pv
  exact ⟨.inl ⟨rfl, _, SqL.of (s1 _ _ hl)⟩, l, xs, y, rfl, rfl, s1 _ _ hl, by rw [← List.getLast?_eq_getElem?]; exact hy, k H1 s1⟩
/-- l.extend(a new list) -/
theorem ws_extend {l : Addr} {xs : List V} (ho : PV X o σ H (.v (.ref l))) (hl : H l = some (.lst xs)) (hz : xs.length + ds.length ≤ 2000000) (h : PV X e σ H (.l ds)) (k : ∀ zs H1, Same H H1 → DIs H1 zs ds → D.nx σ (upd H1 l (.lst (xs ++ zs))))
    (hbase : attributeBase o "extend" X.env (eval o X.env) = eval o X.env := by rfl) (hline : (apos.endLine == cpos.line) = true := by rfl)
    (hs : swapsWith (.Call (.Attribute o "extend" apos) [e] [] cpos) none pos.line X.env = pure false := by rfl)
    (hfew : ((backTo cpos (starEach [e] X.env)).all (fun x => !x.1) && (backToKw cpos (keywordEach [] X.env)).all (fun x => x.1.isSome) && decide ([e].length + ([] : List Keyword).length + (if ([] : List Keyword).isEmpty then 0 else 1) < 30)) = true := by rfl)
    (hst : starEach [e] X.env = (false, eval e X.env) :: starEach [] X.env := by rfl) (hplain : (backTo cpos (starEach [] X.env)).any (·.1) = false := by rfl) : WS X (.Expr (.Call (.Attribute o "extend" apos) [e] [] cpos) pos) D σ H := by
  refine .of (ps_expr (pe_bm PySem.F.plainAttrs_list PySem.F.slot_list_extend PySem.F.type_list_extend mt_extend pe_s pa_s (hbase := hbase) (hfew := hfew) (hline := hline) (hs := hst) (hplain := hplain)) hs) ?_
  refine ho.t (Same.refl _) fun v H1 s1 pv => ?_
  have pv : v = .ref l := pv
  subst pv
  refine ⟨.inl ⟨rfl, _, SqL.of (s1 _ _ hl)⟩, PAs.t (pas_cons h pas_nil hst) s1 fun vs H2 s2 pr => ?_⟩
  obtain ⟨v, rfl, pv⟩ := rsl1 pr
  obtain ⟨p, zs, rfl, np, hp, hd⟩ := pv
  exact ⟨l, p, xs, zs, rfl, rfl, s2 _ _ (s1 _ _ hl), hp, by rw [hd.length]; exact Nat.le_trans hz (by decide), k zs H2 (s1.trans s2) hd⟩
end
end Bx
set_option Elab.async false
set_option linter.all false
set_option maxRecDepth 100000
set_option maxHeartbeats 4000000
/-! D7: check_names, renamed. -/
namespace Bx
open PySem PySem.Spec PyProof.Rows L2
open PySem.W (Datum DatumOrd Holds HoldAll T3 T4 Tup EachIs minOf)
theorem valV_pr (x : Str) : ∀ ps : List (Str × Str), valV (prK ps) (Sum.inr x) = ((ps.find? fun p => decide (p.1 = x)).map fun p => V.str p.2)
  | [] => rfl
  | p :: ps => by
    unfold prK
    rw [List.map_cons]
    by_cases h : p.1 = x
    · subst h
      rw [valV_pos rfl, List.find?_cons_of_pos (by simp)]; rfl
    · rw [valV_neg (by intro e; injection e with e; exact h e), List.find?_cons_of_neg (by simp [h])]
      exact valV_pr x ps
theorem mergeK_fresh : ∀ (more acc : List (Key × V)), ((acc ++ more).map (·.1)).Nodup → mergeK acc more = acc ++ more
  | [], acc, _ => by rw [List.append_nil]; rfl
  | p :: r, acc, h => by
    have hn : valV acc p.1 = none := by
      cases q : valV acc p.1 with
      | none => rfl
      | some v =>
        unfold valV at q
        obtain ⟨kv, hk, e⟩ := Option.map_eq_some_iff.mp q
        have h1 := List.mem_of_find?_eq_some hk
        have h2 := List.find?_some hk
        rw [List.map_append, List.nodup_append] at h
        exact absurd (of_decide_eq_true h2) (h.2.2 kv.1 (List.mem_map.mpr ⟨kv, h1, rfl⟩) p.1 (by rw [List.map_cons]; exact List.mem_cons_self))
    show mergeK (putK acc p.1 p.2) r = _
    rw [putK_new p.2 hn, mergeK_fresh r _ (by rw [List.append_assoc]; exact h), List.append_assoc]
    rfl
theorem table_get {ps : List (Str × Str)} (nd : (ps.map (·.1)).Nodup) (x : Str) : (valV (mergeK [] (prK ps)) (Sum.inr x)).getD (V.str x) = V.str (rnM ps x) := by
  have nk : ((([] : List (Key × V)) ++ prK ps).map (·.1)).Nodup := by
    rw [List.nil_append, prK, List.map_map]
    exact List.pairwise_map.mpr (List.Pairwise.imp (fun {a b : Str × Str} (hne : a.1 ≠ b.1) (e : (Sum.inr a.1 : Key) = Sum.inr b.1) => hne (Sum.inr.inj e)) (List.pairwise_map.mp nd))
  rw [mergeK_fresh _ _ nk, List.nil_append, valV_pr]
  unfold rnM
  cases ps.find? fun p => decide (p.1 = x) <;> rfl
section
variable {P : Program} {w : World} {K : PySem.W.Frag} {mg : Str → Option Value} {base : Heap}
/-! ### check_names -/
abbrev spCheck : Sp := spY (fun (y : List Bond × List Str) vs H => ∃ v l us, vs = [v, .ref l] ∧ HD H v (Tup.mk y.1) ∧ y.1.length ≤ 30 ∧ H l = some (.lst us) ∧ HDs H us y.2 ∧ ∀ x ∈ y.2, x ∈ namesM y.1) fun _ => .d .none
theorem ok_check_names (T : Txt K mg) : Dfn P w K mg base 3 "check_names" ["pattern", "some"] spCheck := by
  refine dfn_of T.h_check_names sc_check_names (fun vs H Q E h => ?_) (fun f cdv A outer s H vs Q E hr h => ?_)
  · obtain ⟨_, ⟨_, _, _, rfl, _⟩, _⟩ := h; rfl
  · obtain ⟨⟨y, zs⟩, ⟨v, l, us, rfl, hv, hy, hl, hus, hm⟩, q⟩ := h
    have hu := hr.units
    dsimp only at hv hy hus hm q
    refine wb_cons (ws_set (i := 2) sc_check_names.nd (pv_cal (ok_names_of T) hr (pas_cons (pv_dat 0 rfl hv) pas_nil) y fun H0 H' vs s0 s1 pr => ?_) fun v1 H1 s1 p1 => ?_)
    · obtain ⟨u, rfl, pu⟩ := rsl1 pr
      exact ⟨u, rfl, pu, hy⟩
    · have p1 : HD H1 v1 (Tup.mk (namesM y)) := p1
      refine wb_one (ws_forH (g := gName 3) (ds := zs.map Datum.toD) PassesOwn.never rfl (pit_lst (l := l) (pv_name 1 rfl) (s1 _ _ hl) (hus.same s1)) (pg_name (i := 3) sc_check_names.nd rfl (Or.inl rfl)) (fun H2 i σ' H' => Same H2 H' ∧ ∃ o, σ' = [some v, some (.ref l), some v1, o]) (fun H2 s2 => ⟨Same.refl _, _, rfl⟩) (fun H2 i σ' H' s2 _ p => p.1) (fun H2 i d x σ' H' s2 hd p H'' s3 dx => ?_) fun H2 σ' H' s2 p => q .non H' (s1.trans (s2.trans p.1)) DI.non)
      obtain ⟨s4, o, rfl⟩ := p
      obtain ⟨z, hz, rfl⟩ := map_some hd
      have hx : z ∈ namesM y := hm z (List.mem_of_getElem? hz)
      refine gto_name (wb_one (ws_if (k := !decide (z ∈ namesM y)) (pb_ninT (α := Str) (pv_dat 3 rfl dx) (pv_dat 2 rfl (p1.same ((s2.trans s4).trans s3)))) (fun k => ?_) fun _ H4 s5 => wb_nil ⟨s4.trans (s3.trans s5), _, rfl⟩))
      rw [decide_eq_true hx] at k
      cases k
/-! ### tupled, of a tuple -/
theorem Rs.wP {H1 H2 : Hp} {v : V} {ds : List PyData} (h : (Rs.w ds).P H1 v H2) : Whole H2 v ds := h
abbrev spTupledW (n : Nat) : Sp := spY (fun (ds : List PyData) vs H => (∃ v, vs = [v] ∧ DI H v (.tuple ds)) ∧ flatTo (n + 1) (.tuple ds)) fun ds => .w ds
theorem ok_tupledW (T : Txt K mg) (n : Nat) : Dfn P w K mg base (n + 2) "tupled" ["thing"] (spTupledW n) := by
  have ih := ok_tupled (P := P) (w := w) (base := base) T n
  refine dfn_of T.h_tupled sc_tupled (fun vs H Q E h => ?_) (fun f cdv A outer s H vs Q E hr h => ?_)
  · obtain ⟨_, ⟨⟨_, rfl, _⟩, _⟩, _⟩ := h; rfl
  · obtain ⟨ds, ⟨⟨v, rfl, hv⟩, hd⟩, q⟩ := h
    refine wb_one (ws_ret (r := .w ds) (pv_ifE (pb_val (pv_isi2 (k := false) (k' := true) T.b_isinstance T.b_list T.b_tuple (pv_dat 0 rfl hv) (T := "tuple") tyr_d kb_tuple_list kb_tuple_tuple bt_list bt_tuple)) (fun _ => ?_) fun z => nomatch z) q)
    refine pv_tupleW T.b_tuple ?_
    have e : ds.map (fun d => d) = ds := List.map_id _
    refine PV.is (r := .l (ds.map fun d => d)) ?_ (by rw [e])
    exact pv_lc0 (xs := ds) (enc := fun d => d) (f := fun d => d) rfl sc_tupled.nd (PIt.weak (pit_tup (PV.is (pv_dat 0 rfl hv) (by rw [e])))) (blkOk_by (own := [("own", 1)]) rfl) (fun _ _ _ _ _ => pg_name (i := 1) sc_tupled.nd rfl (Or.inl rfl))
      (Nat.le_trans hd.2 (by decide)) (fun d v' H1 hd1 h1 dv => gto_name ⟨rfl, fun s0 H0 C cl fp => pv_call ih hr (pas_cons (pv_dat 1 rfl dv) pas_nil) d fun H0 H' vs s0 s1 pr => ⟨by
        obtain ⟨u, rfl, pu⟩ := rsl1 pr
        exact ⟨u, rfl, pu⟩, hd.1 d hd1⟩⟩)
/-! ### dict(…), renamed -/
abbrev Rs.dk (kvs : List (Key × V)) : Rs := .p (fun H v => ∃ a, v = .ref a ∧ H a = some (.dK kvs)) fun _ _ _ s ⟨a, e, h⟩ => ⟨a, e, s _ _ h⟩
section
variable {X : Cx} {e : Expr} {σ : St} {H : Hp} {pos : Pos}
theorem bt_dict : bootBuiltins "dict" = some (.type "dict") := by decide +kernel
theorem pv_dictW {p : Pos} {ps : List (Str × Str)} (hc : X.calm = true) (hm : X.mg "dict" = none) (ha : PV X e σ H (.w (ps.map Datum.toD))) (hl : ps.length ≤ 1000) (hg : Gl X "dict" := by rfl) (ns : NS X e := by rfl) : PV X (.Call (.Name "dict" p) [e] [] pos) σ H (.dk (mergeK [] (prK ps))) :=
  pv_callTy (cr_dictTup hc) hm bt_dict (pas_cons ha pas_nil ns) (fun H0 H' vs _ _ pr Q q => by
    obtain ⟨v, rfl, pv⟩ := rsl1 pr
    exact ⟨v, ps, rfl, pv, hl, fun a na => q _ _ (same_new na) ⟨a, rfl, upd_same⟩⟩) hg (he := ns)
end
structure RenPre (y : List Bond × List (Str × Str)) : Prop where
  few : y.1.length ≤ 30
  ps : y.2.length ≤ 30
  ne : y.2 ≠ []
  nd : (y.2.map (·.1)).Nodup
  mem : ∀ p ∈ y.2, p.1 ∈ namesM y.1
  inj : ((namesM y.1).map (rnM y.2)).Nodup
abbrev spRenamed : Sp := spY (fun (y : List Bond × List (Str × Str)) vs H => ∃ v u, vs = [v, u] ∧ HD H v (Tup.mk y.1) ∧ HD H u (Tup.mk y.2) ∧ RenPre y) fun y => .t (Tup.mk (renamedM y.1 y.2))
theorem flat_prs {ps : List (Str × Str)} (h : ps.length ≤ 30) : flatTo 2 (.tuple (ps.map Datum.toD)) := by
  refine ⟨fun d hd => ?_, by rw [List.length_map]; omega⟩
  obtain ⟨p, _, rfl⟩ := List.mem_map.mp hd
  refine ⟨fun d hd => ?_, by show 2 ≤ 1000; decide⟩
  simp only [List.mem_cons, List.not_mem_nil, or_false] at hd
  rcases hd with rfl | rfl <;> trivial
theorem ok_renamed (T : Txt K mg) : Dfn P w K mg base 4 "renamed" ["pattern", "pairs"] spRenamed := by
  refine dfn_of T.h_renamed sc_renamed (fun vs H Q E h => ?_) (fun f cdv A outer s H vs Q E hr h => ?_)
  · obtain ⟨_, ⟨_, _, rfl, _⟩, _⟩ := h; rfl
  · obtain ⟨⟨y, ps⟩, ⟨v, u, rfl, hv, hu', pre⟩, q⟩ := h
    have hu := hr.units
    dsimp only at hv hu' q
    have p1 := pre.few; have p2 := pre.ps; have p3 := pre.ne
    dsimp only at p1 p2 p3
    refine wb_cons (ws_set (i := 2) sc_renamed.nd (pv_dictW (ps := ps) rfl T.b_dict (pv_cal (ok_tupledW T 1) hr (pas_cons (pv_dat 1 rfl hu') pas_nil) (ps.map Datum.toD) fun H0 H' vs s0 s1 pr => ?_) (by omega)) fun v1 H1 s1 p1 => ?_)
    · obtain ⟨z, rfl, pz⟩ := rsl1 pr
      exact ⟨⟨z, rfl, pz⟩, flat_prs p2⟩
    · obtain ⟨a, rfl, ha⟩ := p1
      have hv1 := hv.same s1
      have hu1 := hu'.same s1
      refine wb_cons (ws_expr (r := .d .none) (pv_cal (ok_check_names T) hr (pas_cons (pv_dat 0 rfl hv1) (pas_cons (PV.is (pv_lc0 (g := g12 K 5 8) (xs := ps) (enc := Datum.toD) (f := fun p => .str p.1) rfl sc_renamed.nd (PIt.weak (pit_tup (pv_dat 1 rfl hu1))) (blkOk_by (own := [("name", 5), ("other", 8)]) rfl)
        (fun _ _ _ _ _ => pgT2 sc_renamed.nd rfl 5 8) (by omega) (fun p v' H2 hp h1 dv => gto_t2 dv fun x1 x2 d1 d2 => ⟨rfl, fun s0 H0 C cl fp => pv_dat 5 rfl d1⟩)) (r' := .ts (ps.map (·.1))) (by show Rs.l _ = Rs.l _; rw [List.map_map]; rfl)) pas_nil)) (y, ps.map (·.1)) fun H0 H' vs s0 s2 pr => ?_) fun v2 H2 s2 _ => ?_)
      · obtain ⟨z1, z2, rfl, pz1, pz2⟩ := rsl2 pr
        obtain ⟨l, us, rfl, _, hl, hus⟩ := pz2
        exact ⟨z1, l, us, rfl, pz1, p1, hl, hus, fun x hx => by
          obtain ⟨p, hp, rfl⟩ := List.mem_map.mp hx
          exact pre.mem p hp⟩
      · have hv2 := hv1.same s2
        have ha2 := s2 _ _ ha
        refine wb_cons (ws_lc0 (g := gName 5) (i0 := 3) (xs := namesM y) (enc := Datum.toD) (f := fun x => .str (rnM ps x)) rfl sc_renamed.nd (PIt.weak (pit_tup (pv_cal (ok_names_of T) hr (pas_cons (pv_dat 0 rfl hv2) pas_nil) y fun H0 H' vs s0 s3 pr => ?_))) (blkOk_by (own := [("name", 5)]) rfl)
          (fun _ _ _ _ _ => pg_name (i := 5) sc_renamed.nd rfl (Or.inl rfl)) ?_ (fun x v' H3 hx h1 dv => gto_name ⟨rfl, fun s0 H0 C cl fp => pv_dget2 (pv_name 2 rfl) (h1 _ _ ha2) (pv_dat 5 rfl dv) (pv_dat 5 rfl dv) (table_get pre.nd x)⟩) fun v3 H3 s3 p3 => ?_)
        · obtain ⟨z, rfl, pz⟩ := rsl1 pr
          exact ⟨z, rfl, pz, p1⟩
        · have := dd_len (flatN y); have := flatN_len y; have := namesM_len y
          omega
        · obtain ⟨l, ns, rfl, _, hl, hns⟩ := p3
          have hns : HDs H3 ns ((namesM y).map (rnM ps)) := by unfold HDs; rw [List.map_map]; exact hns
          have hl0 : ((namesM y).map (rnM ps)).length ≤ 60 := by
            have := dd_len (flatN y); have := flatN_len y; have := namesM_len y
            rw [List.length_map]
            omega
          have hl2 : ns.length = ((namesM y).map (rnM ps)).length := by
            have := hns.length
            simpa using this
          have inj : ((namesM y).map (rnM ps)).Nodup := pre.inj
          have hl1 : (dd ((namesM y).map (rnM ps))).length = ns.length := by rw [dd_len_iff.mpr inj, hl2]
          refine wb_cons (ws_if (k := decide (((dd ((namesM y).map (rnM ps))).length : Int) < ns.length)) (pb_lt (pv_lenSet (α := Str) (xs := (namesM y).map (rnM ps)) rfl T.b_len T.b_set (pv_name 3 rfl) (sqr_var hl hns) (by omega)) (pv_lenV T.b_len (pv_name 3 rfl) (SqL.of hl))) (fun k => ?_) fun _ H4 s4 => wb_nil ?_)
          · rw [hl1] at k
            exact absurd (of_decide_eq_true k) (Int.lt_irrefl _)
          · have hv4 := hv2.same (s3.trans s4)
            have ha4 := (s3.trans s4) _ _ ha2
            refine wb_cons (ws_lc0 (i0 := 4) (g := gTup K 4 (gCons (gName 6) (gCons (gName 7) (gCons (gName 8) (gCons (gName 9) gNil))))) (xs := y) (enc := Datum.toD) (f := fun b => Datum.toD (renB ps b)) rfl sc_renamed.nd (PIt.weak (pit_tup (pv_dat 0 rfl hv4))) (blkOk_by (own := [("one", 6), ("end", 7), ("other", 8), ("place", 9)]) rfl)
              (fun _ _ _ _ _ => pgT4 sc_renamed.nd rfl 6 7 8 9) (by omega) (fun b v' H5 hb h1 dv => gto_t4 dv fun v1 v2 v3 v4 d1 d2 d3 d4 => ⟨rfl, fun s0 H0 C cl fp => ?_⟩) fun v5 H5 s5 p5 => ?_)
            · exact pv_tup (pad_cons (pv_dget2 (pv_name 2 rfl) (h1 _ _ ha4) (pv_dat 6 rfl d1) (pv_dat 6 rfl d1) (table_get pre.nd b.a)) (pad_cons (pv_dat 7 rfl d2) (pad_cons (pv_dget2 (pv_name 2 rfl) (h1 _ _ ha4) (pv_dat 8 rfl d3) (pv_dat 8 rfl d3) (table_get pre.nd b.c)) (pad_cons (pv_dat 9 rfl d4) pad_nil))))
            · obtain ⟨m, rs, rfl, _, hm, hrs⟩ := p5
              have hrs : HDs H5 rs (y.map (renB ps)) := by unfold HDs; rw [List.map_map]; exact hrs
              exact wb_one (ws_ret (r := .t (Tup.mk (renamedM y ps))) (pv_tupleN T.b_tuple (pv_sortV (xs := y.map (renB ps)) T.b_sorted (pv_name 4 rfl) hm hrs (sortable_bond _))) fun v6 H6 s6 p6 => q v6 H6 (s1.trans (s2.trans (s3.trans (s4.trans (s5.trans s6))))) p6)
end
end Bx
set_option Elab.async false
set_option linter.all false
set_option maxRecDepth 100000
/-! M0: walks, the search for the rings. -/
namespace Bx
open PySem
open PySem.W (Datum DatumOrd T3 T4 Tup)
/-- bonds one behind the other, from a to z -/
def Wk : Str → List Bond → Str → Prop
  | a, [], z => a = z
  | a, b :: r, z => b.a = a ∧ Wk b.c r z
theorem wk_append {a z : Str} : ∀ {u v : List Bond}, Wk a (u ++ v) z ↔ ∃ m, Wk a u m ∧ Wk m v z
  | [], v => ⟨fun h => ⟨a, rfl, h⟩, fun ⟨m, e, h⟩ => by cases e; exact h⟩
  | b :: u, v => by
    show (b.a = a ∧ Wk b.c (u ++ v) z) ↔ _
    rw [wk_append (u := u)]
    exact ⟨fun ⟨h, m, h1, h2⟩ => ⟨m, ⟨h, h1⟩, h2⟩, fun ⟨m, ⟨h, h1⟩, h2⟩ => ⟨h, m, h1, h2⟩⟩
theorem wk_fun {a : Str} : ∀ {u : List Bond} {x y : Str}, Wk a u x → Wk a u y → x = y
  | [], _, _, h1, h2 => h1.symm.trans h2
  | _ :: u, _, _, h1, h2 => wk_fun (u := u) h1.2 h2.2
/-- the last name -/
def goalB (x : Bond) (r : List Bond) : Str := ((x :: r).getLast (by simp)).c
theorem wk_goal : ∀ {x : Bond} {r : List Bond} {a z : Str}, Wk a (x :: r) z → goalB x r = z
  | x, [], _, _, h => h.2
  | x, y :: r, _, _, h => wk_goal (x := y) (r := r) h.2
/-- a walk that may become a ring: it begins with its least bond, its names are all different -/
structure PathOk (P : List Bond) (x : Bond) (r : List Bond) : Prop where
  mem : ∀ b ∈ x :: r, b ∈ P
  wk : Wk x.a (x :: r) (goalB x r)
  nd : (ringN (x :: r)).Nodup
  first : ∀ b ∈ r, DatumOrd.lt x b = true
def extsB (P : List Bond) (x : Bond) (r : List Bond) : List Bond := P.filter fun b => decide (b.a = goalB x r) && DatumOrd.lt x b
def explore (P : List Bond) (x : Bond) : Nat → List Bond → List Pat
  | 0, _ => []
  | n + 1, r => if goalB x r = x.a then [Tup.mk (x :: r)] else if goalB x r ∈ ringN (x :: r) then [] else ((extsB P x r).map fun b => explore P x n (r ++ [b])).flatten
/-- what is found below a path -/
def below (P : List Bond) : Pat → List Pat
  | ⟨[]⟩ => []
  | ⟨x :: r⟩ => explore P x (5 - r.length) r
theorem goalB_snoc (x : Bond) (r : List Bond) (b : Bond) : goalB x (r ++ [b]) = b.c := by
  unfold goalB
  congr 1
  exact List.getLast_concat (l := x :: r)
theorem PathOk.snoc {P : List Bond} {x : Bond} {r : List Bond} (h : PathOk P x r) {b : Bond} (hb : b ∈ extsB P x r) (hg : goalB x r ∉ ringN (x :: r)) : PathOk P x (r ++ [b]) := by
  obtain ⟨hP, hq⟩ := List.mem_filter.mp hb
  rw [Bool.and_eq_true] at hq
  have ha := of_decide_eq_true hq.1
  refine ⟨fun c hc => ?_, ?_, ?_, fun c hc => ?_⟩
  · rw [← List.cons_append, List.mem_append, List.mem_singleton] at hc
    exact hc.elim (h.mem c) fun e => e ▸ hP
  · rw [goalB_snoc, ← List.cons_append, wk_append]
    exact ⟨_, h.wk, ha, rfl⟩
  · unfold ringN
    rw [← List.cons_append, List.map_append, List.nodup_append]
    refine ⟨h.nd, by simp, fun y hy z hz e => hg ?_⟩
    simp only [List.map_cons, List.map_nil, List.mem_singleton] at hz
    rw [← ha, ← hz, ← e]
    exact hy
  · rw [List.mem_append, List.mem_singleton] at hc
    exact hc.elim (h.first c) fun e => e ▸ hq.2
theorem PathOk.len {P : List Bond} {x : Bond} {r : List Bond} (h : PathOk P x r) (h5 : (dd (flatN P)).length ≤ 5) : r.length ≤ 4 := by
  have := nodup_len (m := namesM P) h.nd fun y hy => by
    obtain ⟨b, hb, rfl⟩ := List.mem_map.mp hy
    exact namesM_mem.mpr ⟨b, h.mem b hb, .inl rfl⟩
  unfold ringN at this
  rw [List.length_map, List.length_cons, namesM_len] at this
  omega
/-- the steps of the search -/
theorem below_closed {P : List Bond} {x : Bond} {r : List Bond} (h : r.length ≤ 4) (e : goalB x r = x.a) : below P ⟨x :: r⟩ = [Tup.mk (x :: r)] := by
  show explore P x (5 - r.length) r = _
  rw [show 5 - r.length = (4 - r.length) + 1 by omega]
  exact if_pos e
theorem below_dead {P : List Bond} {x : Bond} {r : List Bond} (h : r.length ≤ 4) (e : ¬ goalB x r = x.a) (d : goalB x r ∈ ringN (x :: r)) : below P ⟨x :: r⟩ = [] := by
  show explore P x (5 - r.length) r = _
  rw [show 5 - r.length = (4 - r.length) + 1 by omega]
  exact (if_neg e).trans (if_pos d)
theorem below_more {P : List Bond} {x : Bond} {r : List Bond} (h : r.length ≤ 4) (e : ¬ goalB x r = x.a) (d : ¬ goalB x r ∈ ringN (x :: r)) : below P ⟨x :: r⟩ = (((extsB P x r).map fun b => Tup.mk (x :: (r ++ [b]))).map (below P)).flatten := by
  rw [List.map_map]
  have e1 : (below P ∘ fun b => Tup.mk (x :: (r ++ [b]))) = fun b => explore P x (4 - r.length) (r ++ [b]) := by
    funext b
    show explore P x (5 - (r ++ [b]).length) (r ++ [b]) = _
    rw [List.length_append, List.length_singleton, show 5 - (r.length + 1) = 4 - r.length by omega]
  rw [e1]
  show explore P x (5 - r.length) r = _
  rw [show 5 - r.length = (4 - r.length) + 1 by omega]
  exact (if_neg e).trans (if_neg d)
def belowL (P : List Bond) (ps : List Pat) : List Pat := (ps.map (below P)).flatten
theorem belowL_append {P : List Bond} (a b : List Pat) : belowL P (a ++ b) = belowL P a ++ belowL P b := by unfold belowL; rw [List.map_append, List.flatten_append]
theorem belowL_one {P : List Bond} (a : Pat) : belowL P [a] = below P a := by unfold belowL; simp
def ringsM (P : List Bond) : List Pat := sortO (belowL P (P.map fun b => Tup.mk [b]))
/-- the search, at work -/
def wt : List Pat → Nat
  | [] => 0
  | p :: ps => 9 ^ (6 - p.items.length) + wt ps
theorem wt_append : ∀ a b : List Pat, wt (a ++ b) = wt a + wt b
  | [], b => (Nat.zero_add _).symm
  | p :: a, b => by
    show 9 ^ _ + wt (a ++ b) = _ + _ + _
    rw [wt_append a b, Nat.add_assoc]
theorem wt_same {n : Nat} : ∀ {a : List Pat}, (∀ p ∈ a, p.items.length = n) → wt a = a.length * 9 ^ (6 - n)
  | [], _ => by simp [wt]
  | p :: a, h => by
    show 9 ^ _ + wt a = _
    rw [wt_same fun q hq => h q (List.mem_cons_of_mem _ hq), h p List.mem_cons_self, List.length_cons, Nat.add_mul, Nat.one_mul, Nat.add_comm]
theorem wt_len : ∀ a : List Pat, a.length ≤ wt a
  | [] => Nat.le_refl _
  | p :: a => by
    show a.length + 1 ≤ 9 ^ _ + wt a
    have := wt_len a
    have : 0 < 9 ^ (6 - p.items.length) := Nat.pow_pos (by decide)
    omega
structure SrchOk (P : List Bond) (found rest : List Pat) : Prop where
  ok : ∀ p ∈ rest, ∃ x r, p = ⟨x :: r⟩ ∧ PathOk P x r
  pm : (found ++ belowL P rest).Perm (belowL P (P.map fun b => Tup.mk [b]))
  wgt : wt rest ≤ 8 * 9 ^ 5
theorem path_one {P : List Bond} (wf : ∀ b ∈ P, WfB b) {b : Bond} (hb : b ∈ P) : PathOk P b [] := by
  refine ⟨fun c hc => ?_, ⟨rfl, rfl⟩, by unfold ringN; simp, fun c hc => by cases hc⟩
  rw [List.mem_singleton] at hc
  exact hc ▸ hb
theorem SrchOk.start {P : List Bond} (ok : PatOk P) : SrchOk P [] (P.map fun b => Tup.mk [b]) := by
  refine ⟨fun p hp => ?_, by rw [List.nil_append], ?_⟩
  · obtain ⟨b, hb, rfl⟩ := List.mem_map.mp hp
    exact ⟨b, [], rfl, path_one ok.wf hb⟩
  · rw [wt_same (n := 1) fun p hp => by
      obtain ⟨b, _, rfl⟩ := List.mem_map.mp hp
      rfl]
    rw [List.length_map]
    exact Nat.mul_le_mul_right _ ok.few
section
variable {P : List Bond} {found rest : List Pat} {x : Bond} {r : List Bond}
theorem SrchOk.popped (h : SrchOk P found (rest ++ [⟨x :: r⟩])) : PathOk P x r := by
  obtain ⟨y, q, e, k⟩ := h.ok ⟨x :: r⟩ (List.mem_append_right _ (List.mem_singleton.mpr rfl))
  injection e with e
  injection e with e1 e2
  subst e1 e2
  exact k
theorem SrchOk.closed (h : SrchOk P found (rest ++ [⟨x :: r⟩])) (ok : PatOk P) (e : goalB x r = x.a) : SrchOk P (found ++ [⟨x :: r⟩]) rest ∧ wt rest < wt (rest ++ [⟨x :: r⟩]) := by
  have k := h.popped
  have w : wt rest < wt (rest ++ [⟨x :: r⟩]) := by
    rw [wt_append]
    have : 0 < wt [(⟨x :: r⟩ : Pat)] := wt_len [(⟨x :: r⟩ : Pat)]
    omega
  refine ⟨⟨fun p hp => h.ok p (List.mem_append_left _ hp), ?_, Nat.le_trans (Nat.le_of_lt w) h.wgt⟩, w⟩
  refine List.Perm.trans ?_ h.pm
  rw [belowL_append, belowL_one, below_closed (k.len ok.names) e, List.append_assoc]
  exact List.Perm.append_left _ List.perm_append_comm
theorem SrchOk.dead (h : SrchOk P found (rest ++ [⟨x :: r⟩])) (ok : PatOk P) (e : ¬ goalB x r = x.a) (d : goalB x r ∈ ringN (x :: r)) : SrchOk P found rest ∧ wt rest < wt (rest ++ [⟨x :: r⟩]) := by
  have k := h.popped
  have w : wt rest < wt (rest ++ [⟨x :: r⟩]) := by
    rw [wt_append]
    have : 0 < wt [(⟨x :: r⟩ : Pat)] := wt_len [(⟨x :: r⟩ : Pat)]
    omega
  refine ⟨⟨fun p hp => h.ok p (List.mem_append_left _ hp), ?_, Nat.le_trans (Nat.le_of_lt w) h.wgt⟩, w⟩
  refine List.Perm.trans ?_ h.pm
  rw [belowL_append, belowL_one, below_dead (k.len ok.names) e d, List.append_nil]
theorem SrchOk.more (h : SrchOk P found (rest ++ [⟨x :: r⟩])) (ok : PatOk P) (e : ¬ goalB x r = x.a) (d : ¬ goalB x r ∈ ringN (x :: r)) : SrchOk P found (rest ++ (extsB P x r).map fun b => Tup.mk (x :: (r ++ [b]))) ∧ wt (rest ++ (extsB P x r).map fun b => Tup.mk (x :: (r ++ [b]))) < wt (rest ++ [⟨x :: r⟩]) := by
  have k := h.popped
  have hl := k.len ok.names
  have w : wt (rest ++ (extsB P x r).map fun b => Tup.mk (x :: (r ++ [b]))) < wt (rest ++ [⟨x :: r⟩]) := by
    rw [wt_append, wt_append, wt_same (n := r.length + 2) (a := (extsB P x r).map fun b => Tup.mk (x :: (r ++ [b]))) fun p hp => by
      obtain ⟨b, _, rfl⟩ := List.mem_map.mp hp
      simp]
    have h8 : (extsB P x r).length ≤ 8 := Nat.le_trans (List.length_filter_le _ _) ok.few
    have e1 : wt [(⟨x :: r⟩ : Pat)] = 9 * 9 ^ (6 - (r.length + 2)) := by
      show 9 ^ (6 - (r.length + 1)) + 0 = _
      rw [Nat.add_zero, show 6 - (r.length + 1) = (6 - (r.length + 2)) + 1 by omega, Nat.pow_succ, Nat.mul_comm]
    rw [e1, List.length_map]
    have hp : 0 < 9 ^ (6 - (r.length + 2)) := Nat.pow_pos (by decide)
    have := Nat.mul_le_mul_right (9 ^ (6 - (r.length + 2))) h8
    omega
  refine ⟨⟨fun p hp => ?_, ?_, Nat.le_trans (Nat.le_of_lt w) h.wgt⟩, w⟩
  · rw [List.mem_append] at hp
    refine hp.elim (fun hp => h.ok p (List.mem_append_left _ hp)) fun hp => ?_
    obtain ⟨b, hb, rfl⟩ := List.mem_map.mp hp
    exact ⟨x, r ++ [b], rfl, k.snoc hb d⟩
  · refine List.Perm.trans ?_ h.pm
    rw [belowL_append, belowL_append, belowL_one, below_more hl e d]
    exact List.Perm.refl _
theorem SrchOk.done (h : SrchOk P found []) : sortO found = ringsM P := by
  have := h.pm
  unfold ringsM
  rw [← sortO_of this]
  unfold belowL
  simp
end
/-- few enough -/
theorem explore_len {P : List Bond} (h : P.length ≤ 8) (x : Bond) : ∀ n r, (explore P x n r).length ≤ 8 ^ n
  | 0, _ => Nat.zero_le _
  | n + 1, r => by
    unfold explore
    have hp : 1 ≤ 8 ^ (n + 1) := Nat.pow_pos (by decide)
    by_cases h1 : goalB x r = x.a
    · rw [if_pos h1]; exact hp
    · rw [if_neg h1]
      by_cases h2 : goalB x r ∈ ringN (x :: r)
      · rw [if_pos h2]; exact Nat.zero_le _
      · rw [if_neg h2]
        have go : ∀ l : List Bond, (l.map fun b => explore P x n (r ++ [b])).flatten.length ≤ l.length * 8 ^ n := by
          intro l
          induction l with
          | nil => exact Nat.zero_le _
          | cons b l ih =>
            rw [List.map_cons, List.flatten_cons, List.length_append, List.length_cons, Nat.add_mul, Nat.one_mul]
            have := explore_len h x n (r ++ [b])
            omega
        have h8 : (extsB P x r).length ≤ 8 := Nat.le_trans (List.length_filter_le _ _) h
        have := go (extsB P x r)
        have := Nat.mul_le_mul_right (8 ^ n) h8
        rw [Nat.pow_succ]
        omega
theorem all_len {P : List Bond} (h : P.length ≤ 8) : (belowL P (P.map fun b => Tup.mk [b])).length ≤ 262144 := by
  have go : ∀ l : List Bond, (belowL P (l.map fun b => Tup.mk [b])).length ≤ l.length * 32768 := by
    intro l
    induction l with
    | nil => exact Nat.zero_le _
    | cons b l ih =>
      unfold belowL at ih ⊢
      rw [List.map_cons, List.map_cons, List.flatten_cons, List.length_append, List.length_cons, Nat.add_mul, Nat.one_mul]
      have := explore_len h b 5 []
      have e : below P ⟨[b]⟩ = explore P b 5 [] := rfl
      rw [e]
      omega
  have := go P
  omega
theorem SrchOk.few {P : List Bond} {found rest : List Pat} (h : SrchOk P found rest) (ok : PatOk P) : found.length ≤ 262144 := by
  have := h.pm.length_eq
  rw [List.length_append] at this
  have := all_len ok.few
  omega
/-! ### which they are -/
structure RingOk (P : List Bond) (x : Bond) (r : List Bond) : Prop where
  path : PathOk P x r
  closed : goalB x r = x.a
theorem explore_sound {P : List Bond} {x : Bond} : ∀ {n : Nat} {r : List Bond} {q : Pat}, PathOk P x r → q ∈ explore P x n r → ∃ s, q = ⟨x :: (r ++ s)⟩ ∧ RingOk P x (r ++ s)
  | 0, r, q, _, h => by cases h
  | n + 1, r, q, k, h => by
    unfold explore at h
    by_cases h1 : goalB x r = x.a
    · rw [if_pos h1, List.mem_singleton] at h
      exact ⟨[], by rw [List.append_nil]; exact h, by rw [List.append_nil]; exact ⟨k, h1⟩⟩
    · rw [if_neg h1] at h
      by_cases h2 : goalB x r ∈ ringN (x :: r)
      · rw [if_pos h2] at h; cases h
      · rw [if_neg h2] at h
        obtain ⟨l, hl, hq⟩ := List.mem_flatten.mp h
        obtain ⟨b, hb, rfl⟩ := List.mem_map.mp hl
        obtain ⟨s, e, o⟩ := explore_sound (n := n) (k.snoc hb h2) hq
        rw [List.append_assoc] at e o
        exact ⟨b :: s, e, o⟩
theorem PathOk.ringN_in {P : List Bond} {x : Bond} {r : List Bond} {y : Str} (hy : y ∈ ringN (x :: r)) : ∃ b ∈ x :: r, b.a = y := List.mem_map.mp hy
theorem explore_complete {P : List Bond} {x : Bond} : ∀ {n : Nat} {r s : List Bond}, RingOk P x (r ++ s) → s.length < n → (⟨x :: (r ++ s)⟩ : Pat) ∈ explore P x n r
  | 0, _, _, _, h => absurd h (Nat.not_lt_zero _)
  | n + 1, r, [], k, h => by
    unfold explore
    rw [List.append_nil] at k ⊢
    rw [if_pos k.closed]
    exact List.mem_singleton.mpr rfl
  | n + 1, r, b :: s, k, h => by
    have kp := k.path
    have hw := kp.wk
    rw [← List.cons_append, wk_append] at hw
    obtain ⟨m, h1, h2⟩ := hw
    have hg : goalB x r = m := wk_goal h1
    have hb : b.a = goalB x r := by rw [hg]; exact h2.1
    have nd := kp.nd
    unfold ringN at nd
    rw [← List.cons_append, List.map_append, List.nodup_append] at nd
    have hn : goalB x r ∉ ringN (x :: r) := fun q => nd.2.2 _ q b.a (by rw [List.map_cons]; exact List.mem_cons_self) hb.symm
    have hc : ¬ goalB x r = x.a := fun e => hn (by rw [e]; exact List.mem_cons_self)
    unfold explore
    rw [if_neg hc, if_neg hn]
    refine List.mem_flatten.mpr ⟨_, List.mem_map.mpr ⟨b, List.mem_filter.mpr ⟨kp.mem b (by simp), ?_⟩, rfl⟩, ?_⟩
    · rw [decide_eq_true hb, Bool.true_and]
      exact kp.first b (by simp)
    · have e : r ++ b :: s = (r ++ [b]) ++ s := by simp
      rw [e] at k ⊢
      exact explore_complete (n := n) k (by rw [List.length_cons] at h; omega)
theorem mem_ringsM {P : List Bond} (ok : PatOk P) {q : Pat} : q ∈ ringsM P ↔ ∃ x r, q = ⟨x :: r⟩ ∧ RingOk P x r := by
  unfold ringsM
  rw [mem_sortO]
  unfold belowL
  rw [List.mem_flatten]
  constructor
  · rintro ⟨l, hl, hq⟩
    obtain ⟨p, hp, rfl⟩ := List.mem_map.mp hl
    obtain ⟨b, hb, rfl⟩ := List.mem_map.mp hp
    obtain ⟨s, e, o⟩ := explore_sound (n := 5) (r := []) (path_one ok.wf hb) hq
    exact ⟨b, s, e, o⟩
  · rintro ⟨x, r, rfl, o⟩
    have hx := o.path.mem x List.mem_cons_self
    have hl := o.path.len ok.names
    exact ⟨_, List.mem_map.mpr ⟨_, List.mem_map.mpr ⟨x, hx, rfl⟩, rfl⟩, explore_complete (n := 5) (r := []) o (by omega)⟩
end Bx
set_option Elab.async false
set_option linter.all false
set_option maxRecDepth 100000
set_option maxHeartbeats 4000000
/-! E1: rings, how_many_rings. -/
namespace Bx
open PySem PySem.Spec PyProof.Rows L2
open PySem.W (Datum DatumOrd Holds HoldAll T3 T4 Tup EachIs minOf)
theorem HDs.getLast {α : Type} [DecidableEq α] [Datum α] {H : Hp} {vs : List V} {xs : List α} {x : α} (h : HDs H vs (xs ++ [x])) : ∃ us u, vs = us ++ [u] ∧ HDs H us xs ∧ HD H u x := by
  induction xs generalizing vs with
  | nil =>
    cases h with
    | cons h1 h2 => cases h2; exact ⟨[], _, rfl, .nil, h1⟩
  | cons y ys ih =>
    cases h with
    | cons h1 h2 =>
      obtain ⟨us, u, rfl, a, b⟩ := ih h2
      exact ⟨_ :: us, u, rfl, .cons h1 a, b⟩
theorem HDs.app {α : Type} [DecidableEq α] [Datum α] {H : Hp} {vs ws : List V} {xs ys : List α} (h : HDs H vs xs) (k : HDs H ws ys) : HDs H (vs ++ ws) (xs ++ ys) := by
  unfold HDs at h k ⊢
  rw [List.map_append]
  exact h.append k
section
variable {P : Program} {w : World} {K : PySem.W.Frag} {mg : Str → Option Value} {base : Heap}
abbrev spRings : Sp := spY (fun (y : List Bond) vs H => ∃ v, vs = [v] ∧ HD H v (Tup.mk y) ∧ PatOk y) fun y => .ts (ringsM y)
/-- the loops' word -/
structure RgW (H : Hp) (y : List Bond) (v1 : V) (F R : Addr) (fs rs : List V) (found rest : List Pat) (H' : Hp) : Prop where
  s : Same H H'
  v1 : HD H' v1 (Tup.mk y)
  f : H' F = some (.lst fs)
  fh : HDs H' fs found
  r : H' R = some (.lst rs)
  rh : HDs H' rs rest
theorem RgW.same {H : Hp} {y : List Bond} {v1 : V} {F R : Addr} {fs rs : List V} {found rest : List Pat} {H1 H2 : Hp} (h : RgW H y v1 F R fs rs found rest H1) (s : Same H1 H2) : RgW H y v1 F R fs rs found rest H2 :=
  ⟨h.s.trans s, h.v1.same s, s _ _ h.f, h.fh.same s, s _ _ h.r, h.rh.same s⟩
theorem RgW.setR {H : Hp} {y : List Bond} {v1 : V} {F R : Addr} {fs rs ts : List V} {found rest tests : List Pat} {H1 : Hp} (h : RgW H y v1 F R fs rs found rest H1) (nR : H R = none) (hne : F ≠ R) (ht : HDs H1 ts tests) : RgW H y v1 F R fs ts found tests (L2.upd H1 R (.lst ts)) := by
  have t := TK.updL (o := .lst ts) h.r
  exact ⟨Same.updN h.s nR, h.v1.ts t, by rw [upd_ne hne]; exact h.f, h.fh.ts t, upd_same, ht.ts t⟩
theorem RgW.setF {H : Hp} {y : List Bond} {v1 : V} {F R : Addr} {fs rs ts : List V} {found rest tests : List Pat} {H1 : Hp} (h : RgW H y v1 F R fs rs found rest H1) (nF : H F = none) (hne : F ≠ R) (ht : HDs H1 ts tests) : RgW H y v1 F R ts rs tests rest (L2.upd H1 F (.lst ts)) := by
  have t := TK.updL (o := .lst ts) h.f
  exact ⟨Same.updN h.s nF, h.v1.ts t, upd_same, ht.ts t, by rw [upd_ne (Ne.symm hne)]; exact h.r, h.rh.ts t⟩
theorem ok_rings (T : Txt K mg) : Dfn P w K mg base 4 "rings" ["pattern"] spRings := by
  refine dfn_of T.h_rings sc_rings (fun vs H Q E h => ?_) (fun f cdv A outer s H vs Q E hr h => ?_)
  · obtain ⟨_, ⟨_, rfl, _⟩, _⟩ := h; rfl
  · obtain ⟨y, ⟨v, rfl, hv, ok⟩, q⟩ := h
    have hu := hr.units
    have few := ok.few
    refine wb_cons (ws_par3N 1 2 3 sc_rings.nd rfl (pv_cal (ok_tupled T 2) hr (pas_cons (pv_dat 0 rfl hv) pas_nil) (Datum.toD (Tup.mk y)) fun H0 H' vs s0 s1 pr => ?_) fun v1 F R H1 s1 p1 nF nR hne hF hR => ?_)
    · obtain ⟨z, rfl, pz⟩ := rsl1 pr
      exact ⟨⟨z, rfl, pz⟩, flat_pat (by omega) 0⟩
    · have p1 : HD H1 v1 (Tup.mk y) := p1
      refine wb_cons (ws_forH (g := gName 4) (ds := y.map Datum.toD) PassesOwn.never rfl (pit_tup (pv_dat 1 rfl p1)) (pg_name (i := 4) sc_rings.nd rfl (Or.inl rfl))
        (fun H2 i σ' H' => TK H2 H' ∧ ∃ rs o, σ' = [some v, some v1, some (.ref F), some (.ref R), o, none, none] ∧ RgW H y v1 F R [] rs [] ((y.take i).map fun b => Tup.mk [b]) H')
        (fun H2 s2 => ⟨TK.refl _, [], _, rfl, ⟨s1.trans s2, p1.same s2, s2 _ _ hF, .nil, s2 _ _ hR, .nil⟩⟩) (fun H2 i σ' H' s2 _ p => p.1) (fun H2 i d x σ' H' s2 hd p H'' s3 dx => ?_) fun H2 σ' H' s2 p => ?_)
      · obtain ⟨t2, rs, o, rfl, W⟩ := p
        obtain ⟨b, hb, rfl⟩ := map_some hd
        have W := W.same s3
        have hi : i < y.length := (List.getElem?_eq_some_iff.mp hb).1
        have hl : rs.length = i := by
          have := W.rh.length
          rw [List.length_map, List.length_take] at this
          omega
        refine gto_name (wb_one (ws_append (r := .t (Tup.mk [b])) (pv_name 3 rfl) W.r (by omega) (pv_tup (pad_cons (pv_dat 4 rfl dx) pad_nil)) fun v2 H3 s4 p2 => ?_))
        have W3 := W.same s4
        refine ⟨(t2.trans (.same (s3.trans s4))).trans (TK.updL W3.r), rs ++ [v2], _, rfl, ?_⟩
        rw [take_succ' hb, List.map_append]
        exact W3.setR nR hne (W3.rh.app (.cons p2 .nil))
      · obtain ⟨_, rs, o, rfl, W⟩ := p
        rw [List.length_map, List.take_length] at W
        refine wb_cons (ws_while (k := fun _ _ => true) PassesOwn.never (fun m σ' H' => ∃ fs rs found rest o p g, m = wt rest ∧ σ' = [some v, some v1, some (.ref F), some (.ref R), o, p, g] ∧ RgW H y v1 F R fs rs found rest H' ∧ SrchOk y found rest) (wt (y.map fun b => Tup.mk [b])) ⟨[], rs, [], _, o, none, none, rfl, rfl, W, SrchOk.start ok⟩ fun m σ' H2 p => ?_)
        obtain ⟨fs, rs, found, rest, o, p, g, rfl, rfl, W, S⟩ := p
        refine ⟨decide ((0 : Int) < rs.length), pb_gt (pv_lenV T.b_len (pv_name 3 rfl) (SqL.of W.r)) pv_int, fun hk H3 s3 => ?_, fun hk H3 s3 => ?_⟩
        · have hk : (0 : Int) < rs.length := of_decide_eq_true hk
          have hrl : rs.length = rest.length := W.rh.length
          obtain ⟨rest, q, rfl⟩ : ∃ r0 q, rest = r0 ++ [q] := by
            rcases List.eq_nil_or_concat rest with e | ⟨r0, q, e⟩
            · rw [e, List.length_nil] at hrl; omega
            · exact ⟨r0, q, by rw [e, List.concat_eq_append]⟩
          obtain ⟨x, r, rfl, k⟩ := S.ok q (List.mem_append_right _ (List.mem_singleton.mpr rfl))
          have W := W.same s3
          obtain ⟨us, u, rfl, hus, hu0⟩ := W.rh.getLast
          refine wb_cons (ws_pop (i := 5) sc_rings.nd (pv_name 3 rfl) W.r List.getLast?_concat fun H4 s4 => ?_)
          have W4 := W.same s4
          rw [List.dropLast_concat]
          have W5 := W4.setR nR hne (hus.same s4)
          have hu5 : HD (L2.upd H4 R (.lst us)) u (Tup.mk (x :: r)) := (hu0.same s4).ts (TK.updL W4.r)
          have hu5 : DI (L2.upd H4 R (.lst us)) u (.tuple ((x :: r).map Datum.toD)) := hu5
          have eg : ((x :: r).map (Datum.toD (α := Bond))).getLast? = some (Datum.toD ((x :: r).getLast (by simp))) := by
            rw [List.getLast?_map, List.getLast?_eq_some_getLast (by simp)]; rfl
          refine wb_cons (ws_set (i := 6) (r := .s (goalB x r)) sc_rings.nd (pv_ixD (pv_ixD (pv_dat 5 rfl hu5) (pv_neg pv_int) (atI_last eg)) pv_int (atI_nat (k := 2) rfl)) fun v6 H6 s6 p6 => ?_)
          have W6 := W5.same s6
          have hu6 := hu5.same s6
          have ev6 := Rs.pS p6
          subst ev6
          refine wb_one (ws_if (k := decide (goalB x r = x.a)) (pb_eqT (α := Str) (pv_dat 6 rfl (DI.str _)) (pv_ixD (pv_ixD (pv_dat 5 rfl hu6) pv_int (atI_zero rfl)) pv_int (atI_zero rfl))) (fun hk H7 s7 => ?_) fun hk H7 s7 => ?_)
          · obtain ⟨S2, lt⟩ := S.closed ok (of_decide_eq_true hk)
            have W7 := W6.same s7
            have hfl : fs.length = found.length := W.fh.length
            have := S.few ok
            refine wb_one (ws_append (r := .t (Tup.mk (x :: r))) (pv_name 2 rfl) W7.f (by omega) (pv_dat 5 rfl (hu6.same s7)) fun v8 H8 s8 p8 => ?_)
            have W8 := W7.same s8
            exact ⟨_, lt, fs ++ [v8], us, _, _, _, _, _, rfl, rfl, W8.setF nF hne (W8.fh.app (.cons p8 .nil)), S2⟩
          · have hk := of_decide_eq_false hk
            have W7 := W6.same s7
            have hu7 := hu6.same s7
            refine wb_one (ws_if (k := !decide (goalB x r ∈ ringN (x :: r))) (pb_ninT (α := Str) (pv_dat 6 rfl (DI.str _)) (pv_cal (ok_ring_names T) hr (pas_cons (pv_dat 5 rfl hu7) pas_nil) (x :: r) fun H0 H' vs s0 s1 pr => ?_)) (fun hk2 H8 s8 => ?_) fun hk2 H8 s8 => wb_nil ?_)
            · obtain ⟨z, rfl, pz⟩ := rsl1 pr
              have := k.len ok.names
              exact ⟨z, rfl, pz, by rw [List.length_cons]; omega⟩
            · have hd : goalB x r ∉ ringN (x :: r) := by simpa using hk2
              obtain ⟨S2, lt⟩ := S.more ok hk hd
              have W8 := W7.same s8
              have hu8 := hu7.same s8
              have h8 : (extsB y x r).length ≤ 8 := Nat.le_trans (List.length_filter_le _ _) ok.few
              have hw := Nat.le_trans (wt_len _) S2.wgt
              have hul : us.length = rest.length := hus.length
              rw [List.length_append, List.length_map] at hw
              refine wb_one (ws_extend (ds := (extsB y x r).map fun b => Datum.toD (Tup.mk (x :: (r ++ [b])))) (pv_name 3 rfl) W8.r (by rw [List.length_map]; omega) (pv_lc1 (g := gName 4) (xs := y) (enc := Datum.toD) (p := fun b => decide (b.a = goalB x r) && DatumOrd.lt x b) (f := fun b => Datum.toD (Tup.mk (x :: (r ++ [b])))) rfl sc_rings.nd (PIt.weak (pit_tup (pv_dat 1 rfl W8.v1))) (blkOk_by (own := [("bond", 4)]) rfl)
                (fun _ _ _ _ _ => pg_name (i := 4) sc_rings.nd rfl (Or.inl rfl)) (by omega) (fun b v' H9 hb h1 dv => gto_name ⟨rfl, fun s0 H0 C cl fp => ?_, fun s0 H0 C cl fp _ => ?_⟩)) fun zs H9 s9 hz => ?_)
              · exact PBW.pb (pw_a (pb_eqT (α := Str) (pv_ixD (pv_dat 4 rfl dv) pv_int (atI_zero rfl)) (pv_dat 6 rfl (DI.str _))) fun _ => pw_a1 (pb_gtD (α := Bond) (pv_dat 4 rfl dv) (pv_ixD (pv_dat 5 rfl (hu8.same h1)) pv_int (atI_zero rfl))))
              · have e : Datum.toD (Tup.mk (x :: (r ++ [b]))) = PyData.tuple ((x :: r).map Datum.toD ++ [Datum.toD b]) := by
                  show PyData.tuple ((x :: (r ++ [b])).map Datum.toD) = _
                  rw [← List.cons_append, List.map_append]; rfl
                rw [e]
                exact pv_tup (pad_star (pv_dat 5 rfl (hu8.same h1)) (pad_cons (pv_dat 4 rfl dv) pad_nil)) (by
                  have := k.len ok.names
                  rw [List.length_append, List.length_map, List.length_cons, List.length_singleton]; omega)
              · have W9 := W8.same s9
                have hz : HDs H9 zs ((extsB y x r).map fun b => Tup.mk (x :: (r ++ [b]))) := by
                  unfold HDs; rw [List.map_map]; exact hz
                exact ⟨_, lt, fs, us ++ zs, _, _, _, _, _, rfl, rfl, W9.setR nR hne (W9.rh.app hz), S2⟩
            · have hd : goalB x r ∈ ringN (x :: r) := by simpa using hk2
              obtain ⟨S2, lt⟩ := S.dead ok hk hd
              exact ⟨_, lt, fs, us, _, _, _, _, _, rfl, rfl, W7.same s8, S2⟩
        · have hk := of_decide_eq_false hk
          have W := W.same s3
          have e : rest = [] := by
            have := W.rh.length
            exact List.eq_nil_of_length_eq_zero (by omega)
          subst e
          refine wb_one (ws_ret (r := .ts (ringsM y)) (PV.is (pv_sortV (xs := found) T.b_sorted (pv_name 2 rfl) W.f W.fh (sortable_pat fun q hq => by
            rw [← mem_sortO, S.done] at hq
            obtain ⟨x, r, rfl, _⟩ := (mem_ringsM ok).mp hq
            exact List.cons_ne_nil _ _)) (by rw [S.done])) fun v4 H4 s4 p4 => q v4 H4 (W.s.trans s4) (Rs.down p4 W.s))
end
end Bx
set_option Elab.async false
set_option linter.all false
set_option maxRecDepth 100000
/-! M1: the labels of the walks from a bond. -/
namespace Bx
open PySem
open PySem.W (Datum DatumOrd T3 T4 Tup)
abbrev Lab := T3 Int Int Pat
abbrev Bt := List (Bond × Lab)
def lab (bt : Bt) (b : Bond) : Option Lab := (bt.find? fun p => decide (p.1 = b)).map (·.2)
def putB (bt : Bt) (b : Bond) (t : Lab) : Bt := if (lab bt b).isSome = true then bt.map (fun p => if p.1 = b then (p.1, t) else p) else bt ++ [(b, t)]
theorem lab_cons {p : Bond × Lab} {bt : Bt} {b : Bond} : lab (p :: bt) b = if p.1 = b then some p.2 else lab bt b := by
  unfold lab
  rw [List.find?_cons]
  by_cases h : p.1 = b
  · rw [decide_eq_true h, if_pos h]; rfl
  · rw [decide_eq_false h, if_neg h]
theorem lab_none {b : Bond} : ∀ {bt : Bt}, lab bt b = none ↔ b ∉ bt.map (·.1)
  | [] => ⟨fun _ h => (nomatch h), fun _ => rfl⟩
  | p :: bt => by
    rw [lab_cons, List.map_cons, List.mem_cons]
    by_cases h : p.1 = b
    · rw [if_pos h]; exact ⟨fun z => (nomatch z), fun z => absurd (.inl h.symm) z⟩
    · rw [if_neg h, lab_none (bt := bt)]
      exact ⟨fun z q => q.elim (fun e => h e.symm) z, fun z q => z (.inr q)⟩
theorem lab_some {b : Bond} {bt : Bt} : (∃ t, lab bt b = some t) ↔ b ∈ bt.map (·.1) := by
  cases q : lab bt b with
  | none => exact ⟨fun ⟨t, h⟩ => (nomatch h), fun h => absurd h (lab_none.mp q)⟩
  | some t =>
    refine ⟨fun _ => ?_, fun _ => ⟨t, rfl⟩⟩
    by_cases h : b ∈ bt.map (·.1)
    · exact h
    · rw [lab_none.mpr h] at q; cases q
theorem lab_upd {b c : Bond} {t : Lab} : ∀ {bt : Bt}, lab (bt.map fun p => if p.1 = b then (p.1, t) else p) c = if c = b then (lab bt c).map fun _ => t else lab bt c
  | [] => by
    show (none : Option Lab) = _
    by_cases h : c = b
    · rw [if_pos h]; rfl
    · rw [if_neg h]; rfl
  | p :: bt => by
    rw [List.map_cons, lab_cons, lab_upd (bt := bt), lab_cons]
    by_cases h1 : p.1 = b
    · rw [if_pos h1]
      show (if p.1 = c then some t else _) = _
      by_cases h2 : p.1 = c
      · rw [if_pos h2, if_pos h2, if_pos (h2.symm.trans h1)]; rfl
      · rw [if_neg h2, if_neg h2]
    · rw [if_neg h1]
      by_cases h2 : p.1 = c
      · rw [if_pos h2, if_pos h2, if_neg (fun e => h1 (h2.trans e))]
      · rw [if_neg h2, if_neg h2]
theorem lab_snoc {b c : Bond} {t : Lab} : ∀ {bt : Bt}, lab (bt ++ [(b, t)]) c = (lab bt c).or (if c = b then some t else none)
  | [] => by
    rw [List.nil_append, lab_cons]
    show (if b = c then some t else none) = (if c = b then some t else none)
    by_cases h : c = b
    · rw [if_pos h, if_pos h.symm]
    · rw [if_neg h, if_neg (Ne.symm h)]
  | p :: bt => by
    rw [List.cons_append, lab_cons, lab_cons, lab_snoc (bt := bt)]
    by_cases h : p.1 = c
    · rw [if_pos h, if_pos h]; rfl
    · rw [if_neg h, if_neg h]
theorem lab_put {bt : Bt} {b c : Bond} {t : Lab} : lab (putB bt b t) c = if c = b then some t else lab bt c := by
  unfold putB
  cases q : lab bt b with
  | some u =>
    rw [if_pos (show (some u).isSome = true from rfl), lab_upd]
    by_cases h : c = b
    · rw [if_pos h, if_pos h, h, q]; rfl
    · rw [if_neg h, if_neg h]
  | none =>
    rw [if_neg (by decide), lab_snoc]
    by_cases h : c = b
    · rw [if_pos h, if_pos h, h, q]; rfl
    · rw [if_neg h, if_neg h, Option.or_none]
theorem put_keys {bt : Bt} {b : Bond} {t : Lab} (h : (bt.map (·.1)).Nodup) : ((putB bt b t).map (·.1)).Nodup := by
  unfold putB
  cases q : lab bt b with
  | some u =>
    rw [if_pos (show (some u).isSome = true from rfl), List.map_map]
    have e : ((fun p : Bond × Lab => p.1) ∘ fun p => if p.1 = b then (p.1, t) else p) = fun p => p.1 := by
      funext p
      show (if p.1 = b then (p.1, t) else p).1 = p.1
      by_cases h : p.1 = b
      · rw [if_pos h]
      · rw [if_neg h]
    rw [e]
    exact h
  | none =>
    rw [if_neg (by decide), List.map_append, List.nodup_append]
    refine ⟨h, by simp, fun x hx y hy e => lab_none.mp q ?_⟩
    simp only [List.map_cons, List.map_nil, List.mem_singleton] at hy
    rw [← hy, ← e]
    exact hx
/-! ### walks from a bond -/
def openT : List Bond → Int
  | x :: y :: r => turnI x y + openT (y :: r)
  | _ => 0
def labOf (w : List Bond) : Lab := ⟨openT w, w.length, ⟨w⟩⟩
inductive FW (P : List Bond) (first : Bond) : List Bond → Bond → Prop
  | one : first ∈ P → FW P first [first] first
  | snoc {w : List Bond} {near far : Bond} : FW P first w near → far ∈ P → far.a = near.c → FW P first (w ++ [far]) far
theorem openT_snoc (a b : Bond) : ∀ w : List Bond, openT (w ++ [a] ++ [b]) = openT (w ++ [a]) + turnI a b
  | [] => by
    show turnI a b + 0 = 0 + turnI a b
    rw [Int.add_comm]
  | [x] => by
    show turnI x a + (turnI a b + 0) = turnI x a + 0 + turnI a b
    omega
  | x :: y :: w => by
    show turnI x y + openT (y :: w ++ [a] ++ [b]) = turnI x y + openT (y :: w ++ [a]) + turnI a b
    rw [openT_snoc a b (y :: w), Int.add_assoc]
theorem turnI_nonneg (a b : Bond) : 0 ≤ turnI a b := by
  unfold turnI
  split <;> decide
section
variable {P : List Bond} {first : Bond}
theorem FW.ne {w : List Bond} {b : Bond} (h : FW P first w b) : w ≠ [] := by
  cases h with
  | one => exact List.cons_ne_nil _ _
  | snoc _ _ _ => exact List.append_ne_nil_of_right_ne_nil _ (List.cons_ne_nil _ _)
theorem FW.last {w : List Bond} {b : Bond} (h : FW P first w b) : ∃ u, w = u ++ [b] := by
  cases h with
  | one => exact ⟨[], rfl⟩
  | snoc _ _ _ => exact ⟨_, rfl⟩
theorem FW.mem {w : List Bond} {b : Bond} (h : FW P first w b) : ∀ c ∈ w, c ∈ P := by
  induction h with
  | one h => intro c hc; rw [List.mem_singleton] at hc; exact hc ▸ h
  | snoc h hf _ ih =>
    intro c hc
    rw [List.mem_append, List.mem_singleton] at hc
    exact hc.elim (ih c) fun e => e ▸ hf
theorem FW.lastMem {w : List Bond} {b : Bond} (h : FW P first w b) : b ∈ P := by
  obtain ⟨u, rfl⟩ := h.last
  exact h.mem b (by simp)
theorem FW.openT {w : List Bond} {b far : Bond} (h : FW P first w b) : Bx.openT (w ++ [far]) = Bx.openT w + turnI b far := by
  obtain ⟨u, rfl⟩ := h.last
  exact openT_snoc b far u
def ownL (near : Bond) (t : Lab) (far : Bond) : Lab := ⟨t.a + turnI near far, t.b + 1, ⟨t.c.items ++ [far]⟩⟩
theorem FW.own {w : List Bond} {near far : Bond} (h : FW P first w near) : ownL near (labOf w) far = labOf (w ++ [far]) := by
  unfold ownL labOf
  dsimp only
  rw [h.openT, List.length_append, List.length_singleton]
  rfl
theorem openT_nonneg : ∀ w : List Bond, 0 ≤ openT w
  | [] => Int.le_refl _
  | [_] => Int.le_refl _
  | x :: y :: r => by
    show 0 ≤ turnI x y + openT (y :: r)
    have := turnI_nonneg x y
    have := openT_nonneg (y :: r)
    omega
theorem openT_le : ∀ (w : List Bond) (c : Bond) (v : List Bond), openT (w ++ [c]) ≤ openT (w ++ c :: v)
  | [], c, [] => Int.le_refl _
  | [], c, d :: v => by
    show 0 ≤ turnI c d + openT (d :: v)
    have := turnI_nonneg c d
    have := openT_nonneg (d :: v)
    omega
  | [x], c, v => by
    show turnI x c + 0 ≤ turnI x c + openT (c :: v)
    have := openT_nonneg (c :: v)
    omega
  | x :: y :: w, c, v => by
    show turnI x y + openT (y :: w ++ [c]) ≤ turnI x y + openT (y :: w ++ c :: v)
    have := openT_le (y :: w) c v
    omega
/-- a shorter one with no more turns is less -/
theorem lt_lab {t u : Lab} (h1 : t.a ≤ u.a) (h2 : t.b < u.b) : DatumOrd.lt t u = true := by
  rw [lt3_eq]
  by_cases h : t.a = u.a
  · rw [if_pos h, if_neg (Int.ne_of_lt h2)]
    exact decide_eq_true h2
  · rw [if_neg h]
    exact decide_eq_true (show t.a < u.a by omega)
theorem le_ab {t u : Lab} (h : leO t u = true) : t.a < u.a ∨ (t.a = u.a ∧ t.b ≤ u.b) := by
  rw [leO_iff] at h
  rcases h with rfl | h
  · exact .inr ⟨rfl, Int.le_refl _⟩
  · rw [lt3_eq] at h
    by_cases e : t.a = u.a
    · rw [if_pos e] at h
      by_cases e2 : t.b = u.b
      · exact .inr ⟨e, by omega⟩
      · rw [if_neg e2] at h
        have : t.b < u.b := of_decide_eq_true h
        exact .inr ⟨e, by omega⟩
    · rw [if_neg e] at h
      exact .inl (of_decide_eq_true h)
/-! ### the labels' words -/
structure GB (P : List Bond) (first : Bond) (bt : Bt) : Prop where
  ky : (bt.map (·.1)).Nodup
  ok : ∀ b t, lab bt b = some t → t = labOf t.c.items ∧ FW P first t.c.items b ∧ t.c.items.Nodup
  pre : ∀ b t, lab bt b = some t → ∀ u c v, t.c.items = u ++ c :: v → ∃ t', lab bt c = some t' ∧ leO t' (labOf (u ++ [c])) = true
  base : ∃ t, lab bt first = some t ∧ leO t (labOf [first]) = true
def MonoB (bt bt' : Bt) : Prop := ∀ c t, lab bt c = some t → ∃ t', lab bt' c = some t' ∧ leO t' t = true
theorem MonoB.refl (bt : Bt) : MonoB bt bt := fun _ t h => ⟨t, h, leO_refl t⟩
theorem MonoB.trans {a b c : Bt} (h : MonoB a b) (k : MonoB b c) : MonoB a c := fun x t e => by
  obtain ⟨t1, e1, l1⟩ := h x t e
  obtain ⟨t2, e2, l2⟩ := k x t1 e1
  exact ⟨t2, e2, leO_tr _ _ _ l2 l1⟩
theorem MonoB.le {a b : Bt} (h : MonoB a b) {c : Bond} {u : Lab} (k : ∃ t, lab a c = some t ∧ leO t u = true) : ∃ t, lab b c = some t ∧ leO t u = true := by
  obtain ⟨t, e, l⟩ := k
  obtain ⟨t2, e2, l2⟩ := h c t e
  exact ⟨t2, e2, leO_tr _ _ _ l2 l⟩
def fars (P : List Bond) (near : Bond) : List Bond := P.filter fun b => decide (b.a = near.c)
def Dn (bt : Bt) (near : Bond) (t : Lab) (L : List Bond) : Prop := ∀ far ∈ L, ∃ t', lab bt far = some t' ∧ leO t' (ownL near t far) = true
theorem Dn.mono {a b : Bt} (h : MonoB a b) {near : Bond} {t : Lab} {L : List Bond} (d : Dn a near t L) : Dn b near t L := fun far hf => h.le (d far hf)
def DoneB (P : List Bond) (bt : Bt) (pend : Bond → Prop) : Prop := ∀ b t, lab bt b = some t → ¬ pend b → Dn bt b t (fars P b)
def Lv (k : Int) (bt : Bt) (S : List Bond) : Prop := ∀ b ∈ S, ∃ t, lab bt b = some t ∧ k ≤ t.b
def addB (l : List Bond) (b : Bond) : List Bond := if b ∈ l then l else l ++ [b]
theorem mem_addB {l : List Bond} {b c : Bond} : c ∈ addB l b ↔ c ∈ l ∨ c = b := by
  unfold addB
  by_cases h : b ∈ l
  · rw [if_pos h]; exact ⟨.inl, fun q => q.elim id fun e => e ▸ h⟩
  · rw [if_neg h, List.mem_append, List.mem_singleton]
def better (bt : Bt) (far : Bond) (own : Lab) : Bool := match lab bt far with
  | none => true
  | some u => DatumOrd.lt own u
def relax1 (near : Bond) (t : Lab) (st : Bt × List Bond) (far : Bond) : Bt × List Bond := if better st.1 far (ownL near t far) = true then (putB st.1 far (ownL near t far), addB st.2 far) else st
def relaxN (P : List Bond) (st : Bt × List Bond) (near : Bond) : Bt × List Bond := match lab st.1 near with
  | none => st
  | some t => (fars P near).foldl (relax1 near t) st
def roundB (P : List Bond) (st : Bt × List Bond) : Bt × List Bond := st.2.foldl (relaxN P) (st.1, [])
/-- what a step keeps -/
structure Stp (P : List Bond) (first : Bond) (st st' : Bt × List Bond) : Prop where
  g : GB P first st'.1
  mono : MonoB st.1 st'.1
  sub : ∀ b ∈ st.2, b ∈ st'.2
  chg : ∀ b, b ∉ st'.2 → lab st'.1 b = lab st.1 b
theorem Stp.refl {st : Bt × List Bond} (g : GB P first st.1) : Stp P first st st := ⟨g, MonoB.refl _, fun _ h => h, fun _ _ => rfl⟩
theorem Stp.trans {a b c : Bt × List Bond} (h : Stp P first a b) (k : Stp P first b c) : Stp P first a c := ⟨k.g, h.mono.trans k.mono, fun x hx => k.sub x (h.sub x hx), fun x hx => (k.chg x hx).trans (h.chg x fun q => hx (k.sub x q))⟩
theorem relax1_ok {st : Bt × List Bond} {near far : Bond} {t : Lab} (g : GB P first st.1) (hn : lab st.1 near = some t) (hf : far ∈ fars P near) (hne : far ≠ near) :
    Stp P first st (relax1 near t st far) ∧ lab (relax1 near t st far).1 near = some t ∧ (∃ t', lab (relax1 near t st far).1 far = some t' ∧ leO t' (ownL near t far) = true) ∧
    ∀ k : Int, k ≤ t.b → Lv (k + 1) st.1 st.2 → Lv (k + 1) (relax1 near t st far).1 (relax1 near t st far).2 := by
  obtain ⟨hP, ha⟩ := List.mem_filter.mp hf
  have ha := of_decide_eq_true ha
  obtain ⟨et, fw, nd⟩ := g.ok near t hn
  have eo : ownL near t far = labOf (t.c.items ++ [far]) := by
    rw [et]
    exact fw.own
  unfold relax1
  by_cases hb : better st.1 far (ownL near t far) = true
  · rw [if_pos hb]
    have fw2 := fw.snoc hP ha
    have nf : far ∉ t.c.items := fun hm => by
      obtain ⟨u, v, e⟩ := List.append_of_mem hm
      obtain ⟨t', h1, h2⟩ := g.pre near t hn u far v e
      unfold better at hb
      rw [h1] at hb
      have l1 : DatumOrd.lt (labOf (u ++ [far])) (ownL near t far) = true := by
        rw [eo]
        refine lt_lab ?_ ?_
        · show openT (u ++ [far]) ≤ openT (t.c.items ++ [far])
          rw [e, List.append_assoc, List.cons_append]
          exact openT_le u far (v ++ [far])
        · show ((u ++ [far]).length : Int) < ((t.c.items ++ [far]).length : Int)
          rw [e]
          simp only [List.length_append, List.length_cons, List.length_nil]
          omega
      have l2 := leO_tr _ _ _ h2 (leO_iff.mpr (.inr l1))
      unfold leO at l2
      have hb : DatumOrd.lt (ownL near t far) t' = true := hb
      rw [hb] at l2
      cases l2
    have mono : MonoB st.1 (putB st.1 far (ownL near t far)) := fun c u hc => by
      rw [lab_put]
      by_cases h : c = far
      · rw [if_pos h]
        refine ⟨_, rfl, ?_⟩
        unfold better at hb
        rw [← h, hc] at hb
        rw [← h]
        exact leO_iff.mpr (.inr hb)
      · rw [if_neg h]
        exact ⟨u, hc, leO_refl u⟩
    refine ⟨⟨⟨put_keys g.ky, fun b u hb2 => ?_, fun b u hb2 p c v e => ?_, mono.le g.base⟩, mono, fun b hb2 => mem_addB.mpr (.inl hb2), fun b hb2 => ?_⟩, ?_, ?_, fun k hk lv b hb2 => ?_⟩
    · rw [lab_put] at hb2
      by_cases h : b = far
      · rw [if_pos h] at hb2
        cases hb2
        subst h
        rw [eo]
        exact ⟨rfl, fw2, List.nodup_append.mpr ⟨nd, by simp, fun x hx y hy e => nf (by rw [List.mem_singleton] at hy; rw [← hy, ← e]; exact hx)⟩⟩
      · rw [if_neg h] at hb2
        exact g.ok b u hb2
    · rw [lab_put] at hb2
      by_cases h : b = far
      · rw [if_pos h] at hb2
        cases hb2
        have e : t.c.items ++ [far] = p ++ c :: v := e
        rcases List.eq_nil_or_concat v with rfl | ⟨v', z, rfl⟩
        · obtain ⟨e1, e2⟩ := List.append_inj' e rfl
          injection e2 with e2 _
          subst e2
          rw [← e1]
          exact ⟨_, by rw [lab_put, if_pos rfl], by rw [eo]; exact leO_refl _⟩
        · have e : t.c.items ++ [far] = (p ++ c :: v') ++ [z] := by rw [e]; simp
          obtain ⟨e1, _⟩ := List.append_inj' e rfl
          exact mono.le (g.pre near t hn p c v' e1)
      · rw [if_neg h] at hb2
        exact mono.le (g.pre b u hb2 p c v e)
    · rw [lab_put, if_neg]
      exact fun e => hb2 (mem_addB.mpr (.inr e))
    · rw [lab_put, if_neg (Ne.symm hne)]
      exact hn
    · exact ⟨_, by rw [lab_put, if_pos rfl], leO_refl _⟩
    · show ∃ u, lab (putB st.1 far (ownL near t far)) b = some u ∧ _
      rw [lab_put]
      by_cases h : b = far
      · rw [if_pos h]
        exact ⟨_, rfl, by show k + 1 ≤ t.b + 1; omega⟩
      · rw [if_neg h]
        exact lv b ((mem_addB.mp hb2).resolve_right h)
  · rw [if_neg hb]
    refine ⟨.refl g, hn, ?_, fun k _ lv => lv⟩
    unfold better at hb
    cases q : lab st.1 far with
    | none => rw [q] at hb; exact absurd rfl hb
    | some u =>
      rw [q] at hb
      have hb : ¬ DatumOrd.lt (ownL near t far) u = true := hb
      exact ⟨u, rfl, by unfold leO; rw [Bool.not_eq_true] at hb; rw [hb]; rfl⟩
theorem relaxL_ok {near : Bond} {t : Lab} (wf : ∀ b ∈ P, WfB b) : ∀ (L : List Bond) {st : Bt × List Bond}, (∀ f ∈ L, f ∈ fars P near) → GB P first st.1 → lab st.1 near = some t →
    Stp P first st (L.foldl (relax1 near t) st) ∧ lab (L.foldl (relax1 near t) st).1 near = some t ∧ Dn (L.foldl (relax1 near t) st).1 near t L ∧
    ∀ k : Int, k ≤ t.b → Lv (k + 1) st.1 st.2 → Lv (k + 1) (L.foldl (relax1 near t) st).1 (L.foldl (relax1 near t) st).2
  | [], st, _, g, hn => ⟨.refl g, hn, fun _ h => (nomatch h), fun _ _ h => h⟩
  | f :: L, st, hL, g, hn => by
    have hf := hL f List.mem_cons_self
    have hne : f ≠ near := fun e => by
      obtain ⟨hP, ha⟩ := List.mem_filter.mp hf
      have ha := of_decide_eq_true ha
      have := (wf f hP).ne
      rw [ha, e] at this
      exact this rfl
    obtain ⟨s1, n1, d1, l1⟩ := relax1_ok g hn hf hne
    obtain ⟨s2, n2, d2, l2⟩ := relaxL_ok wf L (st := relax1 near t st f) (fun x hx => hL x (List.mem_cons_of_mem _ hx)) s1.g n1
    refine ⟨s1.trans s2, n2, fun x hx => ?_, fun k hk lv => l2 k hk (l1 k hk lv)⟩
    rcases List.mem_cons.mp hx with e | hx
    · exact e ▸ s2.mono.le d1
    · exact d2 x hx
/-- within a round: pend are the bonds whose turn is still to come -/
structure RndOk (P : List Bond) (first : Bond) (k : Int) (pend : List Bond) (st : Bt × List Bond) : Prop where
  g : GB P first st.1
  done : DoneB P st.1 fun b => b ∈ pend ∨ b ∈ st.2
  lvE : Lv k st.1 pend
  lvL : Lv (k + 1) st.1 st.2
theorem Lv.mono {k : Int} {a b : Bt × List Bond} {S : List Bond} (h : Lv k a.1 S) (s : Stp P first a b) (l : Lv (k + 1) b.1 b.2) : Lv k b.1 S := fun x hx => by
  by_cases hb : x ∈ b.2
  · obtain ⟨t, e, q⟩ := l x hb
    exact ⟨t, e, by omega⟩
  · rw [s.chg x hb]
    exact h x hx
theorem relaxN_ok (wf : ∀ b ∈ P, WfB b) {k : Int} {near : Bond} {pend : List Bond} {st : Bt × List Bond} (R : RndOk P first k (near :: pend) st) : RndOk P first k pend (relaxN P st near) ∧ Stp P first st (relaxN P st near) := by
  obtain ⟨t, hn, hk⟩ := R.lvE near List.mem_cons_self
  unfold relaxN
  rw [hn]
  obtain ⟨s, n, d, l⟩ := relaxL_ok wf (fars P near) (fun _ h => h) R.g hn
  have lL := l k hk R.lvL
  refine ⟨⟨s.g, fun b u hb hp => ?_, Lv.mono (fun x hx => R.lvE x (List.mem_cons_of_mem _ hx)) s lL, lL⟩, s⟩
  by_cases e : b = near
  · subst e
    have hb : lab ((fars P b).foldl (relax1 b t) st).1 b = some u := hb
    rw [n] at hb
    cases hb
    exact d
  · have h2 := s.chg b fun q => hp (.inr q)
    rw [show lab ((fars P near).foldl (relax1 near t) st).1 b = some u from hb] at h2
    exact (R.done b u h2.symm fun q => q.elim (fun q => (List.mem_cons.mp q).elim e fun q => hp (.inl q)) fun q => hp (.inr (s.sub b q))).mono s.mono
theorem rounds_ok (wf : ∀ b ∈ P, WfB b) {k : Int} : ∀ (L pend : List Bond) {st : Bt × List Bond}, RndOk P first k (L ++ pend) st → RndOk P first k pend (L.foldl (relaxN P) st)
  | [], _, _, R => R
  | near :: L, pend, st, R => rounds_ok wf L pend (relaxN_ok wf R).1
/-- between rounds -/
structure BtwOk (P : List Bond) (first : Bond) (k : Int) (st : Bt × List Bond) : Prop where
  g : GB P first st.1
  done : DoneB P st.1 fun b => b ∈ st.2
  lv : Lv k st.1 st.2
theorem BtwOk.start {k : Int} {st : Bt × List Bond} (B : BtwOk P first k st) : RndOk P first k st.2 (st.1, []) := ⟨B.g, fun b t h hp => B.done b t h fun q => hp (.inl q), B.lv, fun _ h => (nomatch h)⟩
theorem RndOk.finish {k : Int} {st : Bt × List Bond} (R : RndOk P first k [] st) : BtwOk P first (k + 1) st := ⟨R.g, fun b t h hp => R.done b t h fun q => q.elim (fun q => (nomatch q)) hp, R.lvL⟩
theorem BtwOk.round (wf : ∀ b ∈ P, WfB b) {k : Int} {st : Bt × List Bond} (B : BtwOk P first k st) : BtwOk P first (k + 1) (roundB P st) :=
  (rounds_ok wf st.2 [] (by rw [List.append_nil]; exact B.start)).finish
def startB (first : Bond) : Bt × List Bond := ([(first, ⟨0, 1, ⟨[first]⟩⟩)], [first])
theorem BtwOk.zero (hf : first ∈ P) : BtwOk P first 1 (startB first) := by
  have hl : ∀ b t, lab (startB first).1 b = some t → b = first ∧ t = labOf [first] := fun b t h => by
    unfold startB at h
    rw [lab_cons] at h
    by_cases e : first = b
    · rw [if_pos e] at h
      cases h
      exact ⟨e.symm, rfl⟩
    · rw [if_neg e] at h
      cases h
  have h0 : lab (startB first).1 first = some (labOf [first]) := by
    unfold startB
    rw [lab_cons, if_pos rfl]
    rfl
  refine ⟨⟨by simp [startB], fun b t h => ?_, fun b t h u c v e => ?_, ⟨_, h0, leO_refl _⟩⟩, fun b t h hp => ?_, fun b hb => ?_⟩
  · obtain ⟨rfl, rfl⟩ := hl b t h
    exact ⟨rfl, .one hf, by show [b].Nodup; simp⟩
  · obtain ⟨rfl, rfl⟩ := hl b t h
    have e : [b] = u ++ c :: v := e
    cases u with
    | nil =>
      injection e with e1 e2
      subst e1
      exact ⟨_, h0, leO_refl _⟩
    | cons x u =>
      injection e with _ e2
      cases u <;> cases e2
  · obtain ⟨rfl, rfl⟩ := hl b t h
    exact absurd List.mem_cons_self hp
  · rw [show (startB first).2 = [first] from rfl, List.mem_singleton] at hb
    subst hb
    exact ⟨_, h0, Int.le_refl _⟩
def iterB (P : List Bond) (first : Bond) : Nat → Bt × List Bond
  | 0 => startB first
  | n + 1 => roundB P (iterB P first n)
theorem iterB_ok (wf : ∀ b ∈ P, WfB b) (hf : first ∈ P) : ∀ n : Nat, BtwOk P first (n + 1 : Nat) (iterB P first n)
  | 0 => BtwOk.zero hf
  | n + 1 => by
    have := (iterB_ok wf hf n).round wf
    exact this
theorem GB.len {bt : Bt} (g : GB P first bt) {b : Bond} {t : Lab} (h : lab bt b = some t) : t.c.items.length ≤ P.length ∧ t.b = (t.c.items.length : Int) := by
  obtain ⟨e, fw, nd⟩ := g.ok b t h
  exact ⟨nodup_len nd fw.mem, congrArg T3.b e⟩
theorem iterB_end (ok : PatOk P) (hf : first ∈ P) {n : Nat} (h : (iterB P first n).2 ≠ []) : n < 8 := by
  have B := iterB_ok ok.wf hf n
  obtain ⟨b, l, e⟩ := List.exists_cons_of_ne_nil h
  obtain ⟨t, ht, hk⟩ := B.lv b (by rw [e]; exact List.mem_cons_self)
  obtain ⟨h1, h2⟩ := B.g.len ht
  have := ok.few
  omega
theorem iterB_stop {n : Nat} (h : (iterB P first n).2 = []) : ∀ m, (iterB P first (n + m)).1 = (iterB P first n).1 ∧ (iterB P first (n + m)).2 = []
  | 0 => ⟨rfl, h⟩
  | m + 1 => by
    obtain ⟨h1, h2⟩ := iterB_stop h m
    show (roundB P (iterB P first (n + m))).1 = _ ∧ (roundB P (iterB P first (n + m))).2 = []
    unfold roundB
    rw [h2]
    exact ⟨h1, rfl⟩
def walksB (P : List Bond) (first : Bond) : Bt := (iterB P first 8).1
theorem walksB_is (ok : PatOk P) (hf : first ∈ P) {n : Nat} (h : (iterB P first n).2 = []) : walksB P first = (iterB P first n).1 := by
  unfold walksB
  have h8 : (iterB P first 8).2 = [] := Classical.byContradiction fun z => absurd (iterB_end ok hf z) (by decide)
  by_cases hn : n ≤ 8
  · have := (iterB_stop h (8 - n)).1
    rwa [show n + (8 - n) = 8 by omega] at this
  · obtain ⟨m, rfl⟩ := Nat.exists_eq_add_of_le (show 8 ≤ n by omega)
    exact (iterB_stop h8 _).1.symm
/-- what the labels say at the end -/
theorem walksB_ok (ok : PatOk P) (hf : first ∈ P) : GB P first (walksB P first) ∧ DoneB P (walksB P first) fun _ => False := by
  have h8 : (iterB P first 8).2 = [] := Classical.byContradiction fun z => absurd (iterB_end ok hf z) (by decide)
  have B := iterB_ok ok.wf hf 8
  refine ⟨B.g, fun b t h _ => B.done b t h ?_⟩
  show b ∉ (iterB P first 8).2
  rw [h8]
  exact fun q => nomatch q
/-- every walk's end is told, with no more turns, and no more bonds at as many -/
theorem walksB_least (ok : PatOk P) (hf : first ∈ P) {w : List Bond} {b : Bond} (h : FW P first w b) : ∃ t, lab (walksB P first) b = some t ∧ (t.a < openT w ∨ (t.a = openT w ∧ t.b ≤ w.length)) := by
  obtain ⟨g, d⟩ := walksB_ok ok hf
  induction h with
  | one _ =>
    obtain ⟨t, e, l⟩ := g.base
    exact ⟨t, e, le_ab l⟩
  | @snoc w near far fw hP ha ih =>
    obtain ⟨t, e, l⟩ := ih
    obtain ⟨t2, e2, l2⟩ := d near t e id far (List.mem_filter.mpr ⟨hP, decide_eq_true ha⟩)
    refine ⟨t2, e2, ?_⟩
    have l3 := le_ab l2
    have k1 : (ownL near t far).a = t.a + turnI near far := rfl
    have k2 : (ownL near t far).b = t.b + 1 := rfl
    have k3 := fw.openT (far := far)
    have k4 : ((w ++ [far]).length : Int) = w.length + 1 := by rw [List.length_append]; rfl
    rw [k1, k2] at l3
    rw [k3, k4]
    omega
theorem addB_nd {l : List Bond} {b : Bond} (h : l.Nodup) : (addB l b).Nodup := by
  unfold addB
  by_cases hb : b ∈ l
  · rw [if_pos hb]; exact h
  · rw [if_neg hb, List.nodup_append]
    exact ⟨h, by simp, fun x hx y hy e => hb (by rw [List.mem_singleton] at hy; rw [← hy, ← e]; exact hx)⟩
theorem relax1_nd {near : Bond} {t : Lab} {st : Bt × List Bond} {far : Bond} (h : st.2.Nodup) : (relax1 near t st far).2.Nodup := by
  unfold relax1
  split
  · exact addB_nd h
  · exact h
theorem relaxL_nd {near : Bond} {t : Lab} : ∀ (L : List Bond) {st : Bt × List Bond}, st.2.Nodup → (L.foldl (relax1 near t) st).2.Nodup
  | [], _, h => h
  | _ :: L, _, h => relaxL_nd L (relax1_nd h)
theorem relaxN_nd {st : Bt × List Bond} {near : Bond} (h : st.2.Nodup) : (relaxN P st near).2.Nodup := by
  unfold relaxN
  split
  · exact h
  · exact relaxL_nd _ h
theorem rounds_nd : ∀ (L : List Bond) {st : Bt × List Bond}, st.2.Nodup → (L.foldl (relaxN P) st).2.Nodup
  | [], _, h => h
  | _ :: L, _, h => rounds_nd L (relaxN_nd h)
theorem GB.size {bt : Bt} (g : GB P first bt) : bt.length ≤ P.length := by
  have := nodup_len (m := P) g.ky fun b hb => by
    obtain ⟨t, h⟩ := lab_some.mpr hb
    exact (g.ok b t h).2.1.lastMem
  rwa [List.length_map] at this
theorem lv_size {k : Int} {st : Bt × List Bond} (g : GB P first st.1) (l : Lv k st.1 st.2) (nd : st.2.Nodup) : st.2.length ≤ P.length := nodup_len nd fun b hb => by
  obtain ⟨t, h, _⟩ := l b hb
  exact (g.ok b t h).2.1.lastMem
end
end Bx
set_option Elab.async false
set_option linter.all false
set_option maxRecDepth 100000
set_option maxHeartbeats 4000000
/-! E2: dicts of labels. -/
namespace Bx
open PySem PySem.Spec PyProof.Rows L2
open PySem.W (Datum DatumOrd Holds HoldAll T3 T4 Tup EachIs)
/-- all but B and L stays -/
def Off2 (B L : Addr) (H H' : Hp) : Prop := ∀ a u, a ≠ B → a ≠ L → H a = some u → H' a = some u
theorem Off2.refl (B L : Addr) (H : Hp) : Off2 B L H H := fun _ _ _ _ e => e
theorem Off2.of {B L : Addr} {H H' : Hp} (s : Same H H') : Off2 B L H H' := fun a u _ _ e => s a u e
theorem Off2.trans {B L : Addr} {H H1 H2 : Hp} (h : Off2 B L H H1) (k : Off2 B L H1 H2) : Off2 B L H H2 := fun a u n1 n2 e => k a u n1 n2 (h a u n1 n2 e)
theorem Off2.upB {B L : Addr} (H : Hp) (o : HO) : Off2 B L H (L2.upd H B o) := fun a u n1 _ e => by rw [upd_ne n1]; exact e
theorem Off2.upL {B L : Addr} (H : Hp) (o : HO) : Off2 B L H (L2.upd H L o) := fun a u _ n2 e => by rw [upd_ne n2]; exact e
def IsDT (H : Hp) (B : Addr) : Prop := ∃ kvs, H B = some (.dT kvs)
theorem Off2.tk {B L : Addr} {H H' : Hp} (h : Off2 B L H H') (hB : IsDT H B) (hL : IsDT H L) : TK H H' := by
  obtain ⟨k1, e1⟩ := hB
  obtain ⟨k2, e2⟩ := hL
  exact ⟨fun a xs e => h a _ (fun z => by rw [z, e1] at e; cases e) (fun z => by rw [z, e2] at e; cases e) e, fun a o xs e => h a _ (fun z => by rw [z, e1] at e; cases e) (fun z => by rw [z, e2] at e; cases e) e⟩
theorem IsDT.same {H H' : Hp} {B : Addr} (h : IsDT H B) (s : Same H H') : IsDT H' B := by
  obtain ⟨k, e⟩ := h
  exact ⟨k, s _ _ e⟩
section
variable {X : Cx} {tg iter e o i : Expr} {es : List Expr} {σ : St} {H H1 : Hp} {pos : Pos} {ds : List PyData}
theorem pit_newO {B L : Addr} (h : PV X iter σ H (.l ds)) (hB : IsDT H B) (hL : IsDT H L) : PIt (Off2 B L) X tg iter σ H ds := by
  refine ⟨_, pi_list pe_s, fun H1 hs R hR => h.t hs fun v H2 s2 pd => ?_⟩
  obtain ⟨a, xs, rfl, na, ea, hd⟩ := pd
  have hB1 := hB.same hs
  have hL1 := hL.same hs
  have nB : a ≠ B := fun z => by obtain ⟨k, q⟩ := hB1; rw [← z, na] at q; cases q
  have nL : a ≠ L := fun z => by obtain ⟨k, q⟩ := hL1; rw [← z, na] at q; cases q
  refine ⟨a, rfl, ⟨xs, SqL.of ea⟩, hR _ H2 s2 ?_⟩
  rw [← hd.length]
  exact walk_list.mono (fun H' t => SqL.of (t _ _ nB nL ea)) fun i H' x H'' hi t y => by
    obtain ⟨rfl, hx⟩ := y
    obtain ⟨d, e1, e2⟩ := hd.get' hx
    exact ⟨Same.refl _, d, e1, e2.ts (t.tk (hB1.same s2) (hL1.same s2))⟩
theorem pit_lstO {B L l : Addr} {xs : List V} (h : PV X iter σ H (.v (.ref l))) (hl : H l = some (.lst xs)) (hd : DIs H xs ds) (hB : IsDT H B) (hL : IsDT H L) : PIt (Off2 B L) X tg iter σ H ds := by
  refine ⟨_, pi_list pe_s, fun H1 hs R hR => h.t hs fun v H2 s2 pd => ?_⟩
  have pd : v = .ref l := pd
  have s := hs.trans s2
  have nB : l ≠ B := fun z => by obtain ⟨k, q⟩ := hB; rw [← z, hl] at q; cases q
  have nL : l ≠ L := fun z => by obtain ⟨k, q⟩ := hL; rw [← z, hl] at q; cases q
  refine ⟨l, pd, ⟨xs, SqL.of (s _ _ hl)⟩, hR _ H2 s2 ?_⟩
  rw [← hd.length]
  exact walk_list.mono (fun H' t => SqL.of (t _ _ nB nL (s _ _ hl))) fun i H' x H'' hi t y => by
    obtain ⟨rfl, hx⟩ := y
    obtain ⟨d, e1, e2⟩ := hd.get' hx
    exact ⟨Same.refl _, d, e1, (e2.same s).ts (t.tk (hB.same s) (hL.same s))⟩
end
/-! ### the words -/
structure DctB (H : Hp) (B : Addr) (bt : Bt) : Prop where
  ex : ∃ vs, H B = some (.dT ((bt.map fun p => bKey p.1).zip vs)) ∧ W3s H vs (bt.map (·.2))
def DctL (H : Hp) (L : Addr) (l : List Bond) : Prop := H L = some (.dT (l.map fun b => (bKey b, V.bl true)))
theorem DctB.dt {H : Hp} {B : Addr} {bt : Bt} (h : DctB H B bt) : IsDT H B := by
  obtain ⟨vs, e, _⟩ := h
  exact ⟨_, e⟩
theorem DctL.dt {H : Hp} {L : Addr} {l : List Bond} (h : DctL H L l) : IsDT H L := ⟨_, h⟩
theorem DctB.ts {H H' : Hp} {B : Addr} {bt : Bt} (h : DctB H B bt) (t : TK H H') (e : H' B = H B) : DctB H' B bt := by
  obtain ⟨vs, e1, w⟩ := h
  exact ⟨vs, e.trans e1, w.ts t⟩
theorem DctB.same {H H' : Hp} {B : Addr} {bt : Bt} (h : DctB H B bt) (s : Same H H') : DctB H' B bt := by
  obtain ⟨vs, e1, w⟩ := h
  exact ⟨vs, s _ _ e1, w.same s⟩
theorem DctL.same {H H' : Hp} {L : Addr} {l : List Bond} (h : DctL H L l) (s : Same H H') : DctL H' L l := s _ _ h
theorem val_lab {H : Hp} {b : Bond} : ∀ {bt : Bt} {vs : List V}, W3s H vs (bt.map (·.2)) → (lab bt b = none → valV ((bt.map fun p => bKey p.1).zip vs) (bKey b) = none) ∧ ∀ t, lab bt b = some t → ∃ v, valV ((bt.map fun p => bKey p.1).zip vs) (bKey b) = some v ∧ W3 H v t
  | [], vs, h => ⟨fun _ => rfl, fun t h => nomatch h⟩
  | p :: bt, _, .cons (v := v) (vs := vs) h hs => by
    obtain ⟨i1, i2⟩ := val_lab (bt := bt) hs
    rw [List.map_cons, List.zip_cons_cons, lab_cons]
    by_cases e : p.1 = b
    · rw [if_pos e, valV_pos (congrArg bKey e)]
      exact ⟨fun z => (nomatch z), fun t ht => ⟨v, rfl, (Option.some.inj ht) ▸ h⟩⟩
    · rw [if_neg e, valV_neg (fun z => e (bKey_inj z))]
      exact ⟨i1, i2⟩
theorem any_lab {b : Bond} (H : Hp) {bt : Bt} {vs : List V} (h : W3s H vs (bt.map (·.2))) : (((bt.map fun p => bKey p.1).zip vs).any fun kv => decide (kv.1 = bKey b)) = (lab bt b).isSome := by
  rw [valV_any]
  obtain ⟨i1, i2⟩ := val_lab (b := b) h
  cases q : lab bt b with
  | none => rw [i1 q]; rfl
  | some t =>
    obtain ⟨v, e, _⟩ := i2 t q
    rw [e]; rfl
theorem map_lab {H : Hp} {b : Bond} {t : Lab} {v : V} (hv : W3 H v t) : ∀ {bt : Bt} {vs : List V}, W3s H vs (bt.map (·.2)) → ∃ vs', ((bt.map fun p => bKey p.1).zip vs).map (fun kv => if kv.1 = bKey b then (kv.1, v) else kv) = ((bt.map fun p => if p.1 = b then (p.1, t) else p).map fun p => bKey p.1).zip vs' ∧ W3s H vs' ((bt.map fun p => if p.1 = b then (p.1, t) else p).map (·.2))
  | [], vs, _ => ⟨[], rfl, .nil⟩
  | p :: bt, _, .cons (v := u) (vs := vs) h hs => by
    obtain ⟨vs', e, w⟩ := map_lab hv (bt := bt) hs
    rw [List.map_cons, List.zip_cons_cons, List.map_cons, e, List.map_cons, List.map_cons, List.map_cons]
    by_cases q : p.1 = b
    · rw [if_pos q, if_pos (congrArg bKey q)]
      exact ⟨v :: vs', rfl, .cons hv w⟩
    · rw [if_neg q, if_neg (fun z => q (bKey_inj z))]
      exact ⟨u :: vs', rfl, .cons h w⟩
theorem put_lab {H : Hp} {b : Bond} {t : Lab} {v : V} {bt : Bt} {vs : List V} (hv : W3 H v t) (h : W3s H vs (bt.map (·.2))) : ∃ vs', putK ((bt.map fun p => bKey p.1).zip vs) (bKey b) v = ((putB bt b t).map fun p => bKey p.1).zip vs' ∧ W3s H vs' ((putB bt b t).map (·.2)) := by
  unfold putK putB
  rw [any_lab H h]
  by_cases q : (lab bt b).isSome = true
  · rw [if_pos q, if_pos q]
    exact map_lab hv h
  · rw [if_neg q, if_neg q]
    have hl : (bt.map fun p => bKey p.1).length = vs.length := by rw [h.length, List.length_map, List.length_map]
    refine ⟨vs ++ [v], ?_, ?_⟩
    · rw [List.map_append, List.zip_append hl]; rfl
    · rw [List.map_append]
      exact h.append (.cons hv .nil)
theorem val_L {b : Bond} : ∀ (l : List Bond), (valV (l.map fun b => (bKey b, V.bl true)) (bKey b)).isSome = decide (b ∈ l)
  | [] => by rw [decide_eq_false (fun h => nomatch h)]; rfl
  | c :: l => by
    rw [List.map_cons]
    by_cases e : c = b
    · rw [valV_pos (congrArg bKey e), decide_eq_true (by rw [e]; exact List.mem_cons_self)]; rfl
    · rw [valV_neg (fun z => e (bKey_inj z)), val_L l]
      exact decide_eq_decide.mpr ⟨List.mem_cons_of_mem _, fun h => (List.mem_cons.mp h).resolve_left (Ne.symm e)⟩
theorem put_L (l : List Bond) (b : Bond) : putK (l.map fun b => (bKey b, V.bl true)) (bKey b) (V.bl true) = (addB l b).map fun b => (bKey b, V.bl true) := by
  unfold putK addB
  rw [valV_any, val_L]
  by_cases h : b ∈ l
  · rw [if_pos (decide_eq_true h), if_pos h]
    rw [List.map_map]
    refine List.map_congr_left fun c _ => ?_
    show (if bKey c = bKey b then _ else _) = _
    split <;> rfl
  · rw [decide_eq_false h, if_neg (by decide), if_neg h, List.map_append]; rfl
theorem DctB.len {H : Hp} {B : Addr} {bt : Bt} (h : DctB H B bt) : ∃ vs, H B = some (.dT ((bt.map fun p => bKey p.1).zip vs)) ∧ W3s H vs (bt.map (·.2)) ∧ ((bt.map fun p => bKey p.1).zip vs).length = bt.length := by
  obtain ⟨vs, e, w⟩ := h
  exact ⟨vs, e, w, by rw [List.length_zip, w.length, List.length_map, List.length_map, Nat.min_self]⟩
/-! ### readings -/
section
variable {X : Cx} {tg iter e o i a b c : Expr} {es : List Expr} {σ : St} {H H1 : Hp} {pos pos' : Pos} {ds : List PyData}
theorem bt_key {H : Hp} {v : V} {b : Bond} (h : HD H v b) : ∃ q, v = .ref q ∧ H q = some (.tup ((bKey b).map kV)) := hd_bond h
/-- best[b] -/
theorem pv_lab {B : Addr} {bt : Bt} {k : Bond} {t : Lab} (ho : PV X o σ H (.v (.ref B))) (hB : DctB H B bt) (hi : PV X i σ H (.t k)) (ht : lab bt k = some t) (hu : X.A.units + 64 < cLine := by assumption) (hs : NoSl i := by exact fun _ _ => rfl) : PV X (.Subscript o i pos) σ H (.w3 t) :=
  .of (pe_dget (by omega) pe_s pe_s hs) fun H1 h1 => ho.t h1 fun v H2 s2 pv => hi.t (h1.trans s2) fun y H3 s3 py => by
    have pv : v = V.ref B := pv
    obtain ⟨q, rfl, hq⟩ := bt_key (show HD H3 y k from py)
    obtain ⟨vs, e, w⟩ := hB.same ((h1.trans s2).trans s3)
    obtain ⟨u, hv, hw⟩ := (val_lab w).2 t ht
    refine ⟨B, u, pv, ?_, s2.trans s3, hw⟩
    rw [← hv]
    exact DGet.t e hq
/-- b not in best -/
theorem pb_nlab {B : Addr} {bt : Bt} {k : Bond} (hi : PV X i σ H (.t k)) (ho : PV X o σ H (.v (.ref B))) (hB : DctB H B bt) (hu : X.A.units + 64 < cLine := by assumption) (hm : behindInMarks .NotIn o = false := by rfl) : PB X (.Compare i [.NotIn] [o] pos) σ H (!(lab bt k).isSome) :=
  .of (pt_cmp (pc_dnotin (by omega) pe_s pe_s) hm) fun H1 h1 => hi.t h1 fun y H2 s2 py => ho.t (h1.trans s2) fun v H3 s3 pv => by
    have pv : v = V.ref B := pv
    obtain ⟨q, rfl, hq⟩ := bt_key (show HD H2 y k from py)
    obtain ⟨vs, e, w⟩ := hB.same ((h1.trans s2).trans s3)
    refine ⟨B, valV ((bt.map fun p => bKey p.1).zip vs) (bKey k), pv, DGet.t e (s3 _ _ hq), _, rfl, s2.trans s3, ?_⟩
    rw [← valV_any, any_lab H3 w]
theorem PV.w3t {t : Lab} (h : PV X e σ H (.w3 t)) : PV X e σ H (.t t) := fun pins s H1 hs I => thn (h pins s H1 hs I) fun u s' ⟨w, H2, I2, rw', hs2, p⟩ => ⟨w, H2, I2, rw', hs2, W3.hd p⟩
/-- (i, j, walk) -/
theorem pv_w3 {k} {x y : Int} {w : List Bond} (ha : PV X a σ H (.i x)) (hb : PV X b σ H (.i y)) (hc : PV X c σ H (.w (w.map Datum.toD))) (hn : w ≠ []) (n1 : starEach [a, b, c] X.env = (false, eval a X.env) :: starEach [b, c] X.env := by rfl) (n2 : starEach [b, c] X.env = (false, eval b X.env) :: starEach [c] X.env := by rfl)
    (n3 : NS X c := by rfl) : PV X (.Tuple [a, b, c] k pos) σ H (.w3 ⟨x, y, ⟨w⟩⟩) :=
  .of (pe_tup pa_s) fun H1 hs => (pas_cons ha (pas_cons hb (pas_cons hc pas_nil n3) n2) n1).t hs fun vs H2 s2 pr => by
    obtain ⟨v1, v2, v3, rfl, p1, p2, p3⟩ := rsl3 pr
    refine ⟨by show 3 ≤ sizeLine; decide, fun p np => ⟨s2.trans (same_new np), ⟨p, v3, rfl, ?_, ?_⟩, hn⟩⟩
    · rw [Rs.pI p1, Rs.pI p2]; exact upd_same
    · exact Whole.same (same_new np) p3
/-- more, many, walk = .. -/
theorem gto_w3 {K : PySem.W.Frag} {i j l : Nat} {v : V} {t : Lab} {Pr : St → Prop} (hw : W3 H v t) (k : ∀ v3, Whole H v3 (t.c.items.map Datum.toD) → Pr (((σ.set i (some (.int t.a))).set j (some (.int t.b))).set l (some v3))) :
    GTo (gTup K 3 (gCons (gName i) (gCons (gName j) (gCons (gName l) gNil)))) σ H v Pr := fun Q q => by
  obtain ⟨⟨p, v3, rfl, h1, h2⟩, _⟩ := hw
  exact ⟨_, _, rfl, SqT.of h1, rfl, _, _, rfl, _, _, rfl, _, _, rfl, rfl, q _ (k _ h2)⟩
/-- {} -/
theorem ws_newD {i : Nat} {x : Str} {D : Ends} {p2 : Pos} (hN : X.N.Nodup) (k : ∀ L H1, Same H H1 → H L = none → DctL H1 L [] → D.nx (σ.set i (some (.ref L))) H1)
    (hi : X.N[i]? = some x := by rfl) (hx : Loc X.env.scope x := by first | exact Or.inl rfl | exact Or.inr rfl)
    (hs : swapsWith (.Dict [] [] p2) (some (.Name x pos')) pos.line X.env = pure false := by rfl) (hf : X.fn x = true ∨ X.env.scope.names.lookup x = some .local := by first | exact .inl rfl | exact .inr rfl | assumption) : WS X (.Assign [.Name x pos'] (.Dict [] [] p2) pos) D σ H :=
  .of (ps_set hN hi hx pe_dnewT hs hf) fun p np => k p _ (same_new np) np upd_same
theorem keys_hd : ∀ {l : List Bond} {bs : List Addr}, IsKeys H (l.map fun b => (bKey b, V.bl true)) bs → HDs H (bs.map V.ref) l
  | [], _, h => by cases h; exact .nil
  | b :: l, _, h => by
    cases h with
    | cons h1 h2 => exact .cons (HD.bond h1) (keys_hd h2)
/-- list(later) -/
theorem pv_keysL {p : Pos} {L : Addr} {l : List Bond} (hc : X.calm = true) (hm : X.mg "list" = none) (ha : PV X e σ H (.v (.ref L))) (hL : DctL H L l) (hg : Gl X "list" := by rfl) (ns : NS X e := by rfl) : PV X (.Call (.Name "list" p) [e] [] pos) σ H (.ts l) :=
  pv_callTy (call_list_dT hc) hm (by decide +kernel) (pas_cons ha pas_nil ns) (fun H0 H' vs s0 s1 pr Q q => by
    obtain ⟨v, rfl, pv⟩ := rsl1 pr
    have pv : v = .ref L := pv
    refine ⟨L, _, by rw [pv], .inl (hL.same (s0.trans s1)), fun p bs np hk => q _ _ (same_new np) ⟨p, _, rfl, np, upd_same, ?_⟩⟩
    exact HDs.same (same_new np) (keys_hd hk)) hg (he := ns)
end
end Bx
set_option Elab.async false
set_option linter.all false
set_option maxRecDepth 100000
set_option maxHeartbeats 4000000
/-! E3: walks_from. -/
namespace Bx
open PySem PySem.Spec PyProof.Rows L2
open PySem.W (Datum DatumOrd Holds HoldAll T3 T4 Tup EachIs)
theorem Off2.sameOf {B L : Addr} {H0 H H' : Hp} (s : Same H0 H) (o : Off2 B L H H') (nB : H0 B = none) (nL : H0 L = none) : Same H0 H' := fun a u e =>
  o a u (fun z => by rw [z, nB] at e; cases e) (fun z => by rw [z, nL] at e; cases e) (s a u e)
section
variable {X : Cx} {tg iter e o i o2 i2 : Expr} {es : List Expr} {σ : St} {H H1 : Hp} {pos : Pos} {ds : List PyData} {D : Ends}
/-- best[far], later[far] = (own, True) -/
theorem ws_put2 {B L : Addr} {bt : Bt} {l : List Bond} {k : Bond} {t : Lab} {p1 p2 tp pt2 pb : Pos} {kk k2 kb} (hc : X.calm = true) (hN : X.N.Nodup)
    (he : PV X e σ H (.w3 t)) (hB : DctB H B bt) (hL : DctL H L l) (hne : B ≠ L) (zB : bt.length ≤ 1000) (zL : l.length ≤ 1000)
    (ho : ∀ H', PV X o σ H' (.v (.ref B))) (hi : ∀ H', TK H H' → PV X i σ H' (.t k)) (ho2 : ∀ H', PV X o2 σ H' (.v (.ref L))) (hi2 : ∀ H', TK H H' → PV X i2 σ H' (.t k))
    (q : ∀ H', Off2 B L H H' → DctB H' B (putB bt k t) → DctL H' L (addB l k) → D.nx σ H') (hu : X.A.units + 64 < cLine := by assumption)
    (ha1 : ∀ v, assign (.Subscript o i p1) X.env v = (do
      let ov ← holding [v] (eval o X.env)
      let iv ← holding [v, ov] (eval i X.env)
      standAt p1
      holding [v, ov, iv] (setItem ov iv v)
      release [v, ov, iv] []) := by intro _; rfl)
    (ha2 : ∀ v, assign (.Subscript o2 i2 p2) X.env v = (do
      let ov ← holding [v] (eval o2 X.env)
      let iv ← holding [v, ov] (eval i2 X.env)
      standAt p2
      holding [v, ov, iv] (setItem ov iv v)
      release [v, ov, iv] []) := by intro _; rfl)
    (hs : swapsWithSole [.Tuple [.Subscript o i p1, .Subscript o2 i2 p2] kk tp] (.Tuple [e, .Constant (.bool true) kb pb] k2 pt2) pos.line X.env = pure false := by rfl)
    (hw : swappedStores [.Tuple [.Subscript o i p1, .Subscript o2 i2 p2] kk tp] (.Tuple [e, .Constant (.bool true) kb pb] k2 pt2) X.env = pure none := by rfl)
    (h1 : (assignEach [.Tuple [.Subscript o i p1, .Subscript o2 i2 p2] kk tp] X.env).map (·.2) = [assign (.Tuple [.Subscript o i p1, .Subscript o2 i2 p2] kk tp) X.env] := by rfl)
    (n1 : starEach [e, .Constant (.bool true) kb pb] X.env = (false, eval e X.env) :: starEach [.Constant (.bool true) kb pb] X.env := by rfl)
    (s1 : (assignEach [.Subscript o i p1, .Subscript o2 i2 p2] X.env).map (·.2) = assign (.Subscript o i p1) X.env :: (assignEach [.Subscript o2 i2 p2] X.env).map (·.2) := by rfl)
    (s2 : (assignEach [.Subscript o2 i2 p2] X.env).map (·.2) = assign (.Subscript o2 i2 p2) X.env :: (assignEach [] X.env).map (·.2) := by rfl)
    (s3 : (assignEach [.Subscript o i p1, .Subscript o2 i2 p2] X.env).length = 2 := by rfl) (s4 : (assignEach [.Subscript o i p1, .Subscript o2 i2 p2] X.env).findIdx? (·.1) = none := by rfl) :
    WS X (.Assign [.Tuple [.Subscript o i p1, .Subscript o2 i2 p2] kk tp] (.Tuple [e, .Constant (.bool true) kb pb] k2 pt2) pos) D σ H := by
  refine .of (ps_asg (pe_tup pa_s) (pg_tup hc (pgs_cons (pg_sub pe_s pe_s (set_dict (by omega)) ha1) (pgs_cons (pg_sub pe_s pe_s (set_dict (by omega)) ha2) pgs_nil s2) s1) s3 s4) hs hw h1) ?_
  refine (pas_cons he (pas_cons pv_bool pas_nil rfl) n1).t (Same.refl _) fun vs H2 t2 pr => ?_
  obtain ⟨v, v2, rfl, pv, pb⟩ := rsl2 pr
  rw [Rs.pB pb]
  refine ⟨by show 2 ≤ sizeLine; decide, fun p np => ?_⟩
  have s3 := t2.trans (same_new (o := .tup [v, .bl true]) np)
  refine ⟨p, _, rfl, SqT.of upd_same, rfl, v, _, rfl, ?_⟩
  refine (ho _).t (Same.refl _) fun x H4 s4 px => (hi _ (.same s3)).t s4 fun y H5 s5 py => ?_
  have px : x = V.ref B := px
  obtain ⟨a, rfl, ha⟩ := bt_key (show HD H5 y k from py)
  have sA := s3.trans (s4.trans s5)
  obtain ⟨ws, eB, wB, lB⟩ := (hB.same sA).len
  have pv5 : W3 H5 v t := pv.same ((same_new np).trans (s4.trans s5))
  obtain ⟨ws', eP, wP⟩ := put_lab (b := k) pv5 wB
  refine ⟨B, _, px, DPut.t eB ha (by rw [lB]; exact Nat.lt_of_le_of_lt zB (by decide)), V.bl true, [], rfl, ?_⟩
  have tB := TK.upd (o := HO.dT (putK ((bt.map fun p => bKey p.1).zip ws) (bKey k) v)) (H := H5) (p := B) (fun ys e => by rw [eB] at e; cases e) fun _ ys e => by rw [eB] at e; cases e
  have oB : Off2 B L H5 _ := Off2.upB H5 (HO.dT (putK ((bt.map fun p => bKey p.1).zip ws) (bKey k) v))
  refine (ho2 _).t (Same.refl _) fun x2 H6 s6 px2 => (hi2 _ ((TK.same sA).trans (tB.trans (.same s6)))).t (Same.refl _) fun y2 H7 s7 py2 => ?_
  have px2 : x2 = V.ref L := px2
  obtain ⟨a2, rfl, ha2⟩ := bt_key (show HD H7 y2 k from py2)
  have s67 := s6.trans s7
  have eL : H7 L = some (.dT (l.map fun b => (bKey b, V.bl true))) := s67 _ _ (by rw [upd_ne (Ne.symm hne)]; exact hL.same sA)
  have eB7 : H7 B = some (.dT (((putB bt k t).map fun p => bKey p.1).zip ws')) := by
    rw [← eP]
    exact s67 _ _ upd_same
  refine ⟨L, _, px2, DPut.t eL ha2 (by rw [List.length_map]; exact Nat.lt_of_le_of_lt zL (by decide)), rfl, ?_⟩
  refine q _ ?_ ?_ ?_
  · exact (Off2.of sA).trans (oB.trans ((Off2.of s67).trans (Off2.upL H7 _)))
  · have tL := TK.upd (o := HO.dT (putK (l.map fun b => (bKey b, V.bl true)) (bKey k) (V.bl true))) (H := H7) (p := L) (fun ys e => by rw [eL] at e; cases e) fun _ ys e => by rw [eL] at e; cases e
    exact ⟨ws', by rw [upd_ne hne]; exact eB7, wP.ts (tB.trans ((TK.same s67).trans tL))⟩
  · show L2.upd H7 L _ L = _
    rw [upd_same, put_L]
end
def kdsOf (bt : Bt) : List (List Key × Lab) := bt.map fun p => (bKey p.1, p.2)
theorem DctB.m {H0 H : Hp} {B : Addr} {bt : Bt} (h : DctB H B bt) (n : H0 B = none) : (Rs.m (kdsOf bt)).P H0 (.ref B) H := by
  obtain ⟨vs, e, w⟩ := h
  refine ⟨B, vs, rfl, n, ?_, ?_⟩
  · unfold kdsOf; rw [List.map_map]; exact e
  · unfold kdsOf; rw [List.map_map]; exact w
section
variable {P : Program} {w : World} {K : PySem.W.Frag} {mg : Str → Option Value} {base : Heap}
abbrev spWalks : Sp := spY (fun (y : List Bond × Bond) vs H => ∃ v u, vs = [v, u, .bl true] ∧ HD H v (Tup.mk y.1) ∧ HD H u y.2 ∧ PatOk y.1 ∧ y.2 ∈ y.1) fun y => .m (kdsOf (walksB y.1 y.2))
theorem ok_walks_from (T : Txt K mg) : Dfn P w K mg base 3 "walks_from" ["pattern", "first", "is_weighed"] spWalks := by
  refine dfn_of T.h_walks_from sc_walks_from (fun vs H Q E h => ?_) (fun f cdv A outer s H vs Q E hr h => ?_)
  · obtain ⟨_, ⟨_, _, rfl, _⟩, _⟩ := h; rfl
  · obtain ⟨⟨y, first⟩, ⟨v, u, rfl, hv, hf, ok, hmem⟩, q⟩ := h
    have hu := hr.units
    dsimp only at hv hf ok hmem q
    have few := ok.few
    refine wb_cons (ws_par 3 4 sc_walks_from.nd rfl (pv_disp1 (t := first) (y := ⟨0, 1, ⟨[first]⟩⟩) (pv_dat 1 rfl hf) (pv_w3 pv_int pv_int (pv_tupW (ds := [first].map Datum.toD) (pad_cons (pv_dat 1 rfl hf) pad_nil)) (List.cons_ne_nil _ _))) (pv_lst (pad_cons (pv_dat 1 rfl hf) pad_nil)) fun v3 v4 H1 s1 p3 p4 => ?_)
    obtain ⟨B, vs, rfl, nB, eB, wB⟩ := p3
    obtain ⟨E0, us, rfl, nE, eE, hE⟩ := p4
    have dB : DctB H1 B (startB first).1 := ⟨vs, eB, wB⟩
    have hE : HDs H1 us (startB first).2 := hE
    refine wb_cons (ws_while (k := fun _ _ => true) PassesOwn.never (fun m σ' H' => ∃ n E us o5 o6 o7 o8 o9 o10 o11 o12, m = 8 - n ∧ σ' = [some v, some u, some (.bl true), some (.ref B), some (.ref E), o5, o6, o7, o8, o9, o10, o11, o12] ∧ Same H H' ∧ DctB H' B (iterB y first n).1 ∧ H' E = some (.lst us) ∧ HDs H' us (iterB y first n).2)
      8 ⟨0, E0, us, none, none, none, none, none, none, none, none, rfl, rfl, s1, dB, eE, hE⟩ fun m σ' H2 p => ?_)
    obtain ⟨n, E, us, o5, o6, o7, o8, o9, o10, o11, o12, rfl, rfl, s2, dB, eE, hE⟩ := p
    refine ⟨decide ((0 : Int) < us.length), pb_gt (pv_lenV T.b_len (pv_name 4 rfl) (SqL.of eE)) pv_int, fun hk H3 s3 => ?_, fun hk H3 s3 => ?_⟩
    · have hk : (0 : Int) < us.length := of_decide_eq_true hk
      have hul := hE.length
      have hn : n < 8 := iterB_end ok hmem fun e => by rw [e, List.length_nil] at hul; omega
      have BO := iterB_ok ok.wf hmem n
      generalize hst : iterB y first n = st0 at dB hE hul BO
      refine wb_cons (ws_newD (i := 5) sc_walks_from.nd fun L H4 s4 nL dL => ?_)
      have nL0 : H L = none := (s2.trans s3).free nL
      have hne : B ≠ L := fun z => by
        obtain ⟨ws, e, _⟩ := dB.same s3
        rw [z, nL] at e; cases e
      have s04 := (s2.trans s3).trans s4
      have dB := dB.same (s3.trans s4)
      have hE := hE.same (s3.trans s4)
      have eE := (s3.trans s4) _ _ eE
      have bigR : ∀ i, RndOk y first (n + 1 : Nat) (st0.2.drop i) ((st0.2.take i).foldl (relaxN y) (st0.1, [])) := fun i => rounds_ok ok.wf (st0.2.take i) (st0.2.drop i) (by rw [List.take_append_drop]; exact BO.start)
      have bigN : ∀ i, ((st0.2.take i).foldl (relaxN y) (st0.1, [])).2.Nodup := fun i => rounds_nd _ List.nodup_nil
      refine wb_cons (ws_forH (g := gName 6) (ds := st0.2.map Datum.toD) (S := Off2 B L) PassesOwn.never rfl (pit_lstO (l := E) (pv_name 4 rfl) eE hE dB.dt dL.dt) (pg_name (i := 6) sc_walks_from.nd rfl (Or.inr rfl))
        (fun H5 i σ' H' => Off2 B L H5 H' ∧ ∃ o6 o7 o8 o9 o10 o11 o12, σ' = [some v, some u, some (.bl true), some (.ref B), some (.ref E), some (.ref L), o6, o7, o8, o9, o10, o11, o12] ∧ DctB H' B ((st0.2.take i).foldl (relaxN y) (st0.1, [])).1 ∧ DctL H' L ((st0.2.take i).foldl (relaxN y) (st0.1, [])).2)
        (fun H5 s5 => ⟨Off2.refl _ _ _, _, _, _, _, _, _, _, rfl, dB.same s5, dL.same s5⟩) (fun H5 i σ' H' s5 _ p => p.1) (fun H5 i d x σ' H6 s5 hd p H7 s7 dx => ?_) fun H5 σ' H' s5 p => ?_)
      · obtain ⟨off, o6, o7, o8, o9, o10, o11, o12, rfl, dB, dL⟩ := p
        obtain ⟨near, hnear, rfl⟩ := map_some hd
        have R := bigR i
        have Nd := bigN i
        have eN : (st0.2.take (i + 1)).foldl (relaxN y) (st0.1, []) = relaxN y ((st0.2.take i).foldl (relaxN y) (st0.1, [])) near := by
          rw [take_succ' hnear, List.foldl_append]; rfl
        rw [eN]
        have hdr : st0.2.drop i = near :: st0.2.drop (i + 1) := by
          have hi := (List.getElem?_eq_some_iff.mp hnear)
          rw [List.drop_eq_getElem_cons hi.1, hi.2]
        rw [hdr] at R
        generalize (st0.2.take i).foldl (relaxN y) (st0.1, []) = st at dB dL R Nd
        obtain ⟨t, ht, hkt⟩ := R.lvE near List.mem_cons_self
        have eR : relaxN y st near = (fars y near).foldl (relax1 near t) st := by unfold relaxN; rw [ht]
        rw [eR]
        have dB := dB.same s7
        have dL := dL.same s7
        obtain ⟨wt1, fw, wnd⟩ := R.g.ok near t ht
        have wne : t.c.items ≠ [] := fw.ne
        have wlen := (R.g.len ht).1
        refine gto_name (wb_cons (ws_asg (g := gTup K 3 (gCons (gName 7) (gCons (gName 8) (gCons (gName 9) gNil)))) (pv_lab (pv_name 3 rfl) dB (pv_dat 6 rfl dx) ht) (pgT3 sc_walks_from.nd rfl 7 8 9) fun v8 H8 s8 p8 => gto_w3 p8 fun v9 w9 => ?_))
        have dB := dB.same s8
        have dL := dL.same s8
        have dx : HD H8 x near := HD.same s8 dx
        have s08 : Same H H8 := ((Off2.sameOf (s04.trans s5) off nB nL0).trans s7).trans s8
        have bigD : ∀ j, Stp y first st (((fars y near).take j).foldl (relax1 near t) st) ∧ lab (((fars y near).take j).foldl (relax1 near t) st).1 near = some t ∧ Lv ((n + 1 : Nat) + 1 : Int) (((fars y near).take j).foldl (relax1 near t) st).1 (((fars y near).take j).foldl (relax1 near t) st).2 := fun j => by
          obtain ⟨a1, a2, _, a4⟩ := relaxL_ok ok.wf ((fars y near).take j) (fun f hf => List.mem_of_mem_take hf) R.g ht
          exact ⟨a1, a2, a4 _ hkt R.lvL⟩
        have bigM : ∀ j, (((fars y near).take j).foldl (relax1 near t) st).2.Nodup := fun j => relaxL_nd _ Nd
        refine wb_one (ws_forH (g := gName 10) (ds := (fars y near).map Datum.toD) (S := Off2 B L) PassesOwn.never rfl (pit_newO (PV.is (pv_lc1 (g := gName 12) (xs := y) (enc := Datum.toD) (p := fun b => decide (b.a = near.c)) (f := Datum.toD) rfl sc_walks_from.nd (PIt.weak (pit_tup (pv_dat 0 rfl (hv.same s08)))) (blkOk_by (own := [("bond", 12)]) rfl)
            (fun _ _ _ _ _ => pg_name (i := 12) sc_walks_from.nd rfl (Or.inl rfl)) (by omega) (fun b v' H9 hb h1 dv => gto_name ⟨rfl, fun s0 H0 C cl fp => ?_, fun s0 H0 C cl fp _ => ?_⟩)) ?_) dB.dt dL.dt) (pg_name (i := 10) sc_walks_from.nd rfl (Or.inl rfl))
          (fun H9 j σ' H' => Off2 B L H9 H' ∧ ∃ o10 o11 o12, σ' = [some v, some u, some (.bl true), some (.ref B), some (.ref E), some (.ref L), some x, some (.int t.a), some (.int t.b), some v9, o10, o11, o12] ∧ DctB H' B (((fars y near).take j).foldl (relax1 near t) st).1 ∧ DctL H' L (((fars y near).take j).foldl (relax1 near t) st).2)
          (fun H9 s9 => ⟨Off2.refl _ _ _, _, _, _, rfl, dB.same s9, dL.same s9⟩) (fun H9 j σ' H' s9 _ p => p.1) (fun H9 j d xf σ' H10 s9 hd2 p H11 s11 dxf => ?_) fun H9 σ' H' s9 p => ?_)
        · exact pb_eqT (α := Str) (pv_ixD (pv_dat 12 rfl dv) pv_int (atI_zero rfl)) (pv_ixD (pv_dat 6 rfl (DI.same h1 dx)) pv_int (atI_nat (k := 2) rfl))
        · exact pv_dat 12 rfl dv
        · rfl
        · obtain ⟨offJ, o10, o11, o12, rfl, dB9, dL9⟩ := p
          obtain ⟨far, hfar, rfl⟩ := map_some hd2
          have eF : ((fars y near).take (j + 1)).foldl (relax1 near t) st = relax1 near t (((fars y near).take j).foldl (relax1 near t) st) far := by
            rw [take_succ' hfar, List.foldl_append]; rfl
          obtain ⟨Sp2, labN, LvN⟩ := bigD j
          have NdJ := bigM j
          rw [eF]
          generalize ((fars y near).take j).foldl (relax1 near t) st = sj at dB9 dL9 Sp2 labN LvN NdJ
          have tk : TK H8 H11 := ((TK.same s9).trans (offJ.tk (dB.dt.same s9) (dL.dt.same s9))).trans (.same s11)
          have dB9 := dB9.same s11
          have dL9 := dL9.same s11
          have hx : HD H11 x near := HD.ts tk dx
          have hw : Whole H11 v9 (t.c.items.map Datum.toD) := w9.ts tk
          have zB := Sp2.g.size
          have zL := lv_size Sp2.g LvN NdJ
          refine gto_name (wb_cons (ws_set (i := 11) (r := .w3 (ownL near t far)) sc_walks_from.nd (PV.is (pv_w3 (x := t.a + (if true = true then 1 else 0) * turnI near far) (y := t.b + 1) (w := t.c.items ++ [far]) (pv_add (pv_dat 7 rfl (DI.int _)) (pv_mul (pv_intB T.b_int (pv_dat 2 rfl (DI.bl _))) (pv_cal (ok_turning T) hr (pas_cons (pv_dat 6 rfl hx) (pas_cons (pv_dat 10 rfl dxf) pas_nil)) (near, far) fun H0 H' vs s0 s1 pr => ?_) (.inl (by decide)))) (pv_add (pv_dat 8 rfl (DI.int _)) pv_int)
            (PV.is (pv_tupW (pad_star (pv_dat 9 rfl (hw.di (hasT_pat wne))) (pad_cons (pv_dat 10 rfl dxf) pad_nil)) ?_) ?_) (by simp)) ?_) fun v12 H12 s12 p12 => ?_))
          · obtain ⟨z1, z2, rfl, p1, p2⟩ := rsl2 pr
            exact ⟨z1, z2, rfl, p1, p2⟩
          · rw [List.length_append, List.length_map]
            show t.c.items.length + 1 ≤ 1000000
            omega
          · show Rs.w _ = Rs.w _
            rw [List.map_append]; rfl
          · show Rs.w3 _ = Rs.w3 _
            unfold ownL
            rw [if_pos rfl, Int.one_mul]
          · have dB12 := dB9.same s12
            have dL12 := dL9.same s12
            have p12 : W3 H12 v12 (ownL near t far) := p12
            have dxf12 : HD H12 xf far := DI.same s12 dxf
            have eb : better sj.1 far (ownL near t far) = (!(lab sj.1 far).isSome || better sj.1 far (ownL near t far)) := by
              unfold better
              cases lab sj.1 far <;> rfl
            refine wb_one (ws_if (k := better sj.1 far (ownL near t far)) ?_ (fun hk H13 s13 => wb_one ?_) fun hk H13 s13 => wb_nil ?_)
            · rw [eb]
              refine PBW.pb (pw_o (pb_nlab (pv_dat 10 rfl dxf12) (pv_name 3 rfl) dB12) fun hz => pw_o1 ?_)
              cases hl : lab sj.1 far with
              | none => rw [hl] at hz; cases hz
              | some u2 =>
                refine PB.is (pb_ltD (α := Lab) (pv_dat 11 rfl p12.hd) (PV.w3t (pv_lab (pv_name 3 rfl) dB12 (pv_dat 10 rfl dxf12) hl))) ?_
                unfold better
                rw [hl]
            · have eR2 : relax1 near t sj far = (putB sj.1 far (ownL near t far), addB sj.2 far) := by unfold relax1; rw [if_pos hk]
              rw [eR2]
              refine ws_put2 (t := ownL near t far) (k := far) rfl sc_walks_from.nd (PV.of (r := .w3 (ownL near t far)) pe_s fun H14 s14 => (pv_name 11 rfl).t s14 fun v H15 s15 pv => ⟨s15, ?_⟩) (dB12.same s13) (dL12.same s13) hne (by omega) (by omega) (fun _ => pv_name 3 rfl) (fun H' tk' => pv_dat 10 rfl (DI.ts ((TK.same s13).trans tk') dxf12)) (fun _ => pv_name 5 rfl) (fun H' tk' => pv_dat 10 rfl (DI.ts ((TK.same s13).trans tk') dxf12)) fun H' off2 dB2 dL2 => ?_
              · have pv : v = v12 := pv
                rw [pv]
                exact p12.same (s13.trans (s14.trans s15))
              · exact ⟨offJ.trans ((Off2.of (s11.trans (s12.trans s13))).trans off2), _, _, _, rfl, dB2, dL2⟩
            · have eR2 : relax1 near t sj far = sj := by unfold relax1; rw [if_neg (by rw [hk]; decide)]
              rw [eR2]
              exact ⟨offJ.trans (Off2.of (s11.trans (s12.trans s13))), _, _, _, rfl, dB12.same s13, dL12.same s13⟩
        · obtain ⟨offJ, o10, o11, o12, rfl, dB9, dL9⟩ := p
          rw [List.length_map, List.take_length] at dB9 dL9
          exact ⟨off.trans ((Off2.of (s7.trans (s8.trans s9))).trans offJ), _, _, _, _, _, _, _, rfl, dB9, dL9⟩
      · obtain ⟨off, o6, o7, o8, o9, o10, o11, o12, rfl, dB9, dL9⟩ := p
        rw [List.length_map, List.take_length] at dB9 dL9
        have eI : iterB y first (n + 1) = st0.2.foldl (relaxN y) (st0.1, []) := by
          show roundB y (iterB y first n) = _
          rw [hst]; rfl
        rw [← eI] at dB9 dL9
        have s05 : Same H H' := Off2.sameOf (s04.trans s5) off nB nL0
        refine wb_one (ws_set (i := 4) sc_walks_from.nd (pv_keysL rfl T.b_list (pv_name 5 rfl) dL9) fun v6 H6 s6 p6 => ?_)
        obtain ⟨E2, us2, rfl, _, eE2, hE2⟩ := p6
        exact ⟨8 - (n + 1), by omega, n + 1, E2, us2, _, _, _, _, _, _, _, _, rfl, rfl, s05.trans s6, dB9.same s6, eE2, hE2⟩
    · have hk := of_decide_eq_false hk
      have hul := hE.length
      have e0 : (iterB y first n).2 = [] := List.eq_nil_of_length_eq_zero (by omega)
      refine wb_one (ws_ret (r := .v (.ref B)) (pv_name 3 rfl) fun v6 H6 s6 p6 => ?_)
      have p6 : v6 = .ref B := p6
      subst p6
      refine q _ _ ((s2.trans s3).trans s6) ?_
      have dB := dB.same (s3.trans s6)
      rw [← walksB_is ok hmem e0] at dB
      exact dB.m nB
end
end Bx
set_option Elab.async false
set_option linter.all false
set_option maxRecDepth 100000
/-! M2: the least closed walk. -/
namespace Bx
open PySem
open PySem.W (Datum DatumOrd T3 T4 Tup minOf)
def closeL (first : Bond) (p : Bond × Lab) : Lab := ⟨p.2.a + turnI p.1 first, p.2.b, p.2.c⟩
def closedAt (bt : Bt) (first : Bond) : List Lab := (bt.filter fun p => decide (p.1.c = first.a)).map (closeL first)
def foundM (P : List Bond) : List Lab := (P.map fun first => closedAt (walksB P first) first).flatten
def leastM (P : List Bond) : Option Lab := match foundM P with
  | [] => none
  | x :: r => some (minOf x r)
theorem minO_le {α : Type} [DecidableEq α] [DatumOrd α] [LO α] : ∀ (x : α) (r : List α), minOf x r ∈ x :: r ∧ ∀ y ∈ x :: r, leO (minOf x r) y = true
  | x, [] => ⟨List.mem_singleton.mpr rfl, fun y hy => by rw [List.mem_singleton.mp hy]; exact leO_refl _⟩
  | x, z :: r => by
    have e : minOf x (z :: r) = minOf (if DatumOrd.lt z x = true then z else x) r := rfl
    rw [e]
    obtain ⟨h1, h2⟩ := minO_le (if DatumOrd.lt z x = true then z else x) r
    have h3 := h2 _ List.mem_cons_self
    by_cases h : DatumOrd.lt z x = true
    · rw [if_pos h] at h1 h2 h3 ⊢
      refine ⟨List.mem_cons_of_mem _ h1, fun y hy => ?_⟩
      rcases List.mem_cons.mp hy with rfl | hy
      · exact leO_tr _ _ _ h3 (leO_iff.mpr (.inr h))
      · exact h2 y hy
    · rw [if_neg h] at h1 h2 h3 ⊢
      refine ⟨(List.mem_cons.mp h1).elim (fun q => by rw [q]; exact List.mem_cons_self) fun q => List.mem_cons_of_mem _ (List.mem_cons_of_mem _ q), fun y hy => ?_⟩
      rcases List.mem_cons.mp hy with rfl | hy
      · exact h3
      · rcases List.mem_cons.mp hy with rfl | hy
        · refine leO_tr _ _ _ h3 ?_
          unfold leO
          rw [Bool.not_eq_true] at h
          rw [h]; rfl
        · exact h2 y (List.mem_cons_of_mem _ hy)
theorem mem_lab : ∀ {bt : Bt} {p : Bond × Lab}, (bt.map (·.1)).Nodup → p ∈ bt → lab bt p.1 = some p.2
  | [], _, _, h => nomatch h
  | q :: bt, p, nd, h => by
    rw [List.map_cons, List.nodup_cons] at nd
    rw [lab_cons]
    rcases List.mem_cons.mp h with rfl | h
    · rw [if_pos rfl]
    · rw [if_neg (fun e => nd.1 (by rw [e]; exact List.mem_map.mpr ⟨p, h, rfl⟩))]
      exact mem_lab nd.2 h
theorem lab_mem {b : Bond} {t : Lab} : ∀ {bt : Bt}, lab bt b = some t → (b, t) ∈ bt
  | [], h => nomatch h
  | q :: bt, h => by
    rw [lab_cons] at h
    by_cases e : q.1 = b
    · rw [if_pos e] at h
      cases h
      subst e
      exact List.mem_cons_self
    · rw [if_neg e] at h
      exact List.mem_cons_of_mem _ (lab_mem h)
/-! ### closed walks -/
/-- w goes from first back to where first begins -/
structure CW (P : List Bond) (first last : Bond) (w : List Bond) : Prop where
  fw : FW P first w last
  cl : last.c = first.a
theorem openT_zip : ∀ (x : Bond) (r : List Bond), openT (x :: r) = (((x :: r).zip r).map fun p => turnI p.1 p.2).sum
  | x, [] => rfl
  | x, y :: r => by
    show turnI x y + openT (y :: r) = _
    rw [openT_zip y r]; rfl
theorem turns_zip (z : Bond) : ∀ (x : Bond) (r : List Bond), (((x :: r).zip (r ++ [z])).map fun p => turnI p.1 p.2).sum = openT (x :: r ++ [z])
  | x, [] => rfl
  | x, y :: r => by
    show turnI x y + _ = turnI x y + openT (y :: r ++ [z])
    rw [← turns_zip z y r]; rfl
theorem turnsM_open (x : Bond) (r : List Bond) : turnsM (x :: r) = openT (x :: r ++ [x]) := turns_zip x x r
theorem FW.head {P : List Bond} {first b : Bond} {w : List Bond} (h : FW P first w b) : ∃ r, w = first :: r := by
  induction h with
  | one => exact ⟨[], rfl⟩
  | snoc _ _ _ ih => obtain ⟨r, rfl⟩ := ih; exact ⟨r ++ [_], rfl⟩
theorem CW.turns {P : List Bond} {first last : Bond} {w : List Bond} (h : CW P first last w) : turnsM w = openT w + turnI last first := by
  obtain ⟨r, rfl⟩ := h.fw.head
  rw [turnsM_open, h.fw.openT]
section
variable {P : List Bond} (ok : PatOk P)
include ok
theorem found_sound {t : Lab} (h : t ∈ foundM P) : ∃ first last, CW P first last t.c.items ∧ t.c.items.Nodup ∧ t.a = turnsM t.c.items ∧ t.b = t.c.items.length := by
  unfold foundM at h
  obtain ⟨l, hl, ht⟩ := List.mem_flatten.mp h
  obtain ⟨first, hf, rfl⟩ := List.mem_map.mp hl
  obtain ⟨p, hp, rfl⟩ := List.mem_map.mp ht
  obtain ⟨hp, hc⟩ := List.mem_filter.mp hp
  have g := (walksB_ok ok hf).1
  obtain ⟨e, fw, nd⟩ := g.ok p.1 p.2 (mem_lab g.ky hp)
  have c : CW P first p.1 p.2.c.items := ⟨fw, of_decide_eq_true hc⟩
  refine ⟨first, p.1, c, nd, ?_, congrArg T3.b e⟩
  show p.2.a + turnI p.1 first = _
  rw [show (closeL first p).c.items = p.2.c.items from rfl, c.turns, show p.2.a = openT p.2.c.items from congrArg T3.a e]
theorem found_least {first last : Bond} {w : List Bond} (h : CW P first last w) : ∃ t ∈ foundM P, t.a < turnsM w ∨ (t.a = turnsM w ∧ t.b ≤ w.length) := by
  have hf : first ∈ P := by
    obtain ⟨r, e⟩ := h.fw.head
    exact h.fw.mem first (by rw [e]; exact List.mem_cons_self)
  obtain ⟨t, e, l⟩ := walksB_least ok hf h.fw
  refine ⟨closeL first (last, t), ?_, ?_⟩
  · exact List.mem_flatten.mpr ⟨_, List.mem_map.mpr ⟨first, hf, rfl⟩, List.mem_map.mpr ⟨_, List.mem_filter.mpr ⟨lab_mem e, decide_eq_true h.cl⟩, rfl⟩⟩
  · rw [h.turns]
    show t.a + turnI last first < _ ∨ (t.a + turnI last first = _ ∧ t.b ≤ _)
    omega
theorem least_none (h : leastM P = none) {first last : Bond} {w : List Bond} : ¬ CW P first last w := fun c => by
  obtain ⟨t, ht, _⟩ := found_least ok c
  unfold leastM at h
  cases q : foundM P with
  | nil => rw [q] at ht; cases ht
  | cons x r => rw [q] at h; cases h
theorem least_some {t : Lab} (h : leastM P = some t) : (∃ first last, CW P first last t.c.items ∧ t.c.items.Nodup ∧ t.a = turnsM t.c.items ∧ t.b = t.c.items.length) ∧ ∀ first last w, CW P first last w → t.a < turnsM w ∨ (t.a = turnsM w ∧ t.b ≤ w.length) := by
  unfold leastM at h
  cases q : foundM P with
  | nil => rw [q] at h; cases h
  | cons x r =>
    rw [q] at h
    have e := Option.some.inj h
    obtain ⟨h1, h2⟩ := minO_le x r
    rw [e] at h1 h2
    refine ⟨found_sound ok (by rw [q]; exact h1), fun first last w c => ?_⟩
    obtain ⟨u, hu, l⟩ := found_least ok c
    rw [q] at hu
    have l2 := le_ab (h2 u hu)
    omega
theorem least_len {t : Lab} (h : leastM P = some t) : t.c.items.length ≤ 8 ∧ t.c.items ≠ [] := by
  obtain ⟨⟨first, last, c, nd, _⟩, _⟩ := least_some ok h
  exact ⟨Nat.le_trans (nodup_len nd c.fw.mem) ok.few, c.fw.ne⟩
end
end Bx
set_option Elab.async false
set_option linter.all false
set_option maxRecDepth 100000
set_option maxHeartbeats 4000000
/-! E4: least_walk. -/
namespace Bx
open PySem PySem.Spec PyProof.Rows L2
open PySem.W (Datum DatumOrd Holds HoldAll T3 T4 Tup EachIs minOf)
/-- all but the list F stays -/
def Off1 (F : Addr) (H H' : Hp) : Prop := ∀ a u, a ≠ F → H a = some u → H' a = some u
theorem Off1.refl (F : Addr) (H : Hp) : Off1 F H H := fun _ _ _ e => e
theorem Off1.of {F : Addr} {H H' : Hp} (s : Same H H') : Off1 F H H' := fun a u _ e => s a u e
theorem Off1.trans {F : Addr} {H H1 H2 : Hp} (h : Off1 F H H1) (k : Off1 F H1 H2) : Off1 F H H2 := fun a u n e => k a u n (h a u n e)
theorem Off1.up {F : Addr} (H : Hp) (o : HO) : Off1 F H (L2.upd H F o) := fun a u n e => by rw [upd_ne n]; exact e
def IsL (H : Hp) (F : Addr) : Prop := ∃ xs, H F = some (.lst xs)
theorem IsL.same {H H' : Hp} {F : Addr} (h : IsL H F) (s : Same H H') : IsL H' F := by
  obtain ⟨xs, e⟩ := h
  exact ⟨xs, s _ _ e⟩
theorem Off1.tk {F : Addr} {H H' : Hp} (h : Off1 F H H') (hF : IsL H F) : TK H H' := by
  obtain ⟨k1, e1⟩ := hF
  exact ⟨fun a xs e => h a _ (fun z => by rw [z, e1] at e; cases e) e, fun a o xs e => h a _ (fun z => by rw [z, e1] at e; cases e) e⟩
theorem Off1.sameOf {F : Addr} {H0 H H' : Hp} (s : Same H0 H) (o : Off1 F H H') (n : H0 F = none) : Same H0 H' := fun a u e =>
  o a u (fun z => by rw [z, n] at e; cases e) (s a u e)
section
variable {X : Cx} {tg iter e : Expr} {σ : St} {H : Hp} {pos apos cpos : Pos}
theorem pit_itemsO {F : Addr} {elts : List Expr} {kk : Nat} {tpos : Pos} {kds : List (List Key × T3 Int Int Pat)} (h : PV X e σ H (.m kds)) (hF : IsL H F) (hbase : attributeBase e "items" X.env (eval e X.env) = eval e X.env := by rfl) (hline : (apos.endLine == cpos.line) = true := by rfl) :
    PItG (Off1 F) X (.Tuple elts kk tpos) (.Call (.Attribute e "items" apos) [] [] cpos) σ H kds.length (YI kds) := by
  refine ⟨_, pi_itemsT pe_s hbase hline, fun H1 hs R hR => h.t hs fun v H2 s2 pd => ?_⟩
  obtain ⟨d, vs, rfl, n, hd, hw⟩ := pd
  have hF1 := hF.same hs
  have nF : d ≠ F := fun z => by obtain ⟨k, q⟩ := hF1; rw [← z, n] at q; cases q
  refine ⟨d, _, rfl, hd, fun o => hR _ _ ?_ ?_⟩
  · intro b u e
    have nb : b ≠ d := ne_of_none e n
    rw [upd_ne nb]
    exact s2 b u e
  · have t2 : TK H2 (upd H2 d (.frz o (.dT ((kds.map (·.1)).zip vs)))) := TK.upd (fun ys e => by rw [hd] at e; cases e) fun _ ys e => by rw [hd] at e; cases e
    have hF2 : IsL (upd H2 d (.frz o (.dT ((kds.map (·.1)).zip vs)))) F := by
      obtain ⟨xs, e⟩ := hF1.same s2
      exact ⟨xs, by rw [upd_ne (Ne.symm nF)]; exact e⟩
    have hl : vs.length = kds.length := by rw [hw.length, List.length_map]
    have hz : ((kds.map (·.1)).zip vs).length = kds.length := by rw [List.length_zip, List.length_map, hl, Nat.min_self]
    have fz : ∀ H', Off1 F (upd H2 d (.frz o (.dT ((kds.map (·.1)).zip vs)))) H' → H' d = some (.frz o (.dT ((kds.map (·.1)).zip vs))) := fun H' s => s _ _ nF upd_same
    refine ⟨fun i H' hi s => ⟨fz H' s, by rw [hz]; exact hi⟩, fun H' s => ⟨fz H' s, by rw [hz]; exact Nat.le_refl _⟩, fun i H' x H'' hi s y => ?_⟩
    obtain ⟨T, q, k, v, hkv, rfl, nT, hq, rfl⟩ := y
    have hg : kds[i]? = some kds[i] := List.getElem?_eq_getElem hi
    have hk : ((kds.map (·.1)).zip vs)[i]? = some (kds[i].1, v) := by
      rw [List.getElem?_zip_eq_some] at hkv ⊢
      refine ⟨by rw [List.getElem?_map, hg]; rfl, hkv.2⟩
    rw [hk] at hkv
    have ek : kds[i].1 = k := congrArg Prod.fst (Option.some.inj hkv)
    obtain ⟨t, ht, hwt⟩ := hw.get' (List.getElem?_zip_eq_some.mp hk).2
    rw [List.getElem?_map, hg] at ht
    have ht : kds[i].2 = t := Option.some.inj ht
    have sn := same_new (o := .tup [.ref q, v]) nT
    exact ⟨sn, T, q, v, k, t, by rw [hg, ← ek, ← ht], rfl, upd_same, sn _ _ hq, (hwt.ts (t2.trans (s.tk hF2))).same sn⟩
theorem ws_forGH {S : Hp → Hp → Prop} {g : TG} {n : Nat} {Y : Nat → Hp → V → Hp → Prop} {body : List Stmt} {D : Ends} (hp : PassesOwn (model X.prog X.w) X.A X.env X.xe) (hc : X.calm = true) (hi : PItG S X tg iter σ H n Y) (hg : PG X tg g) (Pv : Hp → Nat → St → Hp → Prop)
    (h0 : ∀ H1, Same H H1 → Pv H1 0 σ H1) (hS : ∀ H1 i σ' H', Same H H1 → i ≤ n → Pv H1 i σ' H' → S H1 H')
    (hs : ∀ H1 i x σ' H' H'', Same H H1 → i < n → Pv H1 i σ' H' → Y i H' x H'' → GTo g σ' H'' x fun σ2 => WB X body { D with nx := Pv H1 (i + 1), ct := Pv H1 (i + 1), bk := D.nx } σ2 H'')
    (hd : ∀ H1 σ' H', Same H H1 → Pv H1 n σ' H' → D.nx σ' H') (hf : ∀ x, foldedSetIterable iter X.env x = pure x := by intro _; rfl) : WS X (.For tg iter body [] pos) D σ H := by
  obtain ⟨wi, hpi, hq⟩ := hi
  refine .of (ps_for hp hc hpi hg pss_w hf) (hq H (Same.refl _) _ fun J H2 s2 w => for_it w (Pv H2) (h0 H2 s2) (fun i σ' H' hi p => hS H2 i σ' H' s2 hi p) (fun i x σ' H' H'' hi p y => ?_) fun σ' H' p => hd H2 σ' H' s2 p)
  exact hs H2 i x σ' H' H'' s2 hi p y _ fun σ2 h => h
end
section
variable {α : Type} [DecidableEq α] [DatumOrd α] {x : α} {xs : List α} {X : Cx} {e : Expr} {σ : St} {H : Hp} {pos : Pos}
/-- min of a list: which of them it is -/
def rMinLi (α : Type) [DecidableEq α] [DatumOrd α] : List V → Hp → VK → Prop := fun us H Q => ∃ (p : Addr) (vs : List V) (x : α) (xs : List α), us = [.ref p] ∧ H p = some (.lst vs) ∧ HDs H vs (x :: xs) ∧ ∀ (i : Nat) y, vs[i]? = some y → (x :: xs)[i]? = some (minOf x xs) → Q y H
theorem cr_minLi (hc : X.calm = true) (hu : X.A.units + 64 < cLine) (hd : Datum.depth α ≤ 60) : CallR X (.builtin "min") (rMinLi α) := fun pins s σ H xs us Q I r ⟨p, vs, x, ys, e, hp, hs, q⟩ => by
  subst e
  obtain ⟨u, rfl, ru⟩ := Vals.one r
  obtain rfl : u = Value.ref p := ru
  obtain ⟨its, rv, hT, _⟩ := I.list (SqL.of hp)
  refine PySem.W.min_list_datum (vs := its.toArray) (I.ok.hd hc) hT.isList (by simpa using hs.holds I rv) (hu_dep1 hu hd) fun i v h' tk hv hm k => ?_
  have hv : its[i]? = some v := by simpa using hv
  obtain ⟨w, hw, rw'⟩ : ∃ w, vs[i]? = some w ∧ RelV w v := by
    have hl := rv.length
    have hi : i < its.length := (List.getElem?_eq_some_iff.mp hv).1
    have hi2 : i < vs.length := by omega
    obtain ⟨u', h1, h2⟩ := rv.get (List.getElem?_eq_getElem hi2)
    rw [hv] at h1
    cases h1
    exact ⟨_, List.getElem?_eq_getElem hi2, h2⟩
  obtain ⟨z, hz, dz⟩ := hs.get' hw
  have I' : Inv X pins σ H { s with heap := h', toks := tk } := I.kept k
  have e : z = minOf x ys := holds_inj (dz.holds I' rw') hm
  subst e
  exact ⟨w, H, I', rw', q i w hw hz⟩
end
section
variable {X : Cx} {e : Expr} {σ : St} {H : Hp} {pos : Pos}
theorem pv_minW {p : Pos} {l : Addr} {vs : List V} {x : Lab} {xs : List Lab} (hc : X.calm = true) (hm : X.mg "min" = none) (ha : PV X e σ H (.v (.ref l))) (hl : H l = some (.lst vs)) (hs : W3s H vs (x :: xs)) (hu : X.A.units + 64 < cLine := by assumption) (hg : Gl X "min" := by rfl) (ns : NS X e := by rfl) :
    PV X (.Call (.Name "min" p) [e] [] pos) σ H (.w3 (minOf x xs)) :=
  pv_callB (cr_minLi (α := Lab) hc hu (by decide)) hm (by decide +kernel) (pas_cons ha pas_nil ns) (fun H0 H' ws s0 s1 pr Q q => by
    obtain ⟨v, rfl, pv⟩ := rsl1 pr
    have pv : v = .ref l := pv
    have hs' := hs.same (s0.trans s1)
    exact ⟨l, vs, x, xs, by rw [pv], (s0.trans s1) _ _ hl, hs'.hds, fun i y hy hi => q y H' (Same.refl _) (by
      obtain ⟨t, ht, hw⟩ := hs'.get' hy
      rw [hi] at ht
      rw [Option.some.inj ht]
      exact hw)⟩) hg (he := ns)
end
/-! ### the closed walks found -/
abbrev Rs.least (o : Option Lab) : Rs := .p (fun H v => match o with
  | none => v = .non
  | some t => W3 H v t) fun H H' v s h => by
    cases o with
    | none => exact h
    | some t => exact W3.same s h
theorem found_len {P : List Bond} (ok : PatOk P) : ∀ l : List Bond, (∀ b ∈ l, b ∈ P) → (l.map fun first => closedAt (walksB P first) first).flatten.length ≤ l.length * 8
  | [], _ => Nat.zero_le _
  | b :: l, h => by
    rw [List.map_cons, List.flatten_cons, List.length_append, List.length_cons, Nat.add_mul, Nat.one_mul]
    have := found_len ok l fun c hc => h c (List.mem_cons_of_mem _ hc)
    have h2 : (closedAt (walksB P b) b).length ≤ 8 := by
      unfold closedAt
      rw [List.length_map]
      exact Nat.le_trans (List.length_filter_le _ _) (Nat.le_trans (walksB_ok ok (h b List.mem_cons_self)).1.size ok.few)
    omega
section
variable {P : Program} {w : World} {K : PySem.W.Frag} {mg : Str → Option Value} {base : Heap}
abbrev spLeast : Sp := spY (fun (y : List Bond) vs H => ∃ v, vs = [v, .bl true] ∧ HD H v (Tup.mk y) ∧ PatOk y) fun y => .least (leastM y)
structure LwW (H : Hp) (F : Addr) (fs : List V) (found : List Lab) (H' : Hp) : Prop where
  s : Same H H'
  f : H' F = some (.lst fs)
  w : W3s H' fs found
theorem LwW.same {H : Hp} {F : Addr} {fs : List V} {found : List Lab} {H1 H2 : Hp} (h : LwW H F fs found H1) (s : Same H1 H2) : LwW H F fs found H2 := ⟨h.s.trans s, s _ _ h.f, h.w.same s⟩
theorem LwW.add {H : Hp} {F : Addr} {fs : List V} {found : List Lab} {H1 : Hp} (h : LwW H F fs found H1) (n : H F = none) {v : V} {t : Lab} (k : W3 H1 v t) : LwW H F (fs ++ [v]) (found ++ [t]) (L2.upd H1 F (.lst (fs ++ [v]))) := by
  have tk := TK.updL (o := .lst (fs ++ [v])) h.f
  exact ⟨Same.updN h.s n, upd_same, (h.w.ts tk).append (.cons (k.ts tk) .nil)⟩
theorem ok_least_walk (T : Txt K mg) : Dfn P w K mg base 4 "least_walk" ["pattern", "is_weighed"] spLeast := by
  refine dfn_of T.h_least_walk sc_least_walk (fun vs H Q E h => ?_) (fun f cdv A outer s H vs Q E hr h => ?_)
  · obtain ⟨_, ⟨_, rfl, _⟩, _⟩ := h; rfl
  · obtain ⟨y, ⟨v, rfl, hv, ok⟩, q⟩ := h
    have hu := hr.units
    have few := ok.few
    refine wb_cons (ws_par 2 3 sc_least_walk.nd rfl (pv_cal (ok_tupled T 2) hr (pas_cons (pv_dat 0 rfl hv) pas_nil) (Datum.toD (Tup.mk y)) fun H0 H' vs s0 s1 pr => ?_) (pv_lst pad_nil) fun v2 v3 H1 s1 p2 p3 => ?_)
    · obtain ⟨z, rfl, pz⟩ := rsl1 pr
      exact ⟨⟨z, rfl, pz⟩, flat_pat (by omega) 0⟩
    · have p2 : HD H1 v2 (Tup.mk y) := p2
      obtain ⟨F, fs0, rfl, nF, eF, hF⟩ := p3
      cases hF
      have W0 : LwW H F [] [] H1 := ⟨s1, eF, .nil⟩
      refine wb_cons (ws_forH (g := gName 4) (ds := y.map Datum.toD) PassesOwn.never rfl (pit_tup (pv_dat 2 rfl p2)) (pg_name (i := 4) sc_least_walk.nd rfl (Or.inl rfl))
        (fun H2 i σ' H' => TK H2 H' ∧ ∃ fs o4 o5 o6 o7 o8, σ' = [some v, some (.bl true), some v2, some (.ref F), o4, o5, o6, o7, o8] ∧ LwW H F fs ((y.take i).map fun first => closedAt (walksB y first) first).flatten H')
        (fun H2 s2 => ⟨TK.refl _, [], _, _, _, _, _, rfl, W0.same s2⟩) (fun H2 i σ' H' s2 _ p => p.1) (fun H2 i d x σ' H3 s2 hd p H4 s4 dx => ?_) fun H2 σ' H' s2 p => ?_)
      · obtain ⟨t2, fs, o4, o5, o6, o7, o8, rfl, W⟩ := p
        obtain ⟨first, hfirst, rfl⟩ := map_some hd
        have hmem := List.mem_of_getElem? hfirst
        have W := W.same s4
        have p4 : HD H4 v2 (Tup.mk y) := HD.ts (((TK.same s2).trans t2).trans (.same s4)) p2
        have eT : ((y.take (i + 1)).map fun first => closedAt (walksB y first) first).flatten = ((y.take i).map fun first => closedAt (walksB y first) first).flatten ++ closedAt (walksB y first) first := by
          rw [take_succ' hfirst, List.map_append, List.flatten_append]; simp
        have hlen := found_len ok (y.take (i + 1)) fun b hb => List.mem_of_mem_take hb
        have hlt : (y.take (i + 1)).length ≤ 8 := by rw [List.length_take]; omega
        rw [eT] at hlen ⊢
        generalize ((y.take i).map fun first => closedAt (walksB y first) first).flatten = acc at W hlen
        refine gto_name (wb_one (ws_forGH (g := gTup K 2 (gCons (gName 5) (gCons (gTup K 3 (gCons (gName 6) (gCons (gName 7) (gCons (gName 8) gNil)))) gNil))) PassesOwn.never rfl (pit_itemsO (F := F) (kds := kdsOf (walksB y first)) (pv_cal (ok_walks_from T) hr (pas_cons (pv_dat 2 rfl p4) (pas_cons (pv_dat 4 rfl dx) (pas_cons (pv_dat 1 rfl (DI.bl true)) pas_nil))) (y, first) fun H0 H' vs s0 s1 pr => ?_) ⟨_, W.f⟩)
          (pg_tup rfl (pgs_cons (pg_name (i := 5) sc_least_walk.nd rfl (Or.inl rfl)) (pgs_cons (pgT3 sc_least_walk.nd rfl 6 7 8) pgs_nil)))
          (fun H5 j σ' H' => Off1 F H5 H' ∧ ∃ fs o5 o6 o7 o8, σ' = [some v, some (.bl true), some v2, some (.ref F), some x, o5, o6, o7, o8] ∧ LwW H F fs (acc ++ closedAt ((walksB y first).take j) first) H')
          (fun H5 s5 => ⟨Off1.refl _ _, fs, _, _, _, _, rfl, by
            have e0 : closedAt ((walksB y first).take 0) first = [] := by rw [List.take_zero]; rfl
            rw [e0, List.append_nil]; exact W.same s5⟩) (fun H5 j σ' H' s5 _ p => p.1) (fun H5 j xx σ' H6 H7 s5 hj p yi => ?_) fun H5 σ' H' s5 p => ?_))
        · obtain ⟨z1, z2, z3, rfl, a1, a2, a3⟩ := rsl3 pr
          have a3 := Rs.pB a3
          subst a3
          exact ⟨z1, z2, rfl, a1, a2, ok, hmem⟩
        · obtain ⟨offJ, fs', o5, o6, o7, o8, rfl, W6⟩ := p
          obtain ⟨s7, T0, qa, vv, k, t, hkt, rfl, hT0, hqa, hw⟩ := yi
          have W7 := W6.same s7
          unfold kdsOf at hkt
          rw [List.getElem?_map] at hkt
          obtain ⟨lp, hlp, ekt⟩ := Option.map_eq_some_iff.mp hkt
          have ek : bKey lp.1 = k := congrArg Prod.fst ekt
          have et : lp.2 = t := congrArg Prod.snd ekt
          have hlast : HD H7 (.ref qa) lp.1 := HD.bond (by rw [hqa, ← ek]; rfl)
          have tk47 : TK H4 H7 := ((TK.same s5).trans (offJ.tk (IsL.same ⟨_, W.f⟩ s5))).trans (.same s7)
          have dx7 : HD H7 x first := DI.ts tk47 dx
          refine gto_item hT0 hw fun v3 hv3 => wb_one (ws_if (k := decide (lp.1.c = first.a)) (pb_eqT (α := Str) (pv_ixD (pv_dat 5 rfl hlast) pv_int (atI_nat (k := 2) rfl)) (pv_ixD (pv_dat 4 rfl dx7) pv_int (atI_zero rfl))) (fun hk H8 s8 => ?_) fun hk H8 s8 => wb_nil ?_)
          · have hlast8 := HD.same s8 hlast
            have dx8 := HD.same s8 dx7
            have hv38 := Whole.same s8 hv3
            have W8 := W7.same s8
            have eJ : closedAt ((walksB y first).take (j + 1)) first = closedAt ((walksB y first).take j) first ++ [closeL first lp] := by
              unfold closedAt
              rw [take_succ' hlp, List.filter_append, List.map_append, List.filter_cons_of_pos (p := fun p : Bond × Lab => decide (p.1.c = first.a)) hk]; rfl
            have hl8 : fs'.length ≤ 100000 := by
              have e1 := W8.w.length
              have e2 : (closedAt ((walksB y first).take j) first).length ≤ 1000 := by
                unfold closedAt
                rw [List.length_map]
                refine Nat.le_trans (List.length_filter_le _ _) ?_
                rw [List.length_take]
                have := (walksB_ok ok hmem).1.size
                omega
              rw [List.length_append] at e1 hlen
              omega
            refine wb_one (ws_append (r := .w3 (closeL first lp)) (pv_name 3 rfl) W8.f (by omega) (PV.is (pv_w3 (x := t.a + (if true = true then 1 else 0) * turnI lp.1 first) (y := t.b) (w := t.c.items) (pv_add (pv_dat 6 rfl (DI.int _)) (pv_mul (pv_intB T.b_int (pv_dat 1 rfl (DI.bl _))) (pv_cal (ok_turning T) hr (pas_cons (pv_dat 5 rfl hlast8) (pas_cons (pv_dat 4 rfl dx8) pas_nil)) (lp.1, first) fun H0 H' vs s0 s1 pr => ?_) (.inl (by decide)))) (pv_dat 7 rfl (DI.int _)) ?_ hw.ne) ?_) fun v9 H9 s9 p9 => ?_)
            · obtain ⟨z1, z2, rfl, a1, a2⟩ := rsl2 pr
              exact ⟨z1, z2, rfl, a1, a2⟩
            · exact PV.of pe_s fun H14 s14 => (pv_name 8 rfl).t s14 fun v H15 s15 pv => ⟨s15, by
                have pv : v = v3 := pv
                rw [pv]
                exact Whole.same (s14.trans s15) hv38⟩
            · show Rs.w3 _ = Rs.w3 _
              unfold closeL
              rw [if_pos rfl, Int.one_mul, ← et]
            · rw [eJ]
              refine ⟨offJ.trans ((Off1.of (s7.trans (s8.trans s9))).trans (Off1.up _ _)), fs' ++ [v9], _, _, _, _, rfl, ?_⟩
              rw [← List.append_assoc]
              exact (W8.same s9).add nF p9
          · have eJ : closedAt ((walksB y first).take (j + 1)) first = closedAt ((walksB y first).take j) first := by
              unfold closedAt
              rw [take_succ' hlp, List.filter_append, List.map_append, List.filter_cons_of_neg (p := fun p : Bond × Lab => decide (p.1.c = first.a)) (by rw [hk]; decide)]; simp
            rw [eJ]
            exact ⟨offJ.trans (Off1.of (s7.trans s8)), _, _, _, _, _, rfl, W7.same s8⟩
        · obtain ⟨offJ, fs', o5, o6, o7, o8, rfl, W6⟩ := p
          unfold kdsOf at W6
          rw [List.length_map, List.take_length] at W6
          exact ⟨((t2.trans (.same (s4.trans s5))).trans (offJ.tk (IsL.same ⟨_, W.f⟩ s5))), fs', _, _, _, _, _, rfl, W6⟩
      · obtain ⟨_, fs, o4, o5, o6, o7, o8, rfl, W⟩ := p
        rw [List.length_map, List.take_length] at W
        have W : LwW H F fs (foundM y) H' := W
        have hl := W.w.length
        refine wb_one (ws_ret (r := .least (leastM y)) (pv_ifE (k := decide ((0 : Int) < fs.length)) (pb_gt (pv_lenV T.b_len (pv_name 3 rfl) (SqL.of W.f)) pv_int) (fun hk => ?_) fun hk => ?_) fun v9 H9 s9 p9 => q v9 H9 (W.s.trans s9) p9)
        · have hk : (0 : Int) < fs.length := of_decide_eq_true hk
          have Ww := W.w
          unfold leastM
          cases hfm : foundM y with
          | nil => rw [hfm, List.length_nil] at hl; omega
          | cons z zs =>
            rw [hfm] at Ww
            exact pv_minW rfl T.b_min (pv_name 3 rfl) W.f Ww
        · have hk := of_decide_eq_false hk
          unfold leastM
          cases hfm : foundM y with
          | nil => exact PV.of pe_s fun H14 s14 => pv_non.t s14 fun v H15 s15 pv => ⟨s15, Rs.pN pv⟩
          | cons z zs => rw [hfm, List.length_cons] at hl; omega
end
end Bx
set_option Elab.async false
set_option linter.all false
set_option maxRecDepth 100000
/-! M3: which names lead where. -/
namespace Bx
open PySem
open PySem.W (Datum DatumOrd T3 T4 Tup minOf)
def addS (l : List Str) (b : Str) : List Str := if b ∈ l then l else l ++ [b]
def joinS (A B : List Str) : List Str := B.foldl addS A
abbrev Lds := Str → List Str
def lead0 : Lds := fun n => [n]
def leadB (R : Lds) (b : Bond) : Lds := fun n => if n = b.a then joinS (joinS [] (R b.a)) (R b.c) else R n
def lapM (P : List Bond) (R : Lds) : Lds := P.foldl leadB R
def lapsM (P : List Bond) : Nat → Lds
  | 0 => lead0
  | k + 1 => lapM P (lapsM P k)
def leadsM (P : List Bond) : Lds := lapsM P (namesM P).length
def onRingsM (P : List Bond) : List Bond := P.filter fun b => decide (b.a ∈ leadsM P b.c)
theorem mem_addS {l : List Str} {b c : Str} : c ∈ addS l b ↔ c ∈ l ∨ c = b := by
  unfold addS
  by_cases h : b ∈ l
  · rw [if_pos h]; exact ⟨.inl, fun q => q.elim id fun e => e ▸ h⟩
  · rw [if_neg h, List.mem_append, List.mem_singleton]
theorem addS_nd {l : List Str} {b : Str} (h : l.Nodup) : (addS l b).Nodup := by
  unfold addS
  by_cases hb : b ∈ l
  · rw [if_pos hb]; exact h
  · rw [if_neg hb, List.nodup_append]
    exact ⟨h, by simp, fun x hx y hy e => hb (by rw [List.mem_singleton] at hy; rw [← hy, ← e]; exact hx)⟩
theorem mem_joinS {c : Str} : ∀ {B A : List Str}, c ∈ joinS A B ↔ c ∈ A ∨ c ∈ B
  | [], A => ⟨.inl, fun h => h.elim id fun z => nomatch z⟩
  | b :: B, A => by
    show c ∈ joinS (addS A b) B ↔ _
    rw [mem_joinS, mem_addS, List.mem_cons, or_assoc]
theorem joinS_nd : ∀ {B A : List Str}, A.Nodup → (joinS A B).Nodup
  | [], _, h => h
  | _ :: B, _, h => joinS_nd (B := B) (addS_nd h)
structure LdOk (P : List Bond) (R : Lds) : Prop where
  nd : ∀ n ∈ namesM P, (R n).Nodup
  sub : ∀ n ∈ namesM P, ∀ x ∈ R n, x ∈ namesM P
theorem lead0_ok (P : List Bond) : LdOk P lead0 := ⟨fun n _ => by unfold lead0; simp, fun n hn x hx => by
  unfold lead0 at hx
  rw [List.mem_singleton] at hx
  exact hx ▸ hn⟩
theorem leadB_ok {P : List Bond} {R : Lds} (h : LdOk P R) {b : Bond} (hb : b ∈ P) : LdOk P (leadB R b) := by
  have ha : b.a ∈ namesM P := namesM_mem.mpr ⟨b, hb, .inl rfl⟩
  have hc : b.c ∈ namesM P := namesM_mem.mpr ⟨b, hb, .inr rfl⟩
  refine ⟨fun n hn => ?_, fun n hn x hx => ?_⟩
  · unfold leadB
    by_cases e : n = b.a
    · rw [if_pos e]; exact joinS_nd (joinS_nd List.nodup_nil)
    · rw [if_neg e]; exact h.nd n hn
  · unfold leadB at hx
    by_cases e : n = b.a
    · rw [if_pos e, mem_joinS, mem_joinS] at hx
      rcases hx with (hx | hx) | hx
      · cases hx
      · exact h.sub _ ha x hx
      · exact h.sub _ hc x hx
    · rw [if_neg e] at hx
      exact h.sub n hn x hx
theorem lapL_ok {P : List Bond} : ∀ (L : List Bond) {R : Lds}, (∀ b ∈ L, b ∈ P) → LdOk P R → LdOk P (L.foldl leadB R)
  | [], _, _, h => h
  | b :: L, _, hL, h => lapL_ok L (fun c hc => hL c (List.mem_cons_of_mem _ hc)) (leadB_ok h (hL b List.mem_cons_self))
theorem laps_ok {P : List Bond} : ∀ k, LdOk P (lapsM P k)
  | 0 => lead0_ok P
  | k + 1 => lapL_ok P (fun _ h => h) (laps_ok k)
theorem LdOk.len {P : List Bond} {R : Lds} (h : LdOk P R) (h5 : (dd (flatN P)).length ≤ 5) {n : Str} (hn : n ∈ namesM P) : (R n).length ≤ 5 := by
  have := nodup_len (h.nd n hn) (h.sub n hn)
  rw [namesM_len] at this
  omega
end Bx
set_option Elab.async false
set_option linter.all false
set_option maxRecDepth 100000
/-! M4: closed walks, rotations, rings. -/
namespace Bx
open PySem
open PySem.W (Datum DatumOrd T3 T4 Tup minOf)
def begunM (w : List Bond) : List Bond := match w with
  | [] => []
  | x :: r => (x :: r).drop ((x :: r).idxOf (minOf x r)) ++ (x :: r).take ((x :: r).idxOf (minOf x r))
/-- a closed walk -/
structure Cyc (P : List Bond) (w : List Bond) : Prop where
  ne : w ≠ []
  mem : ∀ b ∈ w, b ∈ P
  wk : ∃ a, Wk a w a
/-- a closed walk through different names -/
structure Smp (P : List Bond) (w : List Bond) : Prop extends Cyc P w where
  nd : (ringN w).Nodup
def lst (x : Bond) (r : List Bond) : Bond := (x :: r).getLast (by simp)
theorem lst_cons (x y : Bond) (r : List Bond) : lst x (y :: r) = lst y r := by
  unfold lst
  exact List.getLast_cons _
theorem openT_app : ∀ (x : Bond) (r : List Bond) (y : Bond) (s : List Bond), openT (x :: r ++ y :: s) = openT (x :: r) + turnI (lst x r) y + openT (y :: s)
  | x, [], y, s => by
    show turnI x y + openT (y :: s) = 0 + turnI x y + openT (y :: s)
    rw [Int.zero_add]
  | x, z :: r, y, s => by
    show turnI x z + openT (z :: r ++ y :: s) = turnI x z + openT (z :: r) + turnI (lst x (z :: r)) y + openT (y :: s)
    rw [openT_app z r y s, lst_cons]
    omega
theorem turnsM_lst (x : Bond) (r : List Bond) : turnsM (x :: r) = openT (x :: r) + turnI (lst x r) x := by
  rw [turnsM_open, openT_app x r x []]
  show _ + _ + 0 = _
  omega
theorem lst_app (x : Bond) (r : List Bond) (y : Bond) (s : List Bond) : lst x (r ++ y :: s) = lst y s := by
  unfold lst
  have e : x :: (r ++ y :: s) = (x :: r) ++ (y :: s) := rfl
  simp only [e]
  exact List.getLast_append_of_ne_nil _ (List.cons_ne_nil _ _)
theorem turnsM_app (x : Bond) (r : List Bond) (y : Bond) (s : List Bond) : turnsM (x :: r ++ y :: s) = openT (x :: r) + turnI (lst x r) y + openT (y :: s) + turnI (lst y s) x := by
  have e : x :: r ++ y :: s = x :: (r ++ y :: s) := rfl
  rw [e, turnsM_lst, ← e, openT_app, lst_app]
theorem turnsM_rot : ∀ u v : List Bond, turnsM (u ++ v) = turnsM (v ++ u)
  | [], v => by rw [List.append_nil]; rfl
  | x :: r, [] => by rw [List.append_nil]; rfl
  | x :: r, y :: s => by
    rw [turnsM_app, turnsM_app]
    omega
theorem turnsM_nonneg : ∀ w : List Bond, 0 ≤ turnsM w
  | [] => Int.le_refl _
  | x :: r => by
    rw [turnsM_open]
    exact openT_nonneg _
theorem turns_split (x : Bond) (r : List Bond) (y : Bond) (s : List Bond) : turnsM (x :: r) + turnsM (y :: s) ≤ turnsM (x :: r ++ y :: s) + 1 := by
  rw [turnsM_app, turnsM_lst, turnsM_lst]
  have key : turnI (lst x r) x + turnI (lst y s) y ≤ turnI (lst x r) y + turnI (lst y s) x + 1 := by
    unfold turnI turnB
    by_cases h1 : (lst x r).d = "r" <;> by_cases h2 : (lst y s).d = "r" <;> by_cases h3 : x.b = "s" <;> by_cases h4 : y.b = "s" <;> simp [h1, h2, h3, h4]
  omega
theorem wk_rot {a : Str} {u v : List Bond} (h : Wk a (u ++ v) a) : ∃ m, Wk m (v ++ u) m := by
  obtain ⟨m, h1, h2⟩ := wk_append.mp h
  exact ⟨m, wk_append.mpr ⟨a, h2, h1⟩⟩
section
variable {P : List Bond}
theorem Cyc.rot {u v : List Bond} (h : Cyc P (u ++ v)) : Cyc P (v ++ u) := by
  obtain ⟨a, w⟩ := h.wk
  refine ⟨fun e => h.ne ?_, fun b hb => h.mem b ?_, wk_rot w⟩
  · rw [List.append_eq_nil_iff] at e ⊢
    exact ⟨e.2, e.1⟩
  · rw [List.mem_append] at hb ⊢
    exact hb.symm
theorem Smp.rot {u v : List Bond} (h : Smp P (u ++ v)) : Smp P (v ++ u) := by
  refine ⟨h.toCyc.rot, ?_⟩
  have := h.nd
  unfold ringN at this ⊢
  rw [List.map_append] at this ⊢
  exact (List.perm_append_comm.nodup_iff).mp this
theorem wk_head {a z : Str} {b : Bond} {r : List Bond} (h : Wk a (b :: r) z) : b.a = a := h.1
theorem fw_of_wk {first : Bond} : ∀ {r pre : List Bond} {near : Bond} {z : Str}, FW P first pre near → Wk near.c r z → (∀ b ∈ r, b ∈ P) → ∃ last, FW P first (pre ++ r) last ∧ last.c = z
  | [], pre, near, z, h, w, _ => ⟨near, by rw [List.append_nil]; exact h, w⟩
  | b :: r, pre, near, z, h, w, m => by
    obtain ⟨last, h1, h2⟩ := fw_of_wk (r := r) (h.snoc (m b List.mem_cons_self) w.1) w.2 fun c hc => m c (List.mem_cons_of_mem _ hc)
    rw [List.append_assoc] at h1
    exact ⟨last, h1, h2⟩
theorem Cyc.cw {w : List Bond} (h : Cyc P w) : ∃ first last, CW P first last w := by
  obtain ⟨a, k⟩ := h.wk
  cases w with
  | nil => exact absurd rfl h.ne
  | cons b r =>
    obtain ⟨last, h1, h2⟩ := fw_of_wk (r := r) (FW.one (h.mem b List.mem_cons_self)) k.2 fun c hc => h.mem c (List.mem_cons_of_mem _ hc)
    exact ⟨b, last, h1, h2.trans k.1.symm⟩
theorem FW.wk {first last : Bond} {w : List Bond} (h : FW P first w last) : Wk first.a w last.c := by
  induction h with
  | one _ => exact ⟨rfl, rfl⟩
  | snoc _ _ ha ih => exact wk_append.mpr ⟨_, ih, ha, rfl⟩
theorem CW.cyc {first last : Bond} {w : List Bond} (h : CW P first last w) : Cyc P w := ⟨h.fw.ne, h.fw.mem, first.a, by
  have := h.fw.wk
  rwa [h.cl] at this⟩
/-- a name that comes twice -/
theorem dup_split : ∀ {w : List Bond}, ¬ (ringN w).Nodup → ∃ u b v c z, w = u ++ b :: v ++ c :: z ∧ b.a = c.a
  | [], h => absurd List.nodup_nil h
  | x :: w, h => by
    by_cases hx : x.a ∈ ringN w
    · obtain ⟨c, hc, e⟩ := List.mem_map.mp hx
      obtain ⟨v, z, rfl⟩ := List.append_of_mem hc
      exact ⟨[], x, v, c, z, rfl, e.symm⟩
    · have h2 : ¬ (ringN w).Nodup := fun k => h (List.nodup_cons.mpr ⟨hx, k⟩)
      obtain ⟨u, b, v, c, z, e, q⟩ := dup_split h2
      exact ⟨x :: u, b, v, c, z, by rw [e]; rfl, q⟩
/-- a least closed walk goes through different names -/
theorem least_smp {w : List Bond} (h : Cyc P w) (least : ∀ w', Cyc P w' → turnsM w < turnsM w' ∨ (turnsM w = turnsM w' ∧ w.length ≤ w'.length)) : Smp P w := by
  refine ⟨h, Classical.byContradiction fun nd => ?_⟩
  obtain ⟨u, b, v, c, z, rfl, e⟩ := dup_split nd
  have e1 : u ++ b :: v ++ c :: z = u ++ (b :: v ++ c :: z) := by rw [List.append_assoc]
  rw [e1] at h least
  have h2 := h.rot
  have e2 : b :: v ++ c :: z ++ u = (b :: v) ++ (c :: (z ++ u)) := by simp
  have et : turnsM (u ++ (b :: v ++ c :: z)) = turnsM ((b :: v) ++ (c :: (z ++ u))) := by rw [turnsM_rot, e2]
  rw [e2] at h2
  obtain ⟨a, k⟩ := h2.wk
  obtain ⟨m, k1, k2⟩ := wk_append.mp k
  have ea : b.a = a := k1.1
  have em : c.a = m := k2.1
  have hA : Cyc P (b :: v) := ⟨List.cons_ne_nil _ _, fun x hx => h2.mem x (List.mem_append_left _ hx), m, by rw [← em, ← e, ea] at k1 ⊢; exact k1⟩
  have hB : Cyc P (c :: (z ++ u)) := ⟨List.cons_ne_nil _ _, fun x hx => h2.mem x (List.mem_append_right _ hx), m, by rw [← ea, e, em] at k2; exact k2⟩
  have lA := least _ hA
  have lB := least _ hB
  have sp := turns_split b v c (z ++ u)
  rw [← et] at sp
  have nn := turnsM_nonneg (u ++ (b :: v ++ c :: z))
  have n1 : (b :: v).length < (u ++ (b :: v ++ c :: z)).length := by simp only [List.length_append, List.length_cons]; omega
  have n2 : (c :: (z ++ u)).length < (u ++ (b :: v ++ c :: z)).length := by simp only [List.length_append, List.length_cons]; omega
  omega
/-! ### rotations -/
def Rot (w w' : List Bond) : Prop := ∃ u v, w = u ++ v ∧ w' = v ++ u
theorem Rot.symm {w w' : List Bond} (h : Rot w w') : Rot w' w := by
  obtain ⟨u, v, h1, h2⟩ := h
  exact ⟨v, u, h2, h1⟩
theorem Rot.map {w w' : List Bond} (f : Bond → Bond) (h : Rot w w') : Rot (w.map f) (w'.map f) := by
  obtain ⟨u, v, rfl, rfl⟩ := h
  exact ⟨u.map f, v.map f, List.map_append, List.map_append⟩
theorem Rot.rev {w w' : List Bond} (h : Rot w w') : Rot w.reverse w'.reverse := by
  obtain ⟨u, v, rfl, rfl⟩ := h
  exact ⟨v.reverse, u.reverse, List.reverse_append, List.reverse_append⟩
theorem Rot.perm {w w' : List Bond} (h : Rot w w') : w.Perm w' := by
  obtain ⟨u, v, rfl, rfl⟩ := h
  exact List.perm_append_comm
theorem Rot.turns {w w' : List Bond} (h : Rot w w') : turnsM w = turnsM w' := by
  obtain ⟨u, v, rfl, rfl⟩ := h
  exact turnsM_rot u v
theorem Rot.smp {w w' : List Bond} (h : Rot w w') (k : Smp P w) : Smp P w' := by
  obtain ⟨u, v, rfl, rfl⟩ := h
  exact k.rot
theorem begun_rot : ∀ w : List Bond, Rot w (begunM w)
  | [] => ⟨[], [], rfl, rfl⟩
  | x :: r => ⟨_, _, (List.take_append_drop _ _).symm, rfl⟩
theorem nodup_of_names {w : List Bond} (h : (ringN w).Nodup) : w.Nodup := by
  unfold ringN at h
  exact List.Pairwise.imp (fun {a b} (hne : a.a ≠ b.a) e => hne (by rw [e])) (List.pairwise_map.mp h)
/-- a ring, begun at its least bond -/
theorem Smp.ring {w : List Bond} (h : Smp P w) : ∃ m s, begunM w = m :: s ∧ RingOk P m s := by
  have hb := (begun_rot w).smp h
  cases w with
  | nil => exact absurd rfl h.ne
  | cons x r =>
    obtain ⟨h1, h2⟩ := minO_le x r
    have hi := List.idxOf_lt_length_of_mem h1
    have hd := List.drop_eq_getElem_cons hi
    have hg : (x :: r)[(x :: r).idxOf (minOf x r)] = minOf x r := List.getElem_idxOf hi
    have eb : begunM (x :: r) = minOf x r :: ((x :: r).drop ((x :: r).idxOf (minOf x r) + 1) ++ (x :: r).take ((x :: r).idxOf (minOf x r))) := by
      show (x :: r).drop _ ++ _ = _
      rw [hd, hg]; rfl
    have perm := (begun_rot (x :: r)).perm
    rw [eb] at hb perm ⊢
    generalize (x :: r).drop ((x :: r).idxOf (minOf x r) + 1) ++ (x :: r).take ((x :: r).idxOf (minOf x r)) = s at hb perm
    refine ⟨_, s, rfl, ⟨hb.mem, ?_, hb.nd, fun b hbs => ?_⟩, ?_⟩
    · obtain ⟨a, k⟩ := hb.wk
      have ea : (minOf x r).a = a := k.1
      rw [wk_goal k, ea]
      exact k
    · have nd := nodup_of_names hb.nd
      have l := h2 b (perm.mem_iff.mpr (List.mem_cons_of_mem _ hbs))
      exact (leO_iff.mp l).resolve_left fun e => (List.nodup_cons.mp nd).1 (e ▸ hbs)
    · obtain ⟨a, k⟩ := hb.wk
      rw [wk_goal k]
      exact k.1.symm
theorem RingOk.smp {x : Bond} {r : List Bond} (h : RingOk P x r) : Smp P (x :: r) := ⟨⟨List.cons_ne_nil _ _, h.path.mem, x.a, by
  have := h.path.wk
  rwa [h.closed] at this⟩, h.path.nd⟩
theorem minOf_is {x : Bond} {r : List Bond} {m : Bond} (hm : m ∈ x :: r) (hl : ∀ b ∈ x :: r, b = m ∨ DatumOrd.lt m b = true) : minOf x r = m := by
  obtain ⟨h1, h2⟩ := minO_le x r
  refine leO_anti (h2 m hm) ?_
  rcases hl _ h1 with e | e
  · rw [e]; exact leO_refl _
  · exact leO_iff.mpr (.inr e)
theorem begun_is {w : List Bond} {x : Bond} {r : List Bond} (h : Rot w (x :: r)) (nd : (x :: r).Nodup) (first : ∀ b ∈ r, DatumOrd.lt x b = true) : begunM w = x :: r := by
  obtain ⟨u, v, rfl, e⟩ := h
  have hall : ∀ b ∈ x :: r, b = x ∨ DatumOrd.lt x b = true := fun b hb => (List.mem_cons.mp hb).imp id fun q => first b q
  cases v with
  | nil =>
    rw [List.nil_append] at e
    rw [List.append_nil, ← e]
    have hm : minOf x r = x := minOf_is List.mem_cons_self hall
    show (x :: r).drop ((x :: r).idxOf (minOf x r)) ++ (x :: r).take ((x :: r).idxOf (minOf x r)) = _
    rw [hm, List.idxOf_cons_self]
    simp
  | cons y v =>
    rw [List.cons_append] at e
    injection e with e1 e2
    subst e1 e2
    have nu : x ∉ u := fun q => (List.nodup_cons.mp nd).1 (List.mem_append_right _ q)
    have hw : ∃ z s, u ++ x :: v = z :: s := by
      cases u with
      | nil => exact ⟨x, v, rfl⟩
      | cons z u => exact ⟨z, u ++ x :: v, rfl⟩
    obtain ⟨z, s, hz⟩ := hw
    have hp : ∀ b, b ∈ z :: s ↔ b ∈ x :: (v ++ u) := fun b => by
      rw [← hz]
      simp only [List.mem_append, List.mem_cons]
      constructor
      · rintro (h | h | h)
        · exact .inr (.inr h)
        · exact .inl h
        · exact .inr (.inl h)
      · rintro (h | h | h)
        · exact .inr (.inl h)
        · exact .inr (.inr h)
        · exact .inl h
    have hm : minOf z s = x := minOf_is ((hp x).mpr List.mem_cons_self) fun b hb => hall b ((hp b).mp hb)
    rw [hz]
    show (z :: s).drop ((z :: s).idxOf (minOf z s)) ++ (z :: s).take ((z :: s).idxOf (minOf z s)) = _
    rw [hm, ← hz]
    have hi : (u ++ x :: v).idxOf x = u.length := by rw [List.idxOf_append, if_neg nu, List.idxOf_cons_self, Nat.zero_add]
    rw [hi, List.drop_left, List.take_left]
    simp
end
end Bx
set_option Elab.async false
set_option linter.all false
set_option maxRecDepth 100000
set_option maxHeartbeats 4000000
/-! E5: how_many_rings, least_turns, begun_least, least_ring, is_least_ring. -/
namespace Bx
open PySem PySem.Spec PyProof.Rows L2
open PySem.W (Datum DatumOrd Holds HoldAll T3 T4 Tup EachIs minOf)
def leastT (P : List Bond) : PyData := match leastM P with
  | none => .none
  | some t => .int t.a
theorem minOf_le : ∀ (x : Bond) (r : List Bond), minOf x r ∈ x :: r ∧ ∀ y ∈ x :: r, leO (minOf x r) y = true
  | x, [] => ⟨List.mem_singleton.mpr rfl, fun y hy => by rw [List.mem_singleton.mp hy]; exact leO_refl _⟩
  | x, z :: r => by
    have e : minOf x (z :: r) = minOf (if DatumOrd.lt z x = true then z else x) r := rfl
    rw [e]
    obtain ⟨h1, h2⟩ := minOf_le (if DatumOrd.lt z x = true then z else x) r
    have h3 := h2 _ List.mem_cons_self
    by_cases h : DatumOrd.lt z x = true
    · rw [if_pos h] at h1 h2 h3 ⊢
      refine ⟨List.mem_cons_of_mem _ h1, fun y hy => ?_⟩
      rcases List.mem_cons.mp hy with rfl | hy
      · exact leO_tr _ _ _ h3 (leO_iff.mpr (.inr h))
      · exact h2 y hy
    · rw [if_neg h] at h1 h2 h3 ⊢
      refine ⟨(List.mem_cons.mp h1).elim (fun q => by rw [q]; exact List.mem_cons_self) fun q => List.mem_cons_of_mem _ (List.mem_cons_of_mem _ q), fun y hy => ?_⟩
      rcases List.mem_cons.mp hy with rfl | hy
      · exact h3
      · rcases List.mem_cons.mp hy with rfl | hy
        · refine leO_tr _ _ _ h3 ?_
          unfold leO
          rw [Bool.not_eq_true] at h
          rw [h]; rfl
        · exact h2 y (List.mem_cons_of_mem _ hy)
theorem minOf_mem (x : Bond) (r : List Bond) : minOf x r ∈ x :: r := (minOf_le x r).1
section
variable {X : Cx} {a b e : Expr} {σ : St} {H : Hp} {pos : Pos}
/-- found[2] -/
theorem pv_w3at2 {t : Lab} (ha : PV X a σ H (.w3 t)) (hb : PV X b σ H (.i 2)) (hs : PlainIx b := by exact fun _ _ => rfl) : PV X (.Subscript a b pos) σ H (.w (t.c.items.map Datum.toD)) :=
  .of (pe_ix ix_tup pe_s pe_s hs) fun H1 hs => tOp_of (rz := .w (t.c.items.map Datum.toD)) (fun H1 hs Q q => ha.t hs q) (fun H1 hs Q q => hb.t hs q) (fun H0 H' x y _ _ px py Q q => by
    obtain ⟨⟨p, v3, rfl, h1, h2⟩, _⟩ := (show W3 H' x t from px)
    exact ⟨p, _, 2, v3, rfl, Rs.pI py, SqT.of h1, rfl, q v3 H' (Same.refl _) h2⟩) H1 hs fun v H2 s2 p => ⟨s2, p⟩
end
section
variable {P : Program} {w : World} {K : PySem.W.Frag} {mg : Str → Option Value} {base : Heap}
/-! ### how_many_rings -/
abbrev spHow : Sp := spY (fun (y : List Bond × Int) vs H => ∃ v, vs = [v, .int y.2] ∧ HD H v (Tup.mk y.1) ∧ PatOk y.1) fun y => .i (((ringsM y.1).filter fun q => decide (turnsM q.items = y.2)).length : Int)
theorem ringsM_len {P : List Bond} (ok : PatOk P) : (ringsM P).length ≤ 262144 := by
  unfold ringsM
  rw [length_sortO]
  exact all_len ok.few
theorem ok_how (T : Txt K mg) : Dfn P w K mg base 6 "how_many_rings" ["pattern", "many"] spHow := by
  refine dfn_of T.h_how_many_rings sc_how_many_rings (fun vs H Q E h => ?_) (fun f cdv A outer s H vs Q E hr h => ?_)
  · obtain ⟨_, ⟨_, rfl, _⟩, _⟩ := h; rfl
  · obtain ⟨⟨y, k⟩, ⟨v, rfl, hv, ok⟩, q⟩ := h
    have hu := hr.units
    dsimp only at hv ok q
    refine wb_one (ws_ret (r := .i (((ringsM y).filter fun q => decide (turnsM q.items = k)).length : Int)) (PV.is (pv_lenN T.b_len (pv_lc1 (g := gName 2) (xs := ringsM y) (enc := Datum.toD) (p := fun q => decide (turnsM q.items = k)) (f := Datum.toD) rfl sc_how_many_rings.nd (pit_new (pv_cal (ok_rings T) hr (pas_cons (pv_dat 0 rfl hv) pas_nil) y fun H0 H' vs s0 s1 pr => ?_)) (blkOk_by (own := [("ring", 2)]) rfl)
      (fun _ _ _ _ _ => pg_name (i := 2) sc_how_many_rings.nd rfl (Or.inl rfl)) (Nat.le_trans (ringsM_len ok) (by decide)) (fun b v' H1 hb h1 dv => gto_name ⟨rfl, fun s0 H0 C cl fp => pb_eqT (α := Int) (pv_cal (ok_turns T) hr (pas_cons (pv_dat 2 rfl dv) pas_nil) b.items fun H0 H' vs s0 s1 pr => ?_) (pv_dat 1 rfl (DI.int k)), fun s0 H0 C cl fp _ => pv_dat 2 rfl dv⟩))) (by rw [List.length_map])) q)
    · obtain ⟨z, rfl, pz⟩ := rsl1 pr
      exact ⟨z, rfl, pz, ok⟩
    · obtain ⟨z, rfl, pz⟩ := rsl1 pr
      obtain ⟨x, r, rfl, o⟩ := (mem_ringsM ok).mp hb
      have := o.path.len ok.names
      exact ⟨z, rfl, pz, by simp only [List.length_cons]; omega, by simp⟩
/-! ### least_turns -/
abbrev spLt : Sp := spY (fun (y : List Bond) vs H => ∃ v, vs = [v] ∧ HD H v (Tup.mk y) ∧ PatOk y) fun y => .d (leastT y)
theorem ok_least_turns (T : Txt K mg) : Dfn P w K mg base 5 "least_turns" ["pattern"] spLt := by
  refine dfn_of T.h_least_turns sc_least_turns (fun vs H Q E h => ?_) (fun f cdv A outer s H vs Q E hr h => ?_)
  · obtain ⟨_, ⟨_, rfl, _⟩, _⟩ := h; rfl
  · obtain ⟨y, ⟨v, rfl, hv, ok⟩, q⟩ := h
    have hu := hr.units
    refine wb_cons (ws_set (i := 1) sc_least_turns.nd (pv_cal (ok_least_walk T) hr (pas_cons (pv_dat 0 rfl hv) (pas_cons pv_bool pas_nil)) y fun H0 H' vs s0 s1 pr => ?_) fun v1 H1 s1 p1 => ?_)
    · obtain ⟨z1, z2, rfl, pz, pb⟩ := rsl2 pr
      rw [Rs.pB pb]
      exact ⟨z1, rfl, pz, ok⟩
    · have p1 : match leastM y with
        | none => v1 = .non
        | some t => W3 H1 v1 t := p1
      refine wb_one (ws_ret (r := .d (leastT y)) ?_ fun v2 H2 s2 p2 => q v2 H2 (s1.trans s2) p2)
      unfold leastT
      cases hl : leastM y with
      | none =>
        rw [hl] at p1
        subst p1
        exact pv_ifE (pb_isN (x := .none) (pv_dat 1 rfl DI.non)) (fun _ => pv_non) fun z => nomatch z
      | some t =>
        rw [hl] at p1
        exact pv_ifE (pb_isN (x := Datum.toD t) (pv_dat 1 rfl (W3.hd p1))) (fun z => nomatch z) fun _ => pv_ixD (pv_dat 1 rfl (W3.hd p1)) pv_int (atI_zero rfl)
/-! ### begun_least -/
abbrev spBegun : Sp := spY (fun (y : List Bond) vs H => ∃ v, vs = [v] ∧ Whole H v (y.map Datum.toD) ∧ y ≠ [] ∧ y.length ≤ 1000) fun y => .t (Tup.mk (begunM y))
theorem ok_begun (T : Txt K mg) : Dfn P w K mg base 2 "begun_least" ["bonds"] spBegun := by
  refine dfn_of T.h_begun_least sc_begun_least (fun vs H Q E h => ?_) (fun f cdv A outer s H vs Q E hr h => ?_)
  · obtain ⟨_, ⟨_, rfl, _⟩, _⟩ := h; rfl
  · obtain ⟨y, ⟨v, rfl, hv, hne, hl⟩, q⟩ := h
    have hu := hr.units
    cases y with
    | nil => exact absurd rfl hne
    | cons x r =>
      have hT : hasT ((x :: r).map (Datum.toD (α := Bond))) = true := rfl
      have hmin : minOf x r ∈ x :: r := minOf_mem x r
      refine wb_cons (ws_set (i := 1) sc_begun_least.nd (pv_indexW (α := Bond) (xs := x :: r) (x := minOf x r) (PV.of pe_s fun H14 s14 => (pv_name 0 rfl).t s14 fun v' H15 s15 pv => ⟨s15, by
        have pv : v' = v := pv
        rw [pv]
        exact Whole.same (s14.trans s15) hv⟩) (pv_minT (α := Bond) rfl T.b_min (pv_dat 0 rfl (hv.di hT))) hmin hT) fun v1 H1 s1 p1 => ?_)
      have e1 := Rs.pI p1
      subst e1
      have hv1 := (Whole.same s1 hv).di hT
      refine wb_one (ws_ret (r := .t (Tup.mk (begunM (x :: r)))) (PV.is (pv_catT (pv_slFrom (pv_dat 0 rfl hv1) (pv_dat 1 rfl (DI.int _))) (pv_slTo (pv_dat 0 rfl hv1) (pv_dat 1 rfl (DI.int _))) (by
        rw [List.length_drop, List.length_take, List.length_map]; omega)) ?_) fun v2 H2 s2 p2 => q v2 H2 (s1.trans s2) p2)
      show Rs.d _ = Rs.d (.tuple ((begunM (x :: r)).map Datum.toD))
      unfold begunM
      rw [List.map_append, List.map_drop, List.map_take]
end
end Bx
set_option Elab.async false
set_option linter.all false
set_option maxRecDepth 100000
set_option maxHeartbeats 4000000
/-! E6: least_ring, is_least_ring. -/
namespace Bx
open PySem PySem.Spec PyProof.Rows L2
open PySem.W (Datum DatumOrd Holds HoldAll T3 T4 Tup EachIs minOf)
def leastR (P : List Bond) : PyData := match leastM P with
  | none => .none
  | some t => Datum.toD (Tup.mk (begunM t.c.items))
section
variable {P : Program} {w : World} {K : PySem.W.Frag} {mg : Str → Option Value} {base : Heap}
abbrev spLr : Sp := spY (fun (y : List Bond) vs H => ∃ v, vs = [v] ∧ HD H v (Tup.mk y) ∧ PatOk y) fun y => .d (leastR y)
theorem ok_least_ring (T : Txt K mg) : Dfn P w K mg base 5 "least_ring" ["pattern"] spLr := by
  refine dfn_of T.h_least_ring sc_least_ring (fun vs H Q E h => ?_) (fun f cdv A outer s H vs Q E hr h => ?_)
  · obtain ⟨_, ⟨_, rfl, _⟩, _⟩ := h; rfl
  · obtain ⟨y, ⟨v, rfl, hv, ok⟩, q⟩ := h
    have hu := hr.units
    refine wb_cons (ws_set (i := 1) sc_least_ring.nd (pv_cal (ok_least_walk T) hr (pas_cons (pv_dat 0 rfl hv) (pas_cons pv_bool pas_nil)) y fun H0 H' vs s0 s1 pr => ?_) fun v1 H1 s1 p1 => ?_)
    · obtain ⟨z1, z2, rfl, pz, pb⟩ := rsl2 pr
      rw [Rs.pB pb]
      exact ⟨z1, rfl, pz, ok⟩
    · have p1 : match leastM y with
        | none => v1 = .non
        | some t => W3 H1 v1 t := p1
      refine wb_one (ws_ret (r := .d (leastR y)) ?_ fun v2 H2 s2 p2 => q v2 H2 (s1.trans s2) p2)
      unfold leastR
      cases hl : leastM y with
      | none =>
        rw [hl] at p1
        subst p1
        exact pv_ifE (pb_isN (x := .none) (pv_dat 1 rfl DI.non)) (fun _ => pv_non) fun z => nomatch z
      | some t =>
        rw [hl] at p1
        have hlen := least_len ok hl
        exact pv_ifE (pb_isN (x := Datum.toD t) (pv_dat 1 rfl (W3.hd p1))) (fun z => nomatch z) fun _ => pv_cal (ok_begun T) hr (pas_cons (pv_w3at2 (t := t) (PV.of pe_s fun H14 s14 => (pv_name 1 rfl).t s14 fun v H15 s15 pv => ⟨s15, by
          have pv : v = v1 := pv
          rw [pv]
          exact W3.same (s14.trans s15) p1⟩) pv_int) pas_nil) t.c.items fun H0 H' vs s0 s1 pr => by
            obtain ⟨z1, rfl, pz⟩ := rsl1 pr
            exact ⟨z1, rfl, pz, hlen.2, by have := hlen.1; omega⟩
/-! ### is_least_ring -/
abbrev spIl : Sp := spY (fun (y : List Bond × Bond × List Bond × Lab) vs H => ∃ v u, vs = [v, u] ∧ HD H v (Tup.mk y.1) ∧ HD H u (Tup.mk (y.2.1 :: y.2.2.1)) ∧ PatOk y.1 ∧ y.2.2.1.length ≤ 50 ∧ y.2.2.1 ≠ [] ∧ (∀ b ∈ y.2.1 :: y.2.2.1, WfB b) ∧ ringB y.1 y.2.1 y.2.2.1 = true ∧ leastM y.1 = some y.2.2.2) fun y => .b (decide ((turnsM (y.2.1 :: y.2.2.1), ((y.2.1 :: y.2.2.1).length : Int)) = (y.2.2.2.a, y.2.2.2.b)))
theorem ok_is_least (T : Txt K mg) : Dfn P w K mg base 7 "is_least_ring" ["pattern", "thing"] spIl := by
  refine dfn_of T.h_is_least_ring sc_is_least_ring (fun vs H Q E h => ?_) (fun f cdv A outer s H vs Q E hr h => ?_)
  · obtain ⟨_, ⟨_, _, rfl, _⟩, _⟩ := h; rfl
  · obtain ⟨⟨y, x, r, t⟩, ⟨v, u, rfl, hv, hu', ok, hl, hne, hwf, hB, hlt⟩, q⟩ := h
    have hu := hr.units
    dsimp only at hv hu' ok hl hne hwf hB hlt q
    have few := ok.few
    refine wb_cons (ws_if (k := !ringB y x r) (pb_not (pb_val (pv_cal (ok_is_ring T) hr (pas_cons (pv_dat 0 rfl hv) (pas_cons (pv_dat 1 rfl hu') pas_nil)) (y, x, r) fun H0 H' vs s0 s1 pr => ?_))) (fun k => ?_) fun _ H1 s1 => wb_nil ?_)
    · obtain ⟨z1, z2, rfl, a1, a2⟩ := rsl2 pr
      exact ⟨z1, z2, rfl, a1, a2, by show y.length ≤ 1000; omega, hl, hne, hwf⟩
    · rw [hB] at k; cases k
    · have hv1 := hv.same s1
      have hu1 := hu'.same s1
      refine wb_one (ws_ret (r := .b (decide ((turnsM (x :: r), ((x :: r).length : Int)) = (t.a, t.b)))) (pv_eqT (α := Int × Int) (PV.is (pv_tup (pad_cons (pv_cal (ok_turns T) hr (pas_cons (pv_dat 1 rfl hu1) pas_nil) (x :: r) fun H0 H' vs s0 s1 pr => ?_) (pad_cons (pv_lenT T.b_len (pv_dat 1 rfl hu1)) pad_nil))) ?_)
        (pv_slTo (k := 2) (ds := [.int t.a, .int t.b, Datum.toD t.c]) (PV.w3t (t := t) (PV.of pe_s fun H14 s14 => (pv_cal (ok_least_walk T) hr (pas_cons (pv_dat 0 rfl hv1) (pas_cons pv_bool pas_nil)) y fun H0 H' vs s0 s1 pr => ?_).t s14 fun v H15 s15 pv => ⟨s15, ?_⟩)) pv_int)) fun v2 H2 s2 p2 => q v2 H2 (s1.trans s2) p2)
      · obtain ⟨z1, rfl, a1⟩ := rsl1 pr
        exact ⟨z1, rfl, a1, by show (x :: r).length ≤ 60; rw [List.length_cons]; omega, by simp⟩
      · show Rs.d _ = Rs.d _
        rw [List.length_map]; rfl
      · obtain ⟨z1, z2, rfl, pz, pb⟩ := rsl2 pr
        rw [Rs.pB pb]
        exact ⟨z1, rfl, pz, ok⟩
      · have pv : match leastM y with
          | none => v = .non
          | some t => W3 H15 v t := pv
        rw [hlt] at pv
        exact pv
end
end Bx
set_option Elab.async false
set_option linter.all false
set_option maxRecDepth 100000
set_option maxHeartbeats 4000000
/-! E7: on_rings. -/
namespace Bx
open PySem PySem.Spec PyProof.Rows L2
open PySem.W (Datum DatumOrd Holds HoldAll T3 T4 Tup EachIs minOf)
def trS (l : List Str) : List (Key × V) := l.map fun n => (Sum.inr n, V.bl true)
theorem val_S {b : Str} : ∀ (l : List Str), (valV (trS l) (Sum.inr b)).isSome = decide (b ∈ l)
  | [] => by rw [decide_eq_false (fun h => nomatch h)]; rfl
  | c :: l => by
    unfold trS
    rw [List.map_cons]
    by_cases e : c = b
    · rw [valV_pos (congrArg Sum.inr e), decide_eq_true (by rw [e]; exact List.mem_cons_self)]; rfl
    · rw [valV_neg (fun z => e (Sum.inr.inj z))]
      refine (val_S l).trans ?_
      exact decide_eq_decide.mpr ⟨List.mem_cons_of_mem _, fun h => (List.mem_cons.mp h).resolve_left (Ne.symm e)⟩
theorem put_S (l : List Str) (b : Str) : putK (trS l) (Sum.inr b) (V.bl true) = trS (addS l b) := by
  unfold putK addS
  rw [valV_any, val_S]
  by_cases h : b ∈ l
  · rw [if_pos (decide_eq_true h), if_pos h]
    unfold trS
    rw [List.map_map]
    refine List.map_congr_left fun c _ => ?_
    show (if (Sum.inr c : Key) = Sum.inr b then _ else _) = _
    split <;> rfl
  · rw [decide_eq_false h, if_neg (by decide), if_neg h]
    unfold trS
    rw [List.map_append]; rfl
theorem merge_S : ∀ (B A : List Str), mergeK (trS A) (trS B) = trS (joinS A B)
  | [], A => rfl
  | b :: B, A => by
    show mergeK (putK (trS A) (Sum.inr b) (V.bl true)) (trS B) = trS (joinS (addS A b) B)
    rw [put_S, merge_S B]
/-- the table of the names' tables -/
def ldK (names : List Str) (ad : Str → Addr) : List (Key × V) := names.map fun n => (Sum.inr n, V.ref (ad n))
structure LdW (H : Hp) (L : Addr) (names : List Str) (ad : Str → Addr) (R : Lds) : Prop where
  l : H L = some (.dK (ldK names ad))
  e : ∀ n ∈ names, H (ad n) = some (.dK (trS (R n)))
  ne : ∀ n ∈ names, ad n ≠ L
theorem LdW.off {H H' : Hp} {L p : Addr} {names : List Str} {ad : Str → Addr} {R : Lds} (h : LdW H L names ad R) (o : Off1 p H H') (n : H p = none) : LdW H' L names ad R :=
  ⟨o _ _ (fun z => by have := h.l; rw [z, n] at this; cases this) h.l, fun m hm => o _ _ (fun z => by have := h.e m hm; rw [z, n] at this; cases this) (h.e m hm), h.ne⟩
theorem LdW.same {H H' : Hp} {L : Addr} {names : List Str} {ad : Str → Addr} {R : Lds} (h : LdW H L names ad R) (s : Same H H') : LdW H' L names ad R :=
  ⟨s _ _ h.l, fun m hm => s _ _ (h.e m hm), h.ne⟩
theorem val_ld {ad : Str → Addr} {n : Str} : ∀ {names : List Str}, n ∈ names → valV (ldK names ad) (Sum.inr n) = some (V.ref (ad n))
  | [], h => nomatch h
  | m :: names, h => by
    unfold ldK
    rw [List.map_cons]
    by_cases e : m = n
    · rw [valV_pos (congrArg Sum.inr e), e]
    · rw [valV_neg (fun z => e (Sum.inr.inj z))]
      exact val_ld ((List.mem_cons.mp h).resolve_left (Ne.symm e))
theorem put_ld {ad : Str → Addr} {n : Str} {p : Addr} {names : List Str} (h : n ∈ names) : putK (ldK names ad) (Sum.inr n) (V.ref p) = ldK names fun m => if m = n then p else ad m := by
  unfold putK
  rw [valV_any, val_ld h, if_pos (show (some (V.ref (ad n))).isSome = true from rfl)]
  unfold ldK
  rw [List.map_map]
  refine List.map_congr_left fun c _ => ?_
  show (if (Sum.inr c : Key) = Sum.inr n then _ else _) = (_, V.ref (if c = n then p else ad c))
  by_cases e : c = n
  · rw [if_pos (congrArg Sum.inr e), if_pos e]
  · rw [if_neg (fun z => e (Sum.inr.inj z)), if_neg e]
section
variable {X : Cx} {o i e : Expr} {σ : St} {H : Hp} {pos pos' : Pos}
theorem call_len_dK : CallR X (.builtin "len") (fun xs H Q => ∃ a kvs, xs = [V.ref a] ∧ H a = some (.dK kvs) ∧ Q (.int kvs.length) H) := by
  intro pins s σ H xs us Q I r h
  obtain ⟨a, kvs, rfl, ha, q⟩ := h
  obtain ⟨u, rfl, ru⟩ := Vals.one r
  obtain rfl : u = Value.ref a := ru
  exact d_len I (.inl ha) fun t s' I' => ⟨.int kvs.length, H, I', ⟨t, rfl⟩, q⟩
theorem pv_lenD {p : Pos} {a : Addr} {kvs : List (Key × V)} (hm : X.mg "len" = none) (ha : PV X e σ H (.v (.ref a))) (hk : H a = some (.dK kvs)) (hg : Gl X "len" := by rfl) (ns : NS X e := by rfl) : PV X (.Call (.Name "len" p) [e] [] pos) σ H (.i kvs.length) :=
  pv_callB call_len_dK hm PySem.boot_len (pas_cons ha pas_nil ns) (fun H0 H' vs s0 s1 pr Q q => by
    obtain ⟨v, rfl, pv⟩ := rsl1 pr
    have pv : v = .ref a := pv
    exact ⟨_, _, by rw [pv], (s0.trans s1) _ _ hk, q _ H' (Same.refl _) (DI.int _)⟩) hg (he := ns)
/-- leads[n] -/
theorem pv_lead {L : Addr} {names : List Str} {ad : Str → Addr} {R : Lds} {n : Str} (ho : PV X o σ H (.v (.ref L))) (hL : LdW H L names ad R) (hi : PV X i σ H (.s n)) (hn : n ∈ names) (hu : X.A.units + 64 < cLine := by assumption) (hs : NoSl i := by exact fun _ _ => rfl) : PV X (.Subscript o i pos) σ H (.v (.ref (ad n))) :=
  .of (pe_dget (by omega) pe_s pe_s hs) fun H1 h1 => ho.t h1 fun v H2 s2 pv => hi.t (h1.trans s2) fun y H3 s3 py => by
    have pv : v = V.ref L := pv
    refine ⟨L, _, pv, ?_, s2.trans s3, rfl⟩
    rw [Rs.pS py, ← val_ld hn]
    exact DGet.k (k := Sum.inr n) (hL.same ((h1.trans s2).trans s3)).l
/-- x in leads[n] -/
theorem pb_inS {a : Addr} {l : List Str} {x : Str} (hi : PV X i σ H (.s x)) (ho : PV X o σ H (.v (.ref a))) (ha : H a = some (.dK (trS l))) (hu : X.A.units + 64 < cLine := by assumption) (hm : behindInMarks .In o = false := by rfl) : PB X (.Compare i [.In] [o] pos) σ H (decide (x ∈ l)) :=
  .of (pt_cmp (pc_din (by omega) pe_s pe_s) hm) fun H1 h1 => hi.t h1 fun y H2 s2 py => ho.t (h1.trans s2) fun v H3 s3 pv => by
    have pv : v = V.ref a := pv
    refine ⟨a, valV (trS l) (Sum.inr x), pv, ?_, _, rfl, s2.trans s3, val_S l⟩
    rw [Rs.pS py]
    exact DGet.k (k := Sum.inr x) (((h1.trans s2).trans s3) _ _ ha)
/-- leads[n] = {**leads[n], **leads[m]} -/
theorem ws_lead {L : Addr} {names : List Str} {ad : Str → Addr} {R : Lds} {n m : Str} {e1 e2 : Expr} {dp : Pos} {D : Ends} (hL : LdW H L names ad R) (hn : n ∈ names) (hm : m ∈ names) (zn : (R n).length ≤ 500) (zm : (R m).length ≤ 500) (zl : names.length ≤ 1000)
    (h1 : ∀ H', LdW H' L names ad R → TK H H' → PV X e1 σ H' (.v (.ref (ad n)))) (h2 : ∀ H', LdW H' L names ad R → TK H H' → PV X e2 σ H' (.v (.ref (ad m)))) (ho : ∀ H', PV X o σ H' (.v (.ref L))) (hi : ∀ H', TK H H' → PV X i σ H' (.s n))
    (q : ∀ (p : Addr) H', H p = none → TK H H' → (∀ a u, a ≠ L → H a = some u → H' a = some u) → LdW H' L names (fun k => if k = n then p else ad k) (fun k => if k = n then joinS (joinS [] (R n)) (R m) else R k) → D.nx σ H') (hu : X.A.units + 64 < cLine := by assumption)
    (hs : swapsWith (.Dict [none, none] [e1, e2] dp) (some (.Subscript o i pos')) pos.line X.env = pure false := by rfl) : WS X (.Assign [.Subscript o i pos'] (.Dict [none, none] [e1, e2] dp) pos) D σ H := by
  refine .of (ps_dput (by omega) pe_s pe_s (pe_star2 pe_s pe_s) hs) ?_
  intro p np
  have o1 : Off1 p H (L2.upd H p (.dK [])) := Off1.up _ _
  have L1 := hL.off o1 np
  have t1 : TK H (L2.upd H p (.dK [])) := TK.updN np
  refine (h1 _ L1 t1).t (Same.refl _) fun x H1 s1 px => ?_
  have L2' := L1.same s1
  have pe1 : ∀ n ∈ names, p ≠ ad n := fun n hn z => by have := hL.e n hn; rw [← z, np] at this; cases this
  have px : x = V.ref (ad n) := px
  have ep1 : H1 p = some (.dK []) := s1 _ _ upd_same
  refine ⟨ad n, _, px, L2'.e n hn, pe1 n hn, by unfold trS; rw [List.length_map]; omega, ep1, ?_⟩
  have em : mergeK [] (trS (R n)) = trS (joinS [] (R n)) := merge_S (R n) []
  rw [em]
  have pL : p ≠ L := fun z => by have := hL.l; rw [← z, np] at this; cases this
  have L3 : LdW (L2.upd H1 p (.dK (trS (joinS [] (R n))))) L names ad R := ⟨by rw [upd_ne (Ne.symm pL)]; exact L2'.l, fun k hk => by rw [upd_ne (Ne.symm (pe1 k hk))]; exact L2'.e k hk, L2'.ne⟩
  have t3 : TK H1 (L2.upd H1 p (.dK (trS (joinS [] (R n))))) := TK.upd (fun ys e => by rw [ep1] at e; cases e) fun _ ys e => by rw [ep1] at e; cases e
  refine (h2 _ L3 ((t1.trans (.same s1)).trans t3)).t (Same.refl _) fun y H2 s2 py => ?_
  have py : y = V.ref (ad m) := py
  have L4 := L3.same s2
  have ep2 : H2 p = some (.dK (trS (joinS [] (R n)))) := s2 _ _ upd_same
  refine ⟨ad m, _, py, L4.e m hm, pe1 m hm, by unfold trS; rw [List.length_map]; omega, ep2, ?_⟩
  rw [merge_S]
  have L5 : LdW (L2.upd H2 p (.dK (trS (joinS (joinS [] (R n)) (R m))))) L names ad R := ⟨by rw [upd_ne (Ne.symm pL)]; exact L4.l, fun k hk => by rw [upd_ne (Ne.symm (pe1 k hk))]; exact L4.e k hk, L4.ne⟩
  have t5 : TK H2 (L2.upd H2 p (.dK (trS (joinS (joinS [] (R n)) (R m))))) := TK.upd (fun ys e => by rw [ep2] at e; cases e) fun _ ys e => by rw [ep2] at e; cases e
  have tA : TK H (L2.upd H2 p (.dK (trS (joinS (joinS [] (R n)) (R m))))) := (((t1.trans (.same s1)).trans t3).trans (.same s2)).trans t5
  have oA : Off1 p H (L2.upd H2 p (.dK (trS (joinS (joinS [] (R n)) (R m))))) := (((o1.trans (.of s1)).trans (Off1.up _ _)).trans (.of s2)).trans (Off1.up _ _)
  refine (ho _).t (Same.refl _) fun z H3 s3 pz => (hi _ (tA.trans (.same s3))).t (Same.refl _) fun k H4 s4 pk => ?_
  have pz : z = V.ref L := pz
  have s34 := s3.trans s4
  have L6 := L5.same s34
  rw [Rs.pS pk]
  refine ⟨L, _, pz, DPut.k (k := Sum.inr n) L6.l (by unfold ldK; rw [List.length_map]; exact Nat.lt_of_le_of_lt zl (by decide)), ?_⟩
  · have tL : TK H4 (L2.upd H4 L (.dK (putK (ldK names ad) (Sum.inr n) (V.ref p)))) := TK.upd (fun ys e => by rw [L6.l] at e; cases e) fun _ ys e => by rw [L6.l] at e; cases e
    refine q p _ np ((tA.trans (.same s34)).trans tL) (fun a u na e => ?_) ⟨?_, fun k hk => ?_, fun k hk => ?_⟩
    · rw [upd_ne na]
      exact s34 _ _ (oA a u (fun z => by rw [z, np] at e; cases e) e)
    · rw [upd_same, put_ld hn]
    · by_cases ek : k = n
      · rw [if_pos ek, if_pos ek, upd_ne pL]
        exact s34 _ _ upd_same
      · rw [if_neg ek, if_neg ek, upd_ne (hL.ne k hk)]
        exact L6.e k hk
    · by_cases ek : k = n
      · rw [if_pos ek]; exact pL
      · rw [if_neg ek]; exact hL.ne k hk
end
end Bx
set_option Elab.async false
set_option linter.all false
set_option maxRecDepth 100000
set_option maxHeartbeats 4000000
/-! E8: on_rings. -/
namespace Bx
open PySem PySem.Spec PyProof.Rows L2
open PySem.W (Datum DatumOrd Holds HoldAll T3 T4 Tup EachIs minOf)
theorem val_ldN {ad : Str → Addr} {n : Str} : ∀ {names : List Str}, n ∉ names → valV (ldK names ad) (Sum.inr n) = none
  | [], _ => rfl
  | m :: names, h => by
    unfold ldK
    rw [List.map_cons, valV_neg (fun z => h (by rw [Sum.inr.inj z]; exact List.mem_cons_self))]
    exact val_ldN fun q => h (List.mem_cons_of_mem _ q)
section
variable {X : Cx} {tg iter a kx kx2 : Expr} {σ : St} {H : Hp} {pos spos : Pos} {scope : Scope} {own : List (Str × Nat)} {ra : Rs}
/-- own, leads = e, {name: {name: True} for name in names} -/
theorem ws_parD (i j m : Nat) {x y : Str} {px py pt dp dp2 : Pos} {kt k2 pt2 kb pb} {names : List Str} {D : Ends} (hN : X.N.Nodup) (hc : X.calm = true) (ha : PV X a σ H ra) (hi : PV X iter σ H (.t (Tup.mk names))) (nd : names.Nodup) (zl : names.length ≤ 1000)
    (ok : BlkOk X.N X.env.scope scope own) (hg : ∀ (s : Shared) (H : Hp) (C : Addr) (cl : List (Str × Addr)) (fp : List Addr), PG (X.blk s H scope (compEnvC scope cl C X.env) fp) tg (gName m))
    (turn : ∀ (n : Str) (H1 : Hp), wipe ((wipe σ (own.map (·.2))).set m (some (.str n))) (own.map (·.2)) = wipe σ (own.map (·.2)) ∧ ∀ (s0 : Shared) (H0 : Hp) (C : Addr) (cl : List (Str × Addr)) (fp : List Addr), PV (X.blk s0 H0 scope (compEnvC scope cl C X.env) fp) kx ((wipe σ (own.map (·.2))).set m (some (.str n))) H1 (.s n) ∧ PV (X.blk s0 H0 scope (compEnvC scope cl C X.env) fp) kx2 ((wipe σ (own.map (·.2))).set m (some (.str n))) H1 (.s n))
    (k : ∀ v L ad H1, Same H H1 → ra.P H v H1 → H L = none → LdW H1 L names ad lead0 → D.nx ((σ.set i (some v)).set j (some (.ref L))) H1)
    (hg2 : PG X (.Tuple [.Name x px, .Name y py] kt pt) (gTup X.K 2 (gCons (gName i) (gCons (gName j) gNil))))
    (hw : swappedStores [.Tuple [.Name x px, .Name y py] kt pt] (.Tuple [a, .DictComp kx (.Dict [some kx2] [.Constant (.bool true) kb pb] dp) [⟨tg, iter, [], 0⟩] scope dp2] k2 pt2) X.env = pure none := by rfl)
    (h1 : (assignEach [.Tuple [.Name x px, .Name y py] kt pt] X.env).map (·.2) = [assign (.Tuple [.Name x px, .Name y py] kt pt) X.env] := by rfl)
    (hs : swapsWithSole [.Tuple [.Name x px, .Name y py] kt pt] (.Tuple [a, .DictComp kx (.Dict [some kx2] [.Constant (.bool true) kb pb] dp) [⟨tg, iter, [], 0⟩] scope dp2] k2 pt2) pos.line X.env = pure false := by rfl)
    (n1 : starEach [a, .DictComp kx (.Dict [some kx2] [.Constant (.bool true) kb pb] dp) [⟨tg, iter, [], 0⟩] scope dp2] X.env = (false, eval a X.env) :: starEach [.DictComp kx (.Dict [some kx2] [.Constant (.bool true) kb pb] dp) [⟨tg, iter, [], 0⟩] scope dp2] X.env := by rfl)
    (n2 : NS X (.DictComp kx (.Dict [some kx2] [.Constant (.bool true) kb pb] dp) [⟨tg, iter, [], 0⟩] scope dp2) := by rfl)
    (hf : ∀ x, foldedSetIterable iter X.env x = pure x := by intro _; rfl) :
    WS X (.Assign [.Tuple [.Name x px, .Name y py] kt pt] (.Tuple [a, .DictComp kx (.Dict [some kx2] [.Constant (.bool true) kb pb] dp) [⟨tg, iter, [], 0⟩] scope dp2] k2 pt2) pos) D σ H := by
  have hk : ∀ (s : Shared) (H : Hp) (C : Addr) (cl : List (Str × Addr)) (fp : List Addr), PE (X.blk s H scope (compEnvC scope cl C X.env) fp) kx (tSF X scope kx) := fun s0 H0 C cl fp => ⟨fun pins s σ H Q I h => h s0 H0 C cl fp pins s I⟩
  have hk2 : ∀ (s : Shared) (H : Hp) (C : Addr) (cl : List (Str × Addr)) (fp : List Addr), PE (X.blk s H scope (compEnvC scope cl C X.env) fp) kx2 (tSF X scope kx2) := fun s0 H0 C cl fp => ⟨fun pins s σ H Q I h => h s0 H0 C cl fp pins s I⟩
  refine .of (ps_asg (pe_tup (pa_cons pe_s (pa_cons (pe_dc (tt := tYes) (tk := tSF X scope kx) (tv := tDisp [(tSF X scope kx2, tC (.bl true))]) hc hN (pi_tup pe_s) ok hg (fun _ _ _ _ _ => pts_nil) hk (fun s0 H0 C cl fp => pe_disp (pps_cons (hk2 s0 H0 C cl fp) pe_bl pps_nil) rfl rfl (by simp) (by show 1 ≤ 15; decide)) hf) pa_nil n2) n1)) hg2 hs hw h1) ?_
  refine ha.t (Same.refl _) fun v H1 s1 pv => hi.t s1 fun t H2 s2 pt => ?_
  obtain ⟨q, xs, rfl, eq, hxs⟩ := hd_tup (show HD H2 t (Tup.mk names) from pt)
  refine ⟨q, rfl, ⟨xs, eq.sq⟩, fun L nL => ?_⟩
  refine dc_tup (xs := xs) (fun i Hc => Off1 L H2 Hc ∧ ∃ ad, LdW Hc L (names.take i) ad lead0) ⟨Off1.up _ _, fun _ => 0, upd_same, (fun n h => by rw [List.take_zero] at h; cases h), fun n h => by rw [List.take_zero] at h; cases h⟩ (fun i Hc hi p => ?_) (fun i x Hc hx p => ?_) fun Hc p => ?_
  · rcases eq with e | ⟨⟨o, e, _⟩, _⟩
    · exact SqT.of (p.1 _ _ (fun z => by rw [z, nL] at e; cases e) e)
    · exact .inl (.inr ⟨o, p.1 _ _ (fun z => by rw [z, nL] at e; cases e) e⟩)
  · obtain ⟨off, ad, W⟩ := p
    obtain ⟨d, hd, dx⟩ := DIs.get' hxs hx
    obtain ⟨n, hn, rfl⟩ := map_some hd
    cases dx
    obtain ⟨w2, tn⟩ := turn n Hc
    refine ⟨w2, iteT (B := Off1 L H2 Hc ∧ ∃ ad, LdW Hc L (names.take (i + 1)) ad lead0) fun s0 H0 C cl fp => (tn s0 H0 C cl fp).1.t (Same.refl _) fun y H3 s3 py => ?_⟩
    intro p np
    refine (fun s0 H0 C cl fp => ((turn n _).2 s0 H0 C cl fp).2.t (Same.refl _) fun y2 H4 s4 py2 => ?_ : tSF X scope kx2 _ _ _)
    have W4 : LdW H4 L (names.take i) ad lead0 := ((W.same s3).off (Off1.up _ (.dK [])) np).same s4
    have ep : H4 p = some (.dK []) := s4 _ _ upd_same
    have pL : p ≠ L := fun z => by have := (W.same s3).l; rw [← z, np] at this; cases this
    have pad : ∀ m ∈ names.take i, p ≠ ad m := fun m hm z => by have := (W.same s3).e m hm; rw [← z, np] at this; cases this
    refine ⟨ep, [(Sum.inr n, .bl true)], by rw [Rs.pS py2]; rfl, by show 1 ≤ 15; decide, ?_⟩
    have hni : n ∉ names.take i := fun h => by
      have hlt := (List.getElem?_eq_some_iff.mp hn).1
      obtain ⟨j, hj, e⟩ := List.mem_iff_getElem.mp h
      rw [List.length_take] at hj
      rw [List.getElem_take] at e
      have e2 := (List.getElem?_eq_some_iff.mp hn).2
      have := (List.getElem_inj nd).mp (e.trans e2.symm)
      omega
    refine ⟨ldK (names.take i) ad, Sum.inr n, Rs.pS py, by rw [upd_ne (Ne.symm pL)]; exact W4.l, by unfold ldK; rw [List.length_map, List.length_take]; exact Nat.lt_of_le_of_lt (Nat.le_trans (Nat.min_le_right _ _) zl) (by decide), ?_⟩
    have em : mergeK [] [((Sum.inr n : Key), V.bl true)] = trS [n] := rfl
    rw [em]
    have fin : ∀ a u, a ≠ L → H3 a = some u → (L2.upd (L2.upd H4 p (.dK (trS [n]))) L (.dK (putK (ldK (names.take i) ad) (Sum.inr n) (V.ref p)))) a = some u := fun a u na e => by
      have ap : a ≠ p := fun z => by rw [z, np] at e; cases e
      rw [upd_ne na, upd_ne ap]
      exact s4 _ _ (by rw [upd_ne ap]; exact e)
    refine ⟨fun a u na e => fin a u na (s3 _ _ (off a u na e)), fun k => if k = n then p else ad k, ?_⟩
    rw [take_succ' hn]
    refine ⟨?_, fun k hk => ?_, fun k hk => ?_⟩
    · rw [upd_same, putK_new _ (val_ldN hni)]
      unfold ldK
      rw [List.map_append]
      have e1 : (names.take i).map (fun m => ((Sum.inr m : Key), V.ref (ad m))) = (names.take i).map fun m => ((Sum.inr m : Key), V.ref (if m = n then p else ad m)) := List.map_congr_left fun m hm => by rw [if_neg (fun z : m = n => hni (z ▸ hm))]
      rw [e1]
      show _ = some (HO.dK (_ ++ [((Sum.inr n : Key), V.ref (if n = n then p else ad n))]))
      rw [if_pos rfl]
    · by_cases ek : k = n
      · rw [if_pos ek, upd_ne pL, upd_same, ek]; rfl
      · have hk2 : k ∈ names.take i := (List.mem_append.mp hk).elim id fun h => absurd (List.mem_singleton.mp h) ek
        rw [if_neg ek]
        exact fin _ _ (W.ne k hk2) ((W.same s3).e k hk2)
    · by_cases ek : k = n
      · rw [if_pos ek]; exact pL
      · have hk2 : k ∈ names.take i := (List.mem_append.mp hk).elim id fun h => absurd (List.mem_singleton.mp h) ek
        rw [if_neg ek]; exact W.ne k hk2
  · obtain ⟨off, ad, W⟩ := p
    have el : xs.length = names.length := by
      have := HDs.length (show HDs H2 xs names from hxs)
      exact this
    rw [el, List.take_length] at W
    have sF : Same H2 Hc := fun a u e => off a u (fun z => by rw [z, nL] at e; cases e) e
    refine ⟨by show 2 ≤ sizeLine; decide, fun p np => ?_⟩
    have sn := same_new (o := .tup [v, V.ref L]) np
    exact ⟨p, _, rfl, SqT.of upd_same, rfl, v, _, rfl, V.ref L, _, rfl, rfl, k v L ad _ (((s1.trans s2).trans sF).trans sn) (Rs.up pv ((s2.trans sF).trans sn)) ((s1.trans s2).free nL) (W.same sn)⟩
end
section
variable {P : Program} {w : World} {K : PySem.W.Frag} {mg : Str → Option Value} {base : Heap}
abbrev spOn : Sp := spY (fun (y : List Bond) vs H => ∃ v, vs = [v] ∧ HD H v (Tup.mk y) ∧ PatOk y) fun y => .t (Tup.mk (onRingsM y))
theorem ok_on_rings (T : Txt K mg) : Dfn P w K mg base 4 "on_rings" ["pattern"] spOn := by
  refine dfn_of T.h_on_rings sc_on_rings (fun vs H Q E h => ?_) (fun f cdv A outer s H vs Q E hr h => ?_)
  · obtain ⟨_, ⟨_, rfl, _⟩, _⟩ := h; rfl
  · obtain ⟨y, ⟨v, rfl, hv, ok⟩, q⟩ := h
    have hu := hr.units
    have few := ok.few
    have nl : (namesM y).length ≤ 5 := by rw [namesM_len]; exact ok.names
    refine wb_cons (ws_parD 1 2 5 (names := namesM y) sc_on_rings.nd rfl (pv_cal (ok_tupled T 2) hr (pas_cons (pv_dat 0 rfl hv) pas_nil) (Datum.toD (Tup.mk y)) fun H0 H' vs s0 s1 pr => ?_) (pv_cal (ok_names_of T) hr (pas_cons (pv_dat 0 rfl hv) pas_nil) y fun H0 H' vs s0 s1 pr => ?_) (namesM_nodup y) (by omega)
      (blkOk_by (own := [("name", 5)]) rfl) (fun _ _ _ _ _ => pg_name (i := 5) sc_on_rings.nd rfl (Or.inl rfl)) (fun n H1 => ⟨rfl, fun s0 H0 C cl fp => ⟨pv_dat 5 rfl (DI.str n), pv_dat 5 rfl (DI.str n)⟩⟩) (fun v1 L ad H1 s1 p1 nL W1 => ?_) (pgT2 sc_on_rings.nd rfl 1 2))
    · obtain ⟨z, rfl, pz⟩ := rsl1 pr
      exact ⟨⟨z, rfl, pz⟩, flat_pat (by omega) 0⟩
    · obtain ⟨z, rfl, pz⟩ := rsl1 pr
      exact ⟨z, rfl, pz, by omega⟩
    · have p1 : HD H1 v1 (Tup.mk y) := p1
      have elen : (ldK (namesM y) ad).length = (namesM y).length := by unfold ldK; rw [List.length_map]
      refine wb_cons (ws_forH (g := gName 3) (ds := (List.range (namesM y).length).map fun (k : Nat) => PyData.int (k : Int)) PassesOwn.never rfl (pit_range T.b_range (PV.is (pv_lenD T.b_len (pv_name 2 rfl) W1.l) (by rw [elen])) (by omega)) (pg_name (i := 3) sc_on_rings.nd rfl (Or.inl rfl))
        (fun H2 i σ' H' => TK H2 H' ∧ ∃ ad o3 o4 o5, σ' = [some v, some v1, some (.ref L), o3, o4, o5] ∧ Same H H' ∧ LdW H' L (namesM y) ad (lapsM y i))
        (fun H2 s2 => ⟨TK.refl _, ad, _, _, _, rfl, s1.trans s2, W1.same s2⟩) (fun H2 i σ' H' s2 _ p => p.1) (fun H2 i d x σ' H3 s2 hd p H4 s4 dx => ?_) fun H2 σ' H' s2 p => ?_)
      · obtain ⟨t2, ad, o3, o4, o5, rfl, sH, W⟩ := p
        have W := W.same s4
        have p4 : HD H4 v1 (Tup.mk y) := HD.ts (((TK.same s2).trans t2).trans (.same s4)) p1
        refine gto_name (wb_one (ws_forH (g := gName 4) (ds := y.map Datum.toD) PassesOwn.never rfl (pit_tup (pv_dat 1 rfl p4)) (pg_name (i := 4) sc_on_rings.nd rfl (Or.inl rfl))
          (fun H5 j σ' H' => TK H5 H' ∧ ∃ ad o4 o5, σ' = [some v, some v1, some (.ref L), some x, o4, o5] ∧ Same H H' ∧ LdW H' L (namesM y) ad ((y.take j).foldl leadB (lapsM y i)))
          (fun H5 s5 => ⟨TK.refl _, ad, _, _, rfl, (sH.trans s4).trans s5, W.same s5⟩) (fun H5 j σ' H' s5 _ p => p.1) (fun H5 j d2 x2 σ' H6 s5 hd2 p H7 s7 dx2 => ?_) fun H5 σ' H' s5 p => ?_))
        · obtain ⟨t5, ad, o4, o5, rfl, sH6, W6⟩ := p
          obtain ⟨b, hb, rfl⟩ := map_some hd2
          have hmem := List.mem_of_getElem? hb
          have W7 := W6.same s7
          have eF : (y.take (j + 1)).foldl leadB (lapsM y i) = leadB ((y.take j).foldl leadB (lapsM y i)) b := by
            rw [take_succ' hb, List.foldl_append]; rfl
          have lk : LdOk y ((y.take j).foldl leadB (lapsM y i)) := lapL_ok _ (fun c hc => List.mem_of_mem_take hc) (laps_ok i)
          rw [eF]
          generalize (y.take j).foldl leadB (lapsM y i) = R at W7 lk
          have ha : b.a ∈ namesM y := namesM_mem.mpr ⟨b, hmem, .inl rfl⟩
          have hc : b.c ∈ namesM y := namesM_mem.mpr ⟨b, hmem, .inr rfl⟩
          refine gto_name (wb_one (ws_lead (n := b.a) (m := b.c) W7 ha hc (by have := lk.len ok.names ha; omega) (by have := lk.len ok.names hc; omega) (by omega)
            (fun H' W' t' => pv_lead (pv_name 2 rfl) W' (pv_ixD (pv_dat 4 rfl (DI.ts t' dx2)) pv_int (atI_zero rfl)) ha) (fun H' W' t' => pv_lead (pv_name 2 rfl) W' (pv_ixD (pv_dat 4 rfl (DI.ts t' dx2)) pv_int (atI_nat (k := 2) rfl)) hc) (fun H' => pv_name 2 rfl) (fun H' t' => pv_ixD (pv_dat 4 rfl (DI.ts t' dx2)) pv_int (atI_zero rfl)) fun p H' np t' o' W' => ?_))
          refine ⟨(t5.trans (.same s7)).trans t', (fun k => if k = b.a then p else ad k), _, _, rfl, fun a u e => o' a u (fun z => by rw [z, nL] at e; cases e) (s7 _ _ (sH6 _ _ e)), ?_⟩
          exact W'
        · obtain ⟨t5, ad, o4, o5, rfl, sH6, W6⟩ := p
          rw [List.length_map, List.take_length] at W6
          exact ⟨((t2.trans (.same s4)).trans (.same s5)).trans t5, ad, _, _, _, rfl, sH6, W6⟩
      · obtain ⟨t2, ad, o3, o4, o5, rfl, sH, W⟩ := p
        rw [List.length_map, List.length_range] at W
        have W : LdW H' L (namesM y) ad (leadsM y) := W
        have p4 : HD H' v1 (Tup.mk y) := HD.ts ((TK.same s2).trans t2) p1
        refine wb_one (ws_ret (r := .t (Tup.mk (onRingsM y))) (pv_tupleN T.b_tuple (PV.is (pv_lc1 (g := gName 4) (xs := y) (enc := Datum.toD) (p := fun b => decide (b.a ∈ leadsM y b.c)) (f := Datum.toD) rfl sc_on_rings.nd (PIt.weak (pit_tup (pv_dat 1 rfl p4))) (blkOk_by (own := [("bond", 4)]) rfl)
          (fun _ _ _ _ _ => pg_name (i := 4) sc_on_rings.nd rfl (Or.inl rfl)) (by omega) (fun b v' H9 hb h1 dv => gto_name ⟨rfl, fun s0 H0 C cl fp => ?_, fun s0 H0 C cl fp _ => pv_dat 4 rfl dv⟩)) rfl)) fun v9 H9 s9 p9 => q v9 H9 (sH.trans s9) p9)
        have hc : b.c ∈ namesM y := namesM_mem.mpr ⟨b, hb, .inr rfl⟩
        exact pb_inS (pv_ixD (pv_dat 4 rfl dv) pv_int (atI_zero rfl)) (pv_lead (pv_name 2 rfl) (W.same h1) (pv_ixD (pv_dat 4 rfl dv) pv_int (atI_nat (k := 2) rfl)) hc) ((W.same h1).e b.c hc)
end
end Bx
set_option Elab.async false
set_option linter.all false
set_option maxRecDepth 100000
/-! M5: least turns and the rings; patterns turned about and renamed. -/
namespace Bx
open PySem
open PySem.W (Datum DatumOrd T3 T4 Tup minOf)
theorem nodup_flat {α β : Type} {f : α → List β} : ∀ {l : List α}, l.Nodup → (∀ b ∈ l, (f b).Nodup) → (∀ b ∈ l, ∀ c ∈ l, ∀ q, q ∈ f b → q ∈ f c → b = c) → (l.map f).flatten.Nodup
  | [], _, _, _ => List.nodup_nil
  | b :: l, nd, h1, h2 => by
    obtain ⟨n1, n2⟩ := List.nodup_cons.mp nd
    rw [List.map_cons, List.flatten_cons, List.nodup_append]
    refine ⟨h1 b List.mem_cons_self, nodup_flat n2 (fun c hc => h1 c (List.mem_cons_of_mem _ hc)) (fun c hc d hd => h2 c (List.mem_cons_of_mem _ hc) d (List.mem_cons_of_mem _ hd)), fun q hq q2 hq2 e => ?_⟩
    subst e
    obtain ⟨l', hl', hq3⟩ := List.mem_flatten.mp hq2
    obtain ⟨c, hc, rfl⟩ := List.mem_map.mp hl'
    exact n1 (h2 b List.mem_cons_self c (List.mem_cons_of_mem _ hc) q hq hq3 ▸ hc)
theorem explore_pre {P : List Bond} {x : Bond} : ∀ {n : Nat} {r : List Bond} {q : Pat}, q ∈ explore P x n r → ∃ s, q = ⟨x :: (r ++ s)⟩
  | 0, _, _, h => nomatch h
  | n + 1, r, q, h => by
    unfold explore at h
    by_cases h1 : goalB x r = x.a
    · rw [if_pos h1, List.mem_singleton] at h
      exact ⟨[], by rw [List.append_nil]; exact h⟩
    · rw [if_neg h1] at h
      by_cases h2 : goalB x r ∈ ringN (x :: r)
      · rw [if_pos h2] at h; cases h
      · rw [if_neg h2] at h
        obtain ⟨l, hl, hq⟩ := List.mem_flatten.mp h
        obtain ⟨b, hb, rfl⟩ := List.mem_map.mp hl
        obtain ⟨s, e⟩ := explore_pre (n := n) hq
        rw [List.append_assoc] at e
        exact ⟨b :: s, e⟩
theorem explore_nd {P : List Bond} (nd : P.Nodup) {x : Bond} : ∀ (n : Nat) (r : List Bond), (explore P x n r).Nodup
  | 0, _ => List.nodup_nil
  | n + 1, r => by
    unfold explore
    by_cases h1 : goalB x r = x.a
    · rw [if_pos h1]; simp
    · rw [if_neg h1]
      by_cases h2 : goalB x r ∈ ringN (x :: r)
      · rw [if_pos h2]; exact List.nodup_nil
      · rw [if_neg h2]
        refine nodup_flat (nd.filter _) (fun b _ => explore_nd nd n _) fun b _ c _ q hb hc => ?_
        obtain ⟨s, e1⟩ := explore_pre hb
        obtain ⟨s2, e2⟩ := explore_pre hc
        rw [e1] at e2
        injection e2 with e2
        injection e2 with _ e2
        rw [List.append_assoc, List.append_assoc] at e2
        have e3 := List.append_cancel_left e2
        injection e3
theorem ringsM_nd {P : List Bond} (ok : PatOk P) : (ringsM P).Nodup := by
  unfold ringsM
  rw [(sortO_perm _).nodup_iff]
  unfold belowL
  rw [List.map_map]
  have nd := ok.asc.nodup
  refine nodup_flat nd (fun b _ => explore_nd nd 5 []) fun b _ c _ q hb hc => ?_
  obtain ⟨s, e1⟩ := explore_pre (show q ∈ explore P b 5 [] from hb)
  obtain ⟨s2, e2⟩ := explore_pre (show q ∈ explore P c 5 [] from hc)
  rw [e1] at e2
  injection e2 with e2
  injection e2
/-- the turns of all rings, ascending -/
def manyM (P : List Bond) : List Int := sortO ((ringsM P).map fun q => turnsM q.items)
section
variable {P : List Bond} (ok : PatOk P)
include ok
theorem least_ring_is {t : Lab} (h : leastM P = some t) : ∃ m s, begunM t.c.items = m :: s ∧ RingOk P m s ∧ turnsM (m :: s) = t.a ∧ ((m :: s).length : Int) = t.b ∧ ∀ x r, RingOk P x r → t.a ≤ turnsM (x :: r) := by
  obtain ⟨⟨first, last, c, _, ha, hb⟩, least⟩ := least_some ok h
  have cy := c.cyc
  have sm := least_smp cy fun w' hw' => by
    obtain ⟨f2, l2, c2⟩ := hw'.cw
    have := least f2 l2 w' c2
    rw [ha, hb] at this
    omega
  obtain ⟨m, s, e, ro⟩ := sm.ring
  have rt := begun_rot t.c.items
  rw [e] at rt
  refine ⟨m, s, e, ro, by rw [← rt.turns, ha], by rw [hb, rt.perm.length_eq], fun x r k => ?_⟩
  obtain ⟨f2, l2, c2⟩ := k.smp.toCyc.cw
  have := least f2 l2 _ c2
  omega
theorem least_no_ring (h : leastM P = none) : ringsM P = [] := by
  cases q : ringsM P with
  | nil => rfl
  | cons r rs =>
    obtain ⟨x, s, _, ro⟩ := (mem_ringsM ok).mp (show r ∈ ringsM P by rw [q]; exact List.mem_cons_self)
    obtain ⟨f2, l2, c2⟩ := ro.smp.toCyc.cw
    exact absurd c2 (least_none ok h)
/-- the first of the turns is the least -/
theorem many_head : leastM P = none ∧ manyM P = [] ∨ ∃ t r, leastM P = some t ∧ manyM P = t.a :: r := by
  cases h : leastM P with
  | none =>
    refine .inl ⟨rfl, ?_⟩
    unfold manyM
    rw [least_no_ring ok h]
    exact List.eq_nil_of_length_eq_zero (length_sortO _)
  | some t =>
    refine .inr ⟨t, ?_⟩
    obtain ⟨m, s, _, ro, ht, _, least⟩ := least_ring_is ok h
    have hm : t.a ∈ manyM P := mem_sortO.mpr (List.mem_map.mpr ⟨⟨m :: s⟩, (mem_ringsM ok).mpr ⟨m, s, rfl, ro⟩, ht⟩)
    have hl : ∀ x ∈ manyM P, t.a ≤ x := fun x hx => by
      obtain ⟨q, hq, rfl⟩ := List.mem_map.mp (mem_sortO.mp hx)
      obtain ⟨y, r, rfl, ro⟩ := (mem_ringsM ok).mp hq
      exact least y r ro
    have pw : (manyM P).Pairwise fun a b => leO a b = true := sortO_pw _
    cases hM : manyM P with
    | nil => rw [hM] at hm; cases hm
    | cons z zs =>
      rw [hM] at hm hl pw
      refine ⟨zs, rfl, ?_⟩
      have hz := hl z List.mem_cons_self
      rcases List.mem_cons.mp hm with e | e
      · rw [e]
      · have := (List.pairwise_cons.mp pw).1 _ e
        rcases leO_iff.mp this with q | q
        · rw [q]
        · have q : z < t.a := of_decide_eq_true q
          omega
end
/-! ### a pattern and its image -/
structure Img (P P' : List Bond) (f g : List Bond → List Bond) : Prop where
  ok : PatOk P'
  smp : ∀ w, Smp P w → Smp P' (f w)
  turns : ∀ w, Smp P w → turnsM (f w) = turnsM w
  inv : ∀ w, Smp P w → g (f w) = w
  rot : ∀ w w', Rot w w' → Rot (g w) (g w')
theorem img_inj {P P' : List Bond} {f g : List Bond → List Bond} (I : Img P P' f g) {x y : Bond} {r s : List Bond} (h1 : RingOk P x r) (h2 : RingOk P y s) (e : begunM (f (x :: r)) = begunM (f (y :: s))) : x :: r = y :: s := by
  have key : ∀ z t, RingOk P z t → begunM (g (begunM (f (z :: t)))) = z :: t := fun z t h => by
    have r1 := I.rot _ _ (begun_rot (f (z :: t)))
    rw [I.inv _ h.smp] at r1
    exact begun_is r1.symm (nodup_of_names h.path.nd) h.path.first
  rw [← key x r h1, ← key y s h2, e]
theorem img_sub {P P' : List Bond} {f g : List Bond → List Bond} (ok : PatOk P) (I : Img P P' f g) : ((ringsM P).map fun q => (⟨begunM (f q.items)⟩ : Pat)).Nodup ∧ ∀ q ∈ (ringsM P).map fun q => (⟨begunM (f q.items)⟩ : Pat), q ∈ ringsM P' := by
  refine ⟨?_, fun q hq => ?_⟩
  · refine List.pairwise_map.mpr ((ringsM_nd ok).imp_of_mem fun {a b} ha hb hne e => hne ?_)
    obtain ⟨x, r, rfl, h1⟩ := (mem_ringsM ok).mp ha
    obtain ⟨y, s, rfl, h2⟩ := (mem_ringsM ok).mp hb
    injection e with e
    rw [img_inj I h1 h2 e]
  · obtain ⟨q0, h0, rfl⟩ := List.mem_map.mp hq
    obtain ⟨x, r, rfl, h1⟩ := (mem_ringsM ok).mp h0
    obtain ⟨m, s, e, ro⟩ := (I.smp _ h1.smp).ring
    exact (mem_ringsM I.ok).mpr ⟨m, s, by rw [e], ro⟩
theorem perm_of_sub {α : Type} [DecidableEq α] {l m : List α} (h1 : l.Nodup) (h2 : ∀ x ∈ l, x ∈ m) (h3 : m.Nodup) (h4 : m.length ≤ l.length) : l.Perm m := by
  refine (List.perm_ext_iff_of_nodup h1 h3).mpr fun x => ⟨h2 x, fun hx => Classical.byContradiction fun nx => ?_⟩
  have := nodup_len (l := x :: l) (m := m) (List.nodup_cons.mpr ⟨nx, h1⟩) fun y hy => (List.mem_cons.mp hy).elim (fun e => e ▸ hx) (h2 y)
  rw [List.length_cons] at this
  omega
theorem img_many {P P' : List Bond} {f g f' g' : List Bond → List Bond} (ok : PatOk P) (I : Img P P' f g) (J : Img P' P f' g') : manyM P' = manyM P := by
  obtain ⟨n1, s1⟩ := img_sub ok I
  obtain ⟨n2, s2⟩ := img_sub I.ok J
  have l1 := nodup_len n1 s1
  have l2 := nodup_len n2 s2
  rw [List.length_map] at l1 l2
  have pm := perm_of_sub n1 s1 (ringsM_nd I.ok) (by rw [List.length_map]; exact l2)
  unfold manyM
  refine sortO_of ?_
  refine (pm.symm.map fun q => turnsM q.items).trans ?_
  rw [List.map_map]
  refine List.Perm.of_eq (List.map_congr_left fun q hq => ?_)
  obtain ⟨x, r, rfl, h1⟩ := (mem_ringsM ok).mp hq
  show turnsM (begunM (f (x :: r))) = turnsM (x :: r)
  rw [← (begun_rot (f (x :: r))).turns, I.turns _ h1.smp]
end Bx
set_option Elab.async false
set_option linter.all false
set_option maxRecDepth 100000
/-! M6: turned about, renamed. -/
namespace Bx
open PySem
open PySem.W (Datum DatumOrd T3 T4 Tup minOf)
theorem oth_oth {e : Str} (h : e = "r" ∨ e = "s") : othE (othE e) = e := by
  rcases h with rfl | rfl <;> decide
theorem oth_rs {e : Str} (h : e = "r" ∨ e = "s") : othE e = "r" ∨ othE e = "s" := by
  rcases h with rfl | rfl
  · exact .inr (by decide)
  · exact .inl (by decide)
theorem flip_flip {b : Bond} (h : WfB b) : flipB (flipB b) = b := by
  obtain ⟨a, e, c, d⟩ := b
  show (⟨a, othE (othE e), c, othE (othE d)⟩ : Bond) = _
  rw [oth_oth h.b, oth_oth h.d]
theorem wf_flip {b : Bond} (h : WfB b) : WfB (flipB b) := ⟨h.c, h.a, oth_rs h.d, oth_rs h.b, fun e => h.ne e.symm⟩
/-- a pattern from an image -/
theorem patOk_img {P : List Bond} (ok : PatOk P) {F : Bond → Bond} {ρ : Str → Str} (inj : ∀ b ∈ P, ∀ c ∈ P, F b = F c → b = c) (wf : ∀ b ∈ P, WfB (F b)) (hn : ∀ b ∈ P, ((F b).a = ρ b.a ∨ (F b).a = ρ b.c) ∧ ((F b).c = ρ b.a ∨ (F b).c = ρ b.c)) : PatOk (sortO (P.map F)) := by
  have nd : (P.map F).Nodup := List.pairwise_map.mpr (ok.asc.nodup.imp_of_mem fun {a b} ha hb hne e => hne (inj a ha b hb e))
  refine ⟨fun e => ?_, asc_sort nd, fun b hb => ?_, ?_, ?_⟩
  · have := length_sortO (P.map F)
    rw [e, List.length_map] at this
    exact ok.ne (List.eq_nil_of_length_eq_zero this.symm)
  · obtain ⟨c, hc, rfl⟩ := List.mem_map.mp (mem_sortO.mp hb)
    exact wf c hc
  · rw [length_sortO, List.length_map]
    exact ok.few
  · have hs : ∀ x ∈ namesM (sortO (P.map F)), x ∈ (namesM P).map ρ := fun x hx => by
      obtain ⟨b, hb, hx⟩ := namesM_mem.mp hx
      obtain ⟨c, hc, rfl⟩ := List.mem_map.mp (mem_sortO.mp hb)
      have ha : ρ c.a ∈ (namesM P).map ρ := List.mem_map.mpr ⟨_, namesM_mem.mpr ⟨c, hc, .inl rfl⟩, rfl⟩
      have hcc : ρ c.c ∈ (namesM P).map ρ := List.mem_map.mpr ⟨_, namesM_mem.mpr ⟨c, hc, .inr rfl⟩, rfl⟩
      rcases hx with rfl | rfl
      · rcases (hn c hc).1 with e | e <;> rw [e] <;> assumption
      · rcases (hn c hc).2 with e | e <;> rw [e] <;> assumption
    have := nodup_len (namesM_nodup _) hs
    rw [List.length_map, namesM_len, namesM_len] at this
    exact Nat.le_trans this ok.names
theorem turned_ok {P : List Bond} (ok : PatOk P) : PatOk (turnedM P) := patOk_img (ρ := id) ok (fun b hb c hc e => by
    have := congrArg flipB e
    rwa [flip_flip (ok.wf b hb), flip_flip (ok.wf c hc)] at this) (fun b hb => wf_flip (ok.wf b hb)) fun b _ => ⟨.inr rfl, .inl rfl⟩
theorem turned_mem {P : List Bond} {b : Bond} (h : b ∈ P) : flipB b ∈ turnedM P := mem_sortO.mpr (List.mem_map.mpr ⟨b, h, rfl⟩)
theorem mem_turned {P : List Bond} (ok : PatOk P) {b : Bond} (h : b ∈ turnedM P) : flipB b ∈ P := by
  obtain ⟨c, hc, rfl⟩ := List.mem_map.mp (mem_sortO.mp h)
  rw [flip_flip (ok.wf c hc)]
  exact hc
/-! ### about -/
def abt (w : List Bond) : List Bond := w.reverse.map flipB
theorem wk_abt : ∀ {w : List Bond} {a z : Str}, Wk a w z → Wk z (abt w) a
  | [], _, _, h => Eq.symm h
  | b :: r, a, z, h => by
    unfold abt
    rw [List.reverse_cons, List.map_append]
    exact wk_append.mpr ⟨b.c, wk_abt h.2, rfl, h.1⟩
theorem wk_names : ∀ {w : List Bond} {a z : Str}, Wk a w z → w.map (·.a) ++ [z] = a :: w.map (·.c)
  | [], a, z, h => by rw [show a = z from h]; rfl
  | b :: r, a, z, h => by
    rw [List.map_cons, List.map_cons, List.cons_append, wk_names h.2, h.1]
theorem wk_perm {w : List Bond} {a : Str} (h : Wk a w a) : (w.map (·.c)).Perm (w.map (·.a)) := by
  have e := wk_names h
  have p : (a :: w.map (·.a)).Perm (w.map (·.a) ++ [a]) := (List.perm_append_singleton a _).symm
  rw [e] at p
  exact (List.Perm.cons_inv p).symm
theorem turnI_flip {x y : Bond} (hx : WfB x) (hy : WfB y) : turnI (flipB y) (flipB x) = turnI x y := by
  unfold turnI turnB flipB
  dsimp only
  have o1 : othE "r" = "s" := by decide
  have o2 : othE "s" = "r" := by decide
  have n1 : ¬ (("r" : Str) = "s") := by decide
  have n2 : ¬ (("s" : Str) = "r") := by decide
  rcases hx.d with e1 | e1 <;> rcases hy.b with e2 | e2 <;> rw [e1, e2] <;> simp [o1, o2, n1, n2]
theorem openT_abt : ∀ {w : List Bond}, (∀ b ∈ w, WfB b) → openT (abt w) = openT w
  | [], _ => rfl
  | [x], _ => rfl
  | x :: y :: r, h => by
    have ih := openT_abt (w := y :: r) fun b hb => h b (List.mem_cons_of_mem _ hb)
    unfold abt at ih ⊢
    rw [List.reverse_cons, List.map_append, List.reverse_cons, List.map_append] at *
    show openT (List.map flipB r.reverse ++ [flipB y] ++ [flipB x]) = turnI x y + openT (y :: r)
    rw [openT_snoc, turnI_flip (h x List.mem_cons_self) (h y (List.mem_cons_of_mem _ List.mem_cons_self))]
    rw [show openT (List.map flipB r.reverse ++ [flipB y]) = openT (y :: r) from ih]
    omega
theorem turnsM_abt {w : List Bond} (h : ∀ b ∈ w, WfB b) : turnsM (abt w) = turnsM w := by
  cases w with
  | nil => rfl
  | cons x r =>
    have e : abt (x :: r) = abt r ++ [flipB x] := by
      unfold abt
      rw [List.reverse_cons, List.map_append]; rfl
    rw [e, turnsM_rot]
    show turnsM (flipB x :: abt r) = _
    rw [turnsM_open, turnsM_open]
    have e2 : flipB x :: abt r ++ [flipB x] = abt (x :: r ++ [x]) := by
      unfold abt
      rw [List.reverse_append, List.map_append, List.reverse_cons, List.map_append]
      simp
    rw [e2, openT_abt]
    intro b hb
    rw [List.mem_append, List.mem_singleton] at hb
    exact hb.elim (h b) fun e => e ▸ h x List.mem_cons_self
theorem abt_abt {w : List Bond} (h : ∀ b ∈ w, WfB b) : abt (abt w) = w := by
  unfold abt
  rw [← List.map_reverse, List.reverse_reverse, List.map_map]
  have : w.map (flipB ∘ flipB) = w.map id := List.map_congr_left fun b hb => flip_flip (h b hb)
  rw [this, List.map_id]
theorem abt_rot {w w' : List Bond} (h : Rot w w') : Rot (abt w) (abt w') := h.rev.map flipB
theorem abt_smp {P P' : List Bond} (hm : ∀ b ∈ P, flipB b ∈ P') {w : List Bond} (h : Smp P w) : Smp P' (abt w) := by
  obtain ⟨a, k⟩ := h.wk
  refine ⟨⟨fun e => h.ne ?_, fun b hb => ?_, a, wk_abt k⟩, ?_⟩
  · unfold abt at e
    rw [List.map_eq_nil_iff, List.reverse_eq_nil_iff] at e
    exact e
  · unfold abt at hb
    obtain ⟨c, hc, rfl⟩ := List.mem_map.mp hb
    exact hm c (h.mem c (List.mem_reverse.mp hc))
  · unfold ringN abt
    rw [List.map_map]
    have e : (w.reverse.map ((·.a) ∘ flipB)) = (w.map (·.c)).reverse := by rw [← List.map_reverse]; rfl
    rw [e]
    exact ((List.reverse_perm _).trans (wk_perm k)).nodup_iff.mpr h.nd
theorem img_turned {P : List Bond} (ok : PatOk P) : Img P (turnedM P) abt abt := ⟨turned_ok ok, fun w h => abt_smp (fun b => turned_mem) h, fun w h => turnsM_abt fun b hb => ok.wf b (h.mem b hb), fun w h => abt_abt fun b hb => ok.wf b (h.mem b hb), fun _ _ => abt_rot⟩
theorem img_turned' {P : List Bond} (ok : PatOk P) : Img (turnedM P) P abt abt := ⟨ok, fun w h => abt_smp (fun b => mem_turned ok) h, fun w h => turnsM_abt fun b hb => (turned_ok ok).wf b (h.mem b hb), fun w h => abt_abt fun b hb => (turned_ok ok).wf b (h.mem b hb), fun _ _ => abt_rot⟩
theorem turned_many {P : List Bond} (ok : PatOk P) : manyM (turnedM P) = manyM P := img_many ok (img_turned ok) (img_turned' ok)
/-! ### other names -/
def mapB (ρ : Str → Str) (b : Bond) : Bond := ⟨ρ b.a, b.b, ρ b.c, b.d⟩
theorem wk_map (ρ : Str → Str) : ∀ {w : List Bond} {a z : Str}, Wk a w z → Wk (ρ a) (w.map (mapB ρ)) (ρ z)
  | [], _, _, h => congrArg ρ h
  | b :: r, _, _, h => ⟨congrArg ρ h.1, wk_map ρ h.2⟩
theorem openT_map (ρ : Str → Str) : ∀ w : List Bond, openT (w.map (mapB ρ)) = openT w
  | [] => rfl
  | [x] => rfl
  | x :: y :: r => by
    show turnI x y + openT ((y :: r).map (mapB ρ)) = turnI x y + openT (y :: r)
    rw [openT_map ρ (y :: r)]
theorem turnsM_map (ρ : Str → Str) (w : List Bond) : turnsM (w.map (mapB ρ)) = turnsM w := by
  cases w with
  | nil => rfl
  | cons x r =>
    rw [List.map_cons, turnsM_open, turnsM_open]
    have e : mapB ρ x :: r.map (mapB ρ) ++ [mapB ρ x] = (x :: r ++ [x]).map (mapB ρ) := by simp
    rw [e, openT_map]
theorem img_map {P P' : List Bond} {ρ ρ' : Str → Str} (ok' : PatOk P') (hm : ∀ b ∈ P, mapB ρ b ∈ P') (hi : ∀ b ∈ P, mapB ρ' (mapB ρ b) = b) : Img P P' (List.map (mapB ρ)) (List.map (mapB ρ')) := by
  refine ⟨ok', fun w h => ?_, fun w _ => turnsM_map ρ w, fun w h => ?_, fun _ _ h => h.map _⟩
  · obtain ⟨a, k⟩ := h.wk
    refine ⟨⟨fun e => h.ne (List.map_eq_nil_iff.mp e), fun b hb => ?_, ρ a, wk_map ρ k⟩, ?_⟩
    · obtain ⟨c, hc, rfl⟩ := List.mem_map.mp hb
      exact hm c (h.mem c hc)
    · have nd := List.pairwise_map.mp h.nd
      unfold ringN
      rw [List.map_map]
      refine List.pairwise_map.mpr (nd.imp_of_mem fun {b c} hb hc hne e => hne ?_)
      have e1 : (mapB ρ' (mapB ρ b)).a = (mapB ρ' (mapB ρ c)).a := congrArg ρ' e
      rwa [hi b (h.mem b hb), hi c (h.mem c hc)] at e1
  · rw [List.map_map]
    have : w.map (mapB ρ' ∘ mapB ρ) = w.map id := List.map_congr_left fun b hb => hi b (h.mem b hb)
    rw [this, List.map_id]
/-- names paired with others -/
theorem rn_zip : ∀ {ns new : List Str} {i : Nat} {x y : Str}, ns.Nodup → ns[i]? = some x → new[i]? = some y → rnM (ns.zip new) x = y
  | [], _, i, _, _, _, h, _ => by simp at h
  | n :: ns, [], i, _, _, _, _, h => by simp at h
  | n :: ns, m :: new, 0, x, y, _, h1, h2 => by
    have h1 : n = x := Option.some.inj h1
    have h2 : m = y := Option.some.inj h2
    subst h1 h2
    unfold rnM
    rw [List.zip_cons_cons, List.find?_cons_of_pos (by simp)]; rfl
  | n :: ns, m :: new, i + 1, x, y, nd, h1, h2 => by
    obtain ⟨n1, n2⟩ := List.nodup_cons.mp nd
    have h1 : ns[i]? = some x := h1
    have h2 : new[i]? = some y := h2
    have hne : n ≠ x := fun e => n1 (e ▸ List.mem_of_getElem? h1)
    have ih := rn_zip n2 h1 h2
    unfold rnM at ih ⊢
    rw [List.zip_cons_cons, List.find?_cons_of_neg (by simp [hne])]
    exact ih
section
variable {P : List Bond} (ok : PatOk P) {new : List Str} (nd : new.Nodup) (hl : 5 ≤ new.length) (let' : ∀ x ∈ new, x ∈ letters)
include ok nd hl
theorem ren_at {x : Str} (hx : x ∈ namesM P) : rnM ((namesM P).zip new) x ∈ new ∧ rnM (new.zip (namesM P)) (rnM ((namesM P).zip new) x) = x := by
  obtain ⟨i, hi, e⟩ := List.mem_iff_getElem.mp hx
  have h5 : (namesM P).length ≤ 5 := by rw [namesM_len]; exact ok.names
  have h1 : (namesM P)[i]? = some x := by rw [List.getElem?_eq_getElem hi, e]
  have h2 : new[i]? = some new[i] := List.getElem?_eq_getElem (by omega)
  rw [rn_zip (namesM_nodup P) h1 h2]
  exact ⟨List.getElem_mem _, rn_zip nd h2 h1⟩
theorem ren_inv {b : Bond} (hb : b ∈ P) : mapB (rnM (new.zip (namesM P))) (mapB (rnM ((namesM P).zip new)) b) = b := by
  have h1 := (ren_at ok nd hl (namesM_mem.mpr ⟨b, hb, .inl rfl⟩)).2
  have h2 := (ren_at ok nd hl (namesM_mem.mpr ⟨b, hb, .inr rfl⟩)).2
  obtain ⟨a, e, c, d⟩ := b
  have h1 : rnM (new.zip (namesM P)) (rnM ((namesM P).zip new) a) = a := h1
  have h2 : rnM (new.zip (namesM P)) (rnM ((namesM P).zip new) c) = c := h2
  show (⟨rnM (new.zip (namesM P)) (rnM ((namesM P).zip new) a), e, rnM (new.zip (namesM P)) (rnM ((namesM P).zip new) c), d⟩ : Bond) = _
  rw [h1, h2]
include let'
theorem ren_ok : PatOk (renamedM P ((namesM P).zip new)) := patOk_img (F := mapB (rnM ((namesM P).zip new))) (ρ := rnM ((namesM P).zip new)) ok (fun b hb c hc e => by
    have := congrArg (mapB (rnM (new.zip (namesM P)))) e
    rwa [ren_inv ok nd hl hb, ren_inv ok nd hl hc] at this) (fun b hb => by
      have w := ok.wf b hb
      have ha := namesM_mem.mpr ⟨b, hb, .inl rfl⟩
      have hc := namesM_mem.mpr ⟨b, hb, .inr rfl⟩
      refine ⟨let' _ (ren_at ok nd hl ha).1, let' _ (ren_at ok nd hl hc).1, w.b, w.d, fun e => w.ne ?_⟩
      have e2 := congrArg (rnM (new.zip (namesM P))) e
      have h1 := (ren_at ok nd hl ha).2
      have h2 := (ren_at ok nd hl hc).2
      rw [← h1, ← h2]
      exact e2) fun b _ => ⟨.inl rfl, .inr rfl⟩
theorem ren_many : manyM (renamedM P ((namesM P).zip new)) = manyM P := by
  refine img_many (f := List.map (mapB (rnM ((namesM P).zip new)))) (g := List.map (mapB (rnM (new.zip (namesM P))))) (f' := List.map (mapB (rnM (new.zip (namesM P))))) (g' := List.map (mapB (rnM ((namesM P).zip new)))) ok (img_map (ren_ok ok nd hl let') (fun b hb => mem_sortO.mpr (List.mem_map.mpr ⟨b, hb, rfl⟩)) fun b hb => ren_inv ok nd hl hb) (img_map ok (fun b hb => ?_) fun b hb => ?_)
  · obtain ⟨c, hc, rfl⟩ := List.mem_map.mp (mem_sortO.mp hb)
    show mapB _ (mapB _ c) ∈ P
    rw [ren_inv ok nd hl hc]
    exact hc
  · obtain ⟨c, hc, rfl⟩ := List.mem_map.mp (mem_sortO.mp hb)
    show mapB _ (mapB _ (mapB _ c)) = mapB _ c
    rw [ren_inv ok nd hl hc]
theorem ren_nd : (((namesM P).zip new).map (·.1)).Nodup ∧ (∀ p ∈ (namesM P).zip new, p.1 ∈ namesM P) ∧ ((namesM P).map (rnM ((namesM P).zip new))).Nodup ∧ ((namesM P).zip new).length ≤ 5 := by
  have h5 : (namesM P).length ≤ 5 := by rw [namesM_len]; exact ok.names
  refine ⟨?_, fun p hp => (List.of_mem_zip hp).1, ?_, by rw [List.length_zip]; omega⟩
  · rw [List.map_fst_zip (by omega)]
    exact namesM_nodup P
  · refine List.pairwise_map.mpr ((namesM_nodup P).imp_of_mem fun {a b} ha hb hne e => hne ?_)
    rw [← (ren_at ok nd hl ha).2, ← (ren_at ok nd hl hb).2, e]
end
end Bx
set_option Elab.async false
set_option linter.all false
set_option maxRecDepth 100000
/-! M7: bonds on rings, fewer bonds, what holds of each ring. -/
namespace Bx
open PySem
open PySem.W (Datum DatumOrd T3 T4 Tup minOf)
/-! ### leads -/
theorem leadB_mono {R : Lds} {b : Bond} {n x : Str} (h : x ∈ R n) : x ∈ leadB R b n := by
  unfold leadB
  by_cases e : n = b.a
  · rw [if_pos e, mem_joinS, mem_joinS]
    exact .inl (.inr (e ▸ h))
  · rw [if_neg e]; exact h
theorem lap_mono {n x : Str} : ∀ (L : List Bond) {R : Lds}, x ∈ R n → x ∈ (L.foldl leadB R) n
  | [], _, h => h
  | b :: L, _, h => lap_mono L (leadB_mono h)
theorem lap_step {c : Bond} {x : Str} : ∀ {L : List Bond} {R : Lds}, c ∈ L → x ∈ R c.c → x ∈ (L.foldl leadB R) c.a
  | b :: L, R, hc, hx => by
    rcases List.mem_cons.mp hc with rfl | hc
    · refine lap_mono L ?_
      unfold leadB
      rw [if_pos rfl, mem_joinS]
      exact .inr hx
    · exact lap_step (L := L) (R := leadB R b) hc (leadB_mono hx)
theorem laps_mono {P : List Bond} {n x : Str} {k : Nat} (h : x ∈ lapsM P k n) : x ∈ lapsM P (k + 1) n := lap_mono P h
theorem laps_complete {P : List Bond} {x : Str} : ∀ (k : Nat) {w : List Bond} {n : Str}, Wk n w x → (∀ b ∈ w, b ∈ P) → w.length ≤ k → x ∈ lapsM P k n
  | 0, [], n, h, _, _ => by
    rw [show n = x from h]
    exact List.mem_singleton.mpr rfl
  | 0, _ :: _, _, _, _, hl => absurd hl (by simp)
  | k + 1, [], n, h, m, _ => laps_mono (laps_complete k (w := []) h m (Nat.zero_le _))
  | k + 1, c :: w, n, h, m, hl => by
    have := laps_complete k h.2 (fun b hb => m b (List.mem_cons_of_mem _ hb)) (by rw [List.length_cons] at hl; omega)
    rw [← h.1]
    exact lap_step (m c List.mem_cons_self) this
def Rch (P : List Bond) (n x : Str) : Prop := ∃ w, Wk n w x ∧ ∀ b ∈ w, b ∈ P
theorem lap_sound {P : List Bond} : ∀ (L : List Bond) {R : Lds}, (∀ b ∈ L, b ∈ P) → (∀ n x, x ∈ R n → Rch P n x) → ∀ n x, x ∈ (L.foldl leadB R) n → Rch P n x
  | [], _, _, h => h
  | b :: L, R, hL, h => lap_sound L (fun c hc => hL c (List.mem_cons_of_mem _ hc)) fun n x hx => by
    unfold leadB at hx
    by_cases e : n = b.a
    · rw [if_pos e, mem_joinS, mem_joinS] at hx
      rcases hx with (hx | hx) | hx
      · cases hx
      · exact e ▸ h _ x hx
      · obtain ⟨w, h1, h2⟩ := h _ x hx
        exact ⟨b :: w, ⟨e.symm, h1⟩, fun c hc => (List.mem_cons.mp hc).elim (fun q => q ▸ hL b List.mem_cons_self) (h2 c)⟩
    · rw [if_neg e] at hx
      exact h n x hx
theorem laps_sound {P : List Bond} : ∀ (k : Nat) (n x : Str), x ∈ lapsM P k n → Rch P n x
  | 0, n, x, h => ⟨[], (List.mem_singleton.mp h).symm, fun _ h => nomatch h⟩
  | k + 1, n, x, h => lap_sound P (fun _ h => h) (laps_sound k) n x h
/-- a closed walk through b without a name twice -/
theorem simple_through {P : List Bond} {b : Bond} (hb : b ∈ P) : ∀ (n : Nat) {w : List Bond}, w.length ≤ n → Wk b.c w b.a → (∀ c ∈ w, c ∈ P) → ∃ w', Smp P (b :: w')
  | n, w, hl, h, hm => by
    by_cases nd : (ringN (b :: w)).Nodup
    · exact ⟨w, ⟨⟨List.cons_ne_nil _ _, fun c hc => (List.mem_cons.mp hc).elim (fun e => e ▸ hb) (hm c), b.a, rfl, h⟩, nd⟩⟩
    · obtain ⟨u, x, v, c, z, e, ea⟩ := dup_split nd
      cases u with
      | nil =>
        injection e with e1 e2
        subst e1
        have e2 : w = v ++ c :: z := e2
        rw [e2] at h hl hm
        obtain ⟨m, k1, k2⟩ := wk_append.mp h
        have em : c.a = m := k2.1
        have hlt : v.length < n := by
          rw [List.length_append, List.length_cons] at hl
          omega
        match n, hlt with
        | n + 1, hlt => exact simple_through hb n (w := v) (by omega) (by rw [← em, ← ea] at k1; exact k1) fun y hy => hm y (List.mem_append_left _ hy)
      | cons y u =>
        injection e with e1 e2
        have e3 : w = u ++ (x :: v ++ c :: z) := by rw [e2]; simp
        rw [e3] at h hl hm
        obtain ⟨m1, k1, k2⟩ := wk_append.mp h
        obtain ⟨m2, k3, k4⟩ := wk_append.mp k2
        have em1 : x.a = m1 := k3.1
        have em2 : c.a = m2 := k4.1
        have hlt : (u ++ c :: z).length < n := by
          simp only [List.length_append, List.length_cons] at hl ⊢
          omega
        match n, hlt with
        | n + 1, hlt =>
          refine simple_through hb n (w := u ++ c :: z) (by omega) (wk_append.mpr ⟨m1, k1, ?_⟩) fun y hy => hm y ?_
          · rw [← em1, ea, em2]; exact k4
          · rw [List.mem_append] at hy ⊢
            exact hy.imp id fun q => List.mem_append_right _ q
section
variable {P : List Bond} (ok : PatOk P)
include ok
theorem on_rings_iff {b : Bond} : b ∈ onRingsM P ↔ ∃ q ∈ ringsM P, b ∈ q.items := by
  unfold onRingsM
  rw [List.mem_filter]
  constructor
  · rintro ⟨hb, h⟩
    obtain ⟨w, h1, h2⟩ := laps_sound _ _ _ (show b.a ∈ lapsM P _ b.c from of_decide_eq_true h)
    obtain ⟨w', sm⟩ := simple_through hb w.length (Nat.le_refl _) h1 h2
    obtain ⟨m, s, e, ro⟩ := sm.ring
    have rt := (begun_rot (b :: w')).perm
    rw [e] at rt
    exact ⟨⟨m :: s⟩, (mem_ringsM ok).mpr ⟨m, s, rfl, ro⟩, rt.mem_iff.mp List.mem_cons_self⟩
  · rintro ⟨q, hq, hb⟩
    obtain ⟨x, r, rfl, ro⟩ := (mem_ringsM ok).mp hq
    have hb : b ∈ x :: r := hb
    refine ⟨ro.path.mem b hb, decide_eq_true ?_⟩
    obtain ⟨u, v, e⟩ := List.append_of_mem hb
    have sm := ro.smp
    have hlen : (x :: r).length ≤ (namesM P).length := by
      have := nodup_len (m := namesM P) ro.path.nd fun y hy => by
        obtain ⟨c, hc, rfl⟩ := List.mem_map.mp hy
        exact namesM_mem.mpr ⟨c, ro.path.mem c hc, .inl rfl⟩
      unfold ringN at this
      rwa [List.length_map] at this
    rw [e] at sm hlen
    have sm2 := sm.rot
    obtain ⟨a, k⟩ := sm2.wk
    have ka : b.a = a := k.1
    have k2 : Wk b.c (v ++ u) b.a := by
      have : Wk b.c (v ++ u) a := k.2
      rwa [← ka] at this
    exact laps_complete _ k2 (fun c hc => sm2.mem c (List.mem_cons_of_mem _ hc)) (by
      simp only [List.length_append, List.length_cons] at hlen ⊢
      omega)
theorem on_rings_sorted : sortO (dd ((ringsM P).map (·.items)).flatten) = onRingsM P := by
  refine asc_ext (asc_sort (nodup_dd _)) (ok.asc.filter _) fun b => ?_
  rw [mem_sortO, mem_dd, on_rings_iff ok, List.mem_flatten]
  constructor
  · rintro ⟨l, hl, hb⟩
    obtain ⟨q, hq, rfl⟩ := List.mem_map.mp hl
    exact ⟨q, hq, hb⟩
  · rintro ⟨q, hq, hb⟩
    exact ⟨q.items, List.mem_map.mpr ⟨q, hq, rfl⟩, hb⟩
/-! ### fewer bonds -/
theorem less_ok (b : Bond) (h : P.filter (fun c => decide (c ≠ b)) ≠ []) : PatOk (P.filter fun c => decide (c ≠ b)) := by
  have sub : ∀ x ∈ P.filter (fun c => decide (c ≠ b)), x ∈ P := fun x hx => (List.mem_filter.mp hx).1
  refine ⟨h, ok.asc.filter _, fun x hx => ok.wf x (sub x hx), Nat.le_trans (List.length_filter_le _ _) ok.few, Nat.le_trans (dd_le fun x hx => ?_) ok.names⟩
  obtain ⟨c, hc, q⟩ := List.mem_flatMap.mp hx
  exact List.mem_flatMap.mpr ⟨c, sub c hc, q⟩
theorem FW.sub {Q : List Bond} (h : ∀ x ∈ Q, x ∈ P) {first last : Bond} {w : List Bond} (k : FW Q first w last) : FW P first w last := by
  induction k with
  | one hf => exact .one (h _ hf)
  | snoc _ hf ha ih => exact ih.snoc (h _ hf) ha
theorem less_turns (b : Bond) (h : P.filter (fun c => decide (c ≠ b)) ≠ []) {t : Lab} (ht : leastM (P.filter fun c => decide (c ≠ b)) = some t) : ∃ u, leastM P = some u ∧ u.a ≤ t.a := by
  obtain ⟨⟨first, last, c, _, ha, _⟩, _⟩ := least_some (less_ok ok b h) ht
  have c2 : CW P first last t.c.items := ⟨FW.sub ok (fun x hx => (List.mem_filter.mp hx).1) c.fw, c.cl⟩
  cases q : leastM P with
  | none => exact absurd c2 (least_none ok q)
  | some u =>
    have := (least_some ok q).2 first last _ c2
    exact ⟨u, rfl, by omega⟩
/-! ### each ring -/
theorem ring_len {x : Bond} {r : List Bond} (h : RingOk P x r) : r.length ≤ 4 ∧ r ≠ [] := by
  refine ⟨h.path.len ok.names, fun e => ?_⟩
  subst e
  have w := ok.wf x (h.path.mem x List.mem_cons_self)
  exact w.ne h.closed.symm
end
theorem steps_wk : ∀ {x : Bond} {r : List Bond} {a z : Str}, Wk a (x :: r) z → ∀ (y : Bond), y.a = z → ((x :: r).zip (r ++ [y])).all (fun p => decide (p.1.c = p.2.a)) = true
  | x, [], a, z, h, y, hy => by
    have h2 : x.c = z := h.2
    show (decide (x.c = y.a) && true) = true
    rw [Bool.and_true, decide_eq_true_eq, h2, hy]
  | x, x2 :: r, a, z, h, y, hy => by
    show (decide (x.c = x2.a) && ((x2 :: r).zip (r ++ [y])).all (fun p => decide (p.1.c = p.2.a))) = true
    rw [steps_wk (x := x2) (r := r) h.2 y hy, Bool.and_true, decide_eq_true_eq]
    exact h.2.1.symm
theorem round_ring {P : List Bond} {x : Bond} {r : List Bond} (h : RingOk P x r) : roundM (x :: r) = true := by
  unfold roundM stepsM rot1
  have k := h.path.wk
  rw [h.closed] at k
  have h1 : ((x :: r).zip ((x :: r).tail ++ (x :: r).head?.toList)).all (fun p => decide (p.1.c = p.2.a)) = true := steps_wk k x rfl
  rw [h1, Bool.true_and, decide_eq_true_eq, dd_len_iff.mpr h.path.nd]
  unfold ringN
  rw [List.length_map]
theorem min_ring {P : List Bond} {x : Bond} {r : List Bond} (h : RingOk P x r) : minOf x r = x := minOf_is List.mem_cons_self fun b hb => (List.mem_cons.mp hb).imp id (h.path.first b)
theorem turns_count (r : List Bond) : turnsM r = (turnNamesM r).length := by
  unfold turnsM turnNamesM
  rw [length_sortO, List.length_map]
  generalize stepsM r = l
  induction l with
  | nil => rfl
  | cons p l ih =>
    rw [List.map_cons, List.sum_cons, ih]
    unfold turnI
    by_cases h : turnB p.1 p.2 = true
    · rw [if_pos h, List.filter_cons_of_pos (by simp [h]), List.length_cons]
      omega
    · rw [if_neg h, List.filter_cons_of_neg (by simp [h])]
      omega
theorem count_filter {α : Type} (f : α → Int) (k : Int) : ∀ l : List α, (l.filter fun q => decide (f q = k)).length = (l.map f).count k
  | [] => rfl
  | x :: l => by
    rw [List.map_cons]
    by_cases h : f x = k
    · rw [List.filter_cons_of_pos (by simp [h]), List.length_cons, count_filter f k l, h, List.count_cons_self]
    · rw [List.filter_cons_of_neg (by simp [h]), count_filter f k l, List.count_cons_of_ne h]
theorem many_count (P : List Bond) (k : Int) : ((ringsM P).filter fun q => decide (turnsM q.items = k)).length = (manyM P).count k := by
  rw [count_filter (fun q : Pat => turnsM q.items)]
  unfold manyM
  exact ((sortO_perm _).count_eq k).symm
end Bx
set_option Elab.async false
set_option linter.all false
set_option maxRecDepth 100000
set_option maxHeartbeats 4000000
/-! F0: _law_box, _law_take, _law_of. -/
namespace Bx
open PySem PySem.Spec PyProof.Rows L2
open PySem.W (Datum DatumOrd Holds HoldAll T3 T4 Tup EachIs minOf)
section
variable {X : Cx} {e o i a b : Expr} {σ : St} {H : Hp} {pos pos' : Pos} {D : Ends}
theorem pv_abs {p : Pos} {k : Int} (hm : X.mg "abs" = none) (ha : PV X e σ H (.i k)) (hg : Gl X "abs" := by rfl) (ns : NS X e := by rfl) : PV X (.Call (.Name "abs" p) [e] [] pos) σ H (.i (if k < 0 then -k else k)) :=
  pv_callB call_abs hm (by decide +kernel) (pas_cons ha pas_nil ns) (fun H0 H' vs _ _ pr Q q => by
    obtain ⟨v, rfl, pv⟩ := rsl1 pr
    exact ⟨k, by rw [Rs.pI pv], q _ H' (Same.refl _) (DI.int _)⟩) hg (he := ns)
/-- l[k] = e -/
theorem ws_setIx {l : Addr} {xs : List V} {k : Nat} {r : Rs} (he : PV X e σ H r) (ho : PV X o σ H (.v (.ref l))) (hi : PV X i σ H (.i (k : Nat))) (hl : H l = some (.lst xs)) (hk : k < xs.length)
    (q : ∀ v H1, Same H H1 → r.P H v H1 → D.nx σ (L2.upd H1 l (.lst (xs.set k v))))
    (ha1 : ∀ v, assign (.Subscript o i pos') X.env v = (do
      let ov ← holding [v] (eval o X.env)
      let iv ← holding [v, ov] (eval i X.env)
      standAt pos'
      holding [v, ov, iv] (setItem ov iv v)
      release [v, ov, iv] []) := by intro _; rfl)
    (hs : swapsWithSole [.Subscript o i pos'] e pos.line X.env = pure false := by rfl) (hw : swappedStores [.Subscript o i pos'] e X.env = pure none := by rfl)
    (h1 : (assignEach [.Subscript o i pos'] X.env).map (·.2) = [assign (.Subscript o i pos') X.env] := by rfl) : WS X (.Assign [.Subscript o i pos'] e pos) D σ H := by
  refine .of (ps_asg pe_s (pg_sub pe_s pe_s set_list ha1) hs hw h1) ?_
  refine he.t (Same.refl _) fun v H1 s1 pv => ho.t s1 fun x H2 s2 px => hi.t (s1.trans s2) fun y H3 s3 py => ?_
  have px : x = V.ref l := px
  have s := (s1.trans s2).trans s3
  refine ⟨l, xs, (k : Int), k, px, Rs.pI py, s _ _ hl, ?_, q v H3 s (Rs.up pv (s2.trans s3))⟩
  unfold ixN
  rw [if_pos (by omega), if_pos (by omega)]
  rfl
end
section
variable {P : Program} {w : World} {K : PySem.W.Frag} {mg : Str → Option Value} {base : Heap}
/-! ### _law_box -/
def absI (c : Int) : Int := if c < 0 then -c else c
theorem absI_nn (c : Int) : 0 ≤ absI c := by
  unfold absI
  split <;> omega
def boxA (c : Int) : Int := absI c * (if decide ((10 : Int) ^ 18 ≤ absI c) = true then 1 else 0)
def boxB (c : Int) (k : Nat) : Int := c % 2305843009213693951 + 39373 * (k : Int) + 26732
abbrev spBox : Sp := spY (fun (y : List Int × Nat × Int) vs H => ∃ l us, vs = [.ref l, .int (y.2.1 : Nat)] ∧ H l = some (.lst us) ∧ HDs H us y.1 ∧ y.1[y.2.1]? = some y.2.2 ∧ y.1.length ≤ 1000) fun y => .l [.int (boxA y.2.2), .int (boxB y.2.2 y.2.1), .int 0]
theorem ok_box (T : Txt K mg) : Dfn P w K mg base 1 "_law_box" ["_law_script", "_law_k"] spBox := by
  refine dfn_of T.h_l_box sc_l_box (fun vs H Q E h => ?_) (fun f cdv A outer s H vs Q E hr h => ?_)
  · obtain ⟨_, ⟨_, _, rfl, _⟩, _⟩ := h; rfl
  · obtain ⟨⟨ns, k, c⟩, ⟨l, us, rfl, hl, hus, hk, hn⟩, q⟩ := h
    have hu := hr.units
    dsimp only at hus hk hn q
    have hkl : k < ns.length := (List.getElem?_eq_some_iff.mp hk).1
    have hul := hus.length
    refine wb_cons (ws_set (i := 2) (r := .i c) sc_l_box.nd (pv_ifE (k := decide ((k : Int) < us.length)) (pb_lt (pv_dat 1 rfl (DI.int _)) (pv_lenV T.b_len (pv_name 0 rfl) (SqL.of hl))) (fun _ => pv_ixL (ds := ns.map Datum.toD) (pv_name 0 rfl) hl hus (pv_dat 1 rfl (DI.int _)) (atI_nat (by rw [List.getElem?_map, hk]; rfl))) fun hf => ?_) fun v1 H1 s1 p1 => ?_)
    · exact absurd (show (k : Int) < us.length by omega) (of_decide_eq_false hf)
    · have e1 := Rs.pI p1
      subst e1
      refine wb_one (ws_ret (r := .l [.int (boxA c), .int (boxB c k), .int 0]) (pv_lst (pad_cons (pv_mul (i := absI c) (j := if decide ((10 : Int) ^ 18 ≤ absI c) = true then 1 else 0) (pv_abs T.b_abs (pv_dat 2 rfl (DI.int c))) (pv_intB T.b_int (pv_ge (pv_abs T.b_abs (pv_dat 2 rfl (DI.int c))) (PV.is (pv_pow pv_int pv_int ⟨by decide, by decide, by decide⟩) rfl))) (.inr (by split <;> decide)))
        (pad_cons (pv_add (pv_add (pv_mod (pv_intI T.b_int (pv_dat 2 rfl (DI.int c))) pv_int (by decide)) (pv_mul pv_int (pv_dat 1 rfl (DI.int (k : Int))) (.inl (by decide)))) pv_int) (pad_cons pv_int pad_nil)))) fun v2 H2 s2 p2 => q v2 H2 (s1.trans s2) (Rs.down p2 s1))
end
end Bx
set_option Elab.async false
set_option linter.all false
set_option maxRecDepth 100000
set_option maxHeartbeats 4000000
/-! F1: _law_take, _law_of. -/
namespace Bx
open PySem PySem.Spec PyProof.Rows L2
open PySem.W (Datum DatumOrd Holds HoldAll T3 T4 Tup EachIs minOf)
def BoxOk (H : Hp) (b : Addr) (c : Int) : Prop := ∃ i0 i1 i2 : Int, H b = some (.lst [.int i0, .int i1, .int i2]) ∧ 0 ≤ i0 ∧ 0 ≤ i1 ∧ 0 ≤ i2 ∧ i2 ≤ c
theorem BoxOk.same {H H' : Hp} {b : Addr} {c : Int} (h : BoxOk H b c) (s : Same H H') : BoxOk H' b c := by
  obtain ⟨i0, i1, i2, e, r⟩ := h
  exact ⟨i0, i1, i2, s _ _ e, r⟩
theorem BoxOk.le {H : Hp} {b : Addr} {c c' : Int} (h : BoxOk H b c) (l : c ≤ c') : BoxOk H b c' := by
  obtain ⟨i0, i1, i2, e, a, b, c, d⟩ := h
  exact ⟨i0, i1, i2, e, a, b, c, Int.le_trans d l⟩
def spTake : Sp := fun vs H Q _ => ∃ (b : Addr) (n c : Int), vs = [.ref b, .int n] ∧ 0 < n ∧ n < 1000 ∧ c ≤ 1000000 ∧ BoxOk H b c ∧ ∀ (d : Int) H', 0 ≤ d → d < n → Off1 b H H' → BoxOk H' b (c + 1) → Q (.int d) H'
section
variable {X : Cx} {a e : Expr} {σ : St} {H : Hp} {pos : Pos} {D : Ends}
/-- box[k] -/
theorem pv_box {b : Addr} {xs : List Int} {k : Nat} {i : Int} (ha : PV X a σ H (.v (.ref b))) (hb : H b = some (.lst (xs.map V.int))) (he : PV X e σ H (.i (k : Nat))) (hi : xs[k]? = some i) (hs : PlainIx e := by exact fun _ _ => rfl) : PV X (.Subscript a e pos) σ H (.i i) := by
  refine pv_ixL (ds := xs.map Datum.toD) ha hb ?_ he (atI_nat (by rw [List.getElem?_map, hi]; rfl)) hs
  clear hb hi
  induction xs with
  | nil => exact .nil
  | cons x xs ih => exact .cons (DI.int x) ih
end
section
variable {P : Program} {w : World} {K : PySem.W.Frag} {mg : Str → Option Value} {base : Heap}
theorem ok_take (T : Txt K mg) : Dfn P w K mg base 1 "_law_take" ["_law_box_here", "_law_below_so"] spTake := by
  refine dfn_of T.h_l_take sc_l_take (fun vs H Q E h => ?_) (fun f cdv A outer s H vs Q E hr h => ?_)
  · obtain ⟨_, _, _, rfl, _⟩ := h; rfl
  · obtain ⟨b, n, c, rfl, hn0, hn1, hc, ⟨i0, i1, i2, hb, h0, h1, h2, h3⟩, q⟩ := h
    have hu := hr.units
    have hb' : H b = some (.lst (([i0, i1, i2] : List Int).map V.int)) := hb
    refine wb_cons (ws_if (k := decide ((0 : Int) < i0)) (pb_gt (pv_box (pv_name 0 rfl) hb' pv_int (k := 0) rfl) pv_int) (fun hk H1 s1 => ?_) fun hk H1 s1 => wb_nil ?_)
    · have hk : 0 < i0 := of_decide_eq_true hk
      have hb1 : H1 b = some (.lst (([i0, i1, i2] : List Int).map V.int)) := s1 _ _ hb'
      refine wb_cons (ws_set (i := 2) (r := .i (i0 % n)) sc_l_take.nd (pv_mod (pv_intI T.b_int (pv_box (pv_name 0 rfl) hb1 pv_int (k := 0) rfl)) (pv_dat 1 rfl (DI.int n)) hn0) fun v2 H2 s2 p2 => ?_)
      have e2 := Rs.pI p2
      subst e2
      have hb2 := s2 _ _ hb1
      refine wb_cons (ws_setIx (k := 0) (r := .i (i0 / n)) (pv_fdiv (pv_box (pv_name 0 rfl) hb2 pv_int (k := 0) rfl) (pv_dat 1 rfl (DI.int n)) ⟨hn0, by omega⟩) (pv_name 0 rfl) pv_int hb2 (by simp) fun v3 H3 s3 p3 => ?_)
      have e3 := Rs.pI p3
      subst e3
      refine wb_one (ws_ret (r := .i (i0 % n)) (pv_dat 2 rfl (DI.int _)) fun v4 H4 s4 p4 => ?_)
      rw [Rs.pI p4]
      refine q _ _ (Int.emod_nonneg _ (by omega)) (Int.emod_lt_of_pos _ hn0) ((((Off1.of ((s1.trans s2).trans s3)).trans (Off1.up _ _))).trans (.of s4)) ⟨i0 / n, i1, i2, s4 _ _ upd_same, Int.ediv_nonneg h0 (by omega), h1, h2, by omega⟩
    · have hb1 : H1 b = some (.lst (([i0, i1, i2] : List Int).map V.int)) := s1 _ _ hb'
      refine wb_cons (ws_setIx (k := 2) (r := .i (i2 + 1)) (pv_add (pv_box (pv_name 0 rfl) hb1 pv_int (k := 2) rfl) pv_int) (pv_name 0 rfl) pv_int hb1 (by simp) fun v3 H3 s3 p3 => ?_)
      have e3 := Rs.pI p3
      subst e3
      have hb3 : (L2.upd H3 b (.lst (([i0, i1, i2].map V.int).set 2 (V.int (i2 + 1))))) b = some (.lst (([i0, i1, i2 + 1] : List Int).map V.int)) := upd_same
      have off : Off1 b H (L2.upd H3 b (.lst (([i0, i1, i2].map V.int).set 2 (V.int (i2 + 1))))) := (Off1.of (s1.trans s3)).trans (Off1.up _ _)
      generalize L2.upd H3 b (.lst (([i0, i1, i2].map V.int).set 2 (V.int (i2 + 1)))) = H4 at hb3 off
      refine wb_cons (ws_set (i := 3) (r := .i (((i1 + 48271 * (i2 + 1)) * (39373 + (i2 + 1))) % 2147483647)) sc_l_take.nd (pv_mod (pv_intI T.b_int (pv_mul (pv_add (pv_box (pv_name 0 rfl) hb3 pv_int (k := 1) rfl) (pv_mul pv_int (pv_box (pv_name 0 rfl) hb3 pv_int (k := 2) rfl) (.inl (by decide)))) (pv_add pv_int (pv_box (pv_name 0 rfl) hb3 pv_int (k := 2) rfl)) (.inr ⟨by omega, by omega⟩))) pv_int (by decide)) fun v5 H5 s5 p5 => ?_)
      have e5 := Rs.pI p5
      subst e5
      have hb5 := s5 _ _ hb3
      have ho1 := Int.emod_nonneg ((i1 + 48271 * (i2 + 1)) * (39373 + (i2 + 1))) (show (2147483647 : Int) ≠ 0 by decide)
      have ho2 := Int.emod_lt_of_pos ((i1 + 48271 * (i2 + 1)) * (39373 + (i2 + 1))) (show (0 : Int) < 2147483647 by decide)
      generalize ((i1 + 48271 * (i2 + 1)) * (39373 + (i2 + 1))) % 2147483647 = once at ho1 ho2
      refine wb_cons (ws_set (i := 4) (r := .i (once % 40009 + 7)) sc_l_take.nd (pv_add (pv_mod (pv_intI T.b_int (pv_dat 3 rfl (DI.int once))) pv_int (by decide)) pv_int) fun v6 H6 s6 p6 => ?_)
      have e6 := Rs.pI p6
      subst e6
      have hb6 := s6 _ _ hb5
      have hf1 := Int.emod_nonneg once (show (40009 : Int) ≠ 0 by decide)
      have hf2 := Int.emod_lt_of_pos once (show (0 : Int) < 40009 by decide)
      generalize once % 40009 = far at hf1 hf2
      refine wb_cons (ws_set (i := 5) (r := .i (((once + (i2 + 1) + i1 / 1000003) * (far + 7)) % 2147483629)) sc_l_take.nd (pv_mod (pv_intI T.b_int (pv_mul (pv_add (pv_add (pv_dat 3 rfl (DI.int once)) (pv_box (pv_name 0 rfl) hb6 pv_int (k := 2) rfl)) (pv_fdiv (pv_box (pv_name 0 rfl) hb6 pv_int (k := 1) rfl) pv_int ⟨by decide, by decide⟩)) (pv_dat 4 rfl (DI.int (far + 7))) (.inr ⟨by omega, by omega⟩))) pv_int (by decide)) fun v7 H7 s7 p7 => ?_)
      have e7 := Rs.pI p7
      subst e7
      have hb7 := s7 _ _ hb6
      have ht1 := Int.emod_nonneg ((once + (i2 + 1) + i1 / 1000003) * (far + 7)) (show (2147483629 : Int) ≠ 0 by decide)
      have ht2 := Int.emod_lt_of_pos ((once + (i2 + 1) + i1 / 1000003) * (far + 7)) (show (0 : Int) < 2147483629 by decide)
      generalize ((once + (i2 + 1) + i1 / 1000003) * (far + 7)) % 2147483629 = twice at ht1 ht2
      refine wb_one (ws_ret (r := .i (((twice * 48271 + once) % 2147483587 / 64) % n)) (pv_mod (pv_intI T.b_int (pv_fdiv (pv_mod (pv_intI T.b_int (pv_add (pv_mul (pv_dat 5 rfl (DI.int twice)) pv_int (.inr (by decide))) (pv_dat 3 rfl (DI.int once)))) pv_int (by decide)) pv_int ⟨by decide, by decide⟩)) (pv_dat 1 rfl (DI.int n)) hn0) fun v8 H8 s8 p8 => ?_)
      rw [Rs.pI p8]
      exact q _ _ (Int.emod_nonneg _ (by omega)) (Int.emod_lt_of_pos _ hn0) (off.trans (.of (((s5.trans s6).trans s7).trans s8))) ⟨i0, i1, i2 + 1, s8 _ _ hb7, h0, h1, by omega, by omega⟩
end
end Bx
set_option Elab.async false
set_option linter.all false
set_option maxRecDepth 100000
set_option maxHeartbeats 4000000
/-! F2: list(a text). -/
namespace Bx
open PySem PySem.Spec PyProof.Rows L2
open PySem.W (Datum DatumOrd Holds HoldAll T3 T4 Tup EachIs minOf)
section
variable {prog : Program} {w : World} {A : Around} {E : Value → Shared → Prop} {s : Shared}
theorem hint_str {x : Str} {t : Tok} {Q : Bool → Shared → Prop} (h : Q false s) : wpAny (model prog w) A (Builtin.List.listLengthHint (.str x t)) Q E s := by
  have hT : s.TypeIs (.str x t) "str" := typeIs_str s x t
  unfold Builtin.List.listLengthHint
  refine wpAny_bind (wpAny_specialOf hT PySem.F.slot_str_len.lookup ?_)
  generalize hid : ("str.__len__" : String) = id0
  wp_delta
  rw [show splitId id0 = some ("str", "__len__") from by subst hid; decide +kernel]
  subst hid
  refine wpAny_bind (wpAny_isInstance (T := "str") (b := true) hT (by rw [isSubtype_type]; kernel_rfl) ?_)
  refine wpAny_ite_split (fun hab => absurd hab (by decide)) (fun _ => ?_)
  refine wpAny_ite_split (fun _ => ?_) (fun hab => absurd (by decide +kernel) hab)
  refine wpAny_bind (wpAny_typeOf hT ?_)
  exact wpAny_pure h
theorem extend_str {R : Result → Shared → Prop} (hh : A.handled = none) (x : Str) (t : Tok) (S : Addr) (res : Value) (c₀ : Nat) (hS : s.heap.get? S = some { cls := .type "list", data := .seq #[] c₀ })
    (hR : ∀ h' tk acc' c', (∀ b o, b ≠ S → s.heap.get? b = some o → h'.get? b = some o) → h'.get? S = some { cls := .type "list", dict := none, data := .seq acc' c', slots := #[] } →
      ItemsOf (SignAt x) acc' x.cps.size → R (.ok (.ret res)) { s with heap := h', toks := tk }) (hn : x.cps.size ≤ sizeLine) :
    wpAny (model prog w) A.in1 (Builtin.List.listExtendWith (.ref S) (.str x t) res)
      (fun fin s' => match fin with | .done f => R (.ok f) s' | .again c' => c'.quiet = true ∧ codeAny (model prog w) A c' R s') (fun e s' => R (.error e) s') s := by
  have hSI : S ≠ s.heap.objs.size := Nat.ne_of_lt (Heap.lt_size hS)
  have hSf : S ∉ [s.heap.objs.size] := fun hm => hSI (List.mem_singleton.mp hm)
  unfold Builtin.List.listExtendWith
  refine wpAny_bind (wpAny_typeOf (T := "str") (v := .str x t) (typeIs_str s x t) ?_)
  have h1 : Builtin.List.listSameRef (.ref S) (.str x t) = false := rfl
  have h2 : (Value.type "str" == Value.type "list") = false := by decide
  have h3 : (Value.type "str" == Value.type "tuple") = false := by decide
  simp only [h1, h2, h3, Bool.or_false, Bool.false_eq_true, if_false]
  refine wpAny_bind (wpAny_pyIter_str fun o St hW hst => ?_)
  refine wpAny_bind (wpAny_holding (hint_str ?_))
  rw [if_neg (by first | decide | decide +kernel)]
  have W := hW A.in1 hh
  refine wpAny_pure ⟨plainId_quiet PySem.F.plain_extend_loop _, codeAny_extend_loopS W.toS hn _ hSf _ x.cps.size 0 _ _ _ rfl (Nat.zero_le _) hst (Heap.get?_push_of_some _ hS) (ItemsOf.nil _) fun s' acc' c' hm hS' hacc => ?_⟩
  rw [Moved.eq_with hm]
  refine hR s'.heap s'.toks acc' c' (fun b ob hb e => hm.heap b ob (fun hmem => ?_) (Heap.get?_push_of_some _ e)) hS' hacc
  rcases List.mem_cons.mp hmem with e' | hmem
  · exact hb e'
  · exact absurd (Heap.lt_size e) (by rw [List.mem_singleton.mp hmem]; exact Nat.lt_irrefl _)
theorem call_list_txt {x : Str} {t : Tok} {Q : Value → Shared → Prop} (hh : A.handled = none) (hn : x.cps.size ≤ sizeLine)
    (hQ : ∀ h' tk acc' c', (∀ b o, s.heap.get? b = some o → h'.get? b = some o) →
      h'.get? s.heap.objs.size = some { cls := .type "list", dict := none, data := .seq acc' c', slots := #[] } → ItemsOf (SignAt x) acc' x.cps.size → Q (.ref s.heap.objs.size) { s with heap := h', toks := tk }) :
    wpAny (model prog w) A (call (.type "list") [.str x t]) Q E s := by
  refine callType_codes (Q₁ := fun obj s₁ => obj = .ref s.heap.objs.size ∧ s₁ = { s with heap := s.heap.push { cls := .type "list", data := .seq #[] } }) PySem.F.called_list (PySem.F.typeCall_list_1 _) PySem.F.entry_list_init
    (code_list_new _ ⟨rfl, rfl⟩) fun obj s₁ h₁ => ?_
  obtain ⟨rfl, rfl⟩ := h₁
  have hS : (s.heap.push { cls := .type "list", data := .seq #[] }).get? s.heap.objs.size = some { cls := .type "list", data := .seq #[] } := Heap.get?_push_size _ rfl
  refine ⟨⟨_, hS, rfl⟩, PySem.F.args_list_init_2 _ _, ?_⟩
  show wpAny _ _ (do let old ← Builtin.List.listItems (.ref s.heap.objs.size); Builtin.List.listUpdate (.ref s.heap.objs.size) (fun _ => #[]); letGo old.toList.reverse; Builtin.List.listExtendWith (.ref s.heap.objs.size) (.str x t) .none) _ _ _
  refine wpAny_bind ?_
  unfold Builtin.List.listItems
  refine wpAny_bind (wpAny_seqItems hS rfl (wpAny_pure ?_))
  show wpAny _ _ (updateSeq s.heap.objs.size (fun _ => #[]) >>= fun _ => letGo (#[] : Array Value).toList.reverse >>= fun _ => Builtin.List.listExtendWith (.ref s.heap.objs.size) (.str x t) .none) _ _ _
  refine wpAny_bind (wpAny_updateSeq hS rfl ?_)
  have hS₂ := Heap.get?_update_self (Obj.mapSeq (fun _ => (#[] : Array Value))) hS rfl
  have oth : ∀ b o, b ≠ s.heap.objs.size → (s.heap.push { cls := .type "list", data := .seq #[] }).get? b = some o → ((s.heap.push { cls := .type "list", data := .seq #[] }).update s.heap.objs.size (Obj.mapSeq (fun _ => (#[] : Array Value)))).get? b = some o :=
    fun b o hb e => (Heap.get?_update_other _ _ (Ne.symm hb)).trans e
  refine wpAny_bind (wpAny_letGo ?_)
  refine extend_str (A := A.in1) hh x t s.heap.objs.size .none _ hS₂ (fun h' tk acc' c' hk hS' hacc => ?_) hn
  exact ⟨rfl, hQ h' tk acc' c' (fun b o e => hk b o (Nat.ne_of_lt (Heap.lt_size e)) (oth b o (Nat.ne_of_lt (Heap.lt_size e)) (Heap.get?_push_of_some _ e))) hS' hacc⟩
end
section
variable {X : Cx} {e : Expr} {σ : St} {H : Hp} {pos : Pos}
theorem cr_listTxt (hc : X.calm = true) : CallR X (.type "list") (fun xs H Q => ∃ z : Str, xs = [V.str z] ∧ z.cps.size ≤ 1000 ∧ ∀ q, H q = none → Q (.ref q) (upd H q (.lst (z.cps.toList.map fun c => V.str ⟨#[c]⟩)))) := by
  intro pins s σ H xs us Q I r h
  obtain ⟨z, rfl, hz, q⟩ := h
  obtain ⟨u, rfl, ru⟩ := Vals.one r
  obtain ⟨t, rfl⟩ := ru
  have hz2 : z.cps.size ≤ sizeLine := Nat.le_trans hz (by decide)
  refine call_list_txt (I.ok.hd hc) hz2 fun h' tk acc c' hk e hi => ?_
  refine ⟨.ref s.heap.objs.size, upd H s.heap.objs.size (.lst (z.cps.toList.map fun c => V.str ⟨#[c]⟩)), I.laid hk (Nat.le_refl _) ⟨by rw [List.length_map, Array.length_toList]; exact hz2, acc.toList, c', ?_, by rw [Array.toArray_toList]; exact e⟩, rfl, q _ (I.hok.fresh (Nat.le_refl _))⟩
  refine vals_of_idx _ _ (by rw [List.length_map, Array.length_toList, Array.length_toList]; exact hi.1) fun j u hj => ?_
  obtain ⟨c, t', hc, rfl⟩ := hi.2 j u (by rw [← Array.getElem?_toList]; exact hj)
  exact ⟨.str ⟨#[c]⟩, by rw [List.getElem?_map, Array.getElem?_toList, hc]; rfl, ⟨_, rfl⟩⟩
/-- list(a text) -/
theorem pv_listTxt {p : Pos} {z : Str} (hc : X.calm = true) (hm : X.mg "list" = none) (ha : PV X e σ H (.s z)) (hz : z.cps.size ≤ 1000 := by decide) (hg : Gl X "list" := by rfl) (ns : NS X e := by rfl) : PV X (.Call (.Name "list" p) [e] [] pos) σ H (.ts (z.cps.toList.map fun c => (⟨#[c]⟩ : Str))) :=
  pv_callTy (cr_listTxt hc) hm (by decide +kernel) (pas_cons ha pas_nil ns) (fun H0 H' vs s0 s1 pr Q q => by
    obtain ⟨v, rfl, pv⟩ := rsl1 pr
    refine ⟨z, by rw [Rs.pS pv], hz, fun p np => q _ _ (same_new np) ⟨p, _, rfl, np, upd_same, ?_⟩⟩
    rw [List.map_map]
    generalize upd H' p (.lst (z.cps.toList.map fun c => V.str ⟨#[c]⟩)) = HH
    generalize z.cps.toList = l
    induction l with
    | nil => exact .nil
    | cons c l ih => exact .cons (DI.str _) ih) hg (he := ns)
end
end Bx
set_option Elab.async false
set_option linter.all false
set_option maxRecDepth 100000
set_option maxHeartbeats 4000000
/-! F3: _law_of, _law_mixed. -/
namespace Bx
open PySem PySem.Spec PyProof.Rows L2
open PySem.W (Datum DatumOrd Holds HoldAll T3 T4 Tup EachIs minOf)
section
variable {X : Cx} {e a c : Expr} {es : List Expr} {σ : St} {H : Hp} {pos p : Pos}
theorem ev_of {t : TE} {Q : VK} (h : PE X e t) (q : t σ H Q) : tS X e σ H Q := fun pins s I => h.run pins s σ H Q I q
/-- a call of a def, by its promise alone -/
theorem ev_call {j : Nat} {x : Str} {ps : List Str} {sp : Sp} {rs : List Rs} {Q : VK} {k : Nat} (D : Dfn X.prog X.w X.K X.mg X.base j x ps sp) (hr : Room k X.A) (ha : PAs X (e :: es) σ H rs) (q : ∀ vs H', Same H H' → RsL rs H vs H' → sp vs H' Q E0) (hl : j ≤ k := by decide) (hg : Gl X x := by rfl) (hdb : (x == ("__debug__" : Str)) = false := by decide)
    (he : starEach (e :: es) X.env = (false, eval e X.env) :: starEach es X.env := by rfl) (hpl : (backTo pos (starEach es X.env)).any (·.1) = false := by rfl) : tS X (.Call (.Name x p) (e :: es) [] pos) σ H Q :=
  ev_of (pe_dfn (D.mono hl) hr pa_s hg hdb he hpl) (ha.t (Same.refl _) fun vs H1 s1 pr => by rw [List.append_nil]; exact q vs H1 s1 pr)
end
def spOf : Sp := fun vs H Q _ => ∃ (b : Addr) (c : Int), vs = [.ref b, .str "sr"] ∧ c ≤ 1000000 ∧ BoxOk H b c ∧ ∀ (x : Str) H', (x = "r" ∨ x = "s") → Off1 b H H' → BoxOk H' b (c + 1) → Q (.str x) H'
section
variable {P : Program} {w : World} {K : PySem.W.Frag} {mg : Str → Option Value} {base : Heap}
theorem ok_of (T : Txt K mg) : Dfn P w K mg base 2 "_law_of" ["_law_box_here", "_law_pool_so"] spOf := by
  refine dfn_of T.h_l_of sc_l_of (fun vs H Q E h => ?_) (fun f cdv A outer s H vs Q E hr h => ?_)
  · obtain ⟨_, _, rfl, _⟩ := h; rfl
  · obtain ⟨b, c, rfl, hc, hb, q⟩ := h
    have hu := hr.units
    refine wb_one (.of (ps_ret (pe_ix ix_str pe_s pe_s fun _ _ => rfl)) ?_)
    refine (pv_dat 1 rfl (DI.str "sr")).t (Same.refl _) fun x H1 s1 px => ?_
    refine ev_call (ok_take T) hr (pas_cons (pv_name 0 rfl) (pas_cons (pv_lenS T.b_len (pv_dat 1 rfl (DI.str "sr"))) pas_nil)) fun vs H2 s2 pr => ?_
    obtain ⟨z1, z2, rfl, a1, a2⟩ := rsl2 pr
    have a1 : z1 = .ref b := a1
    refine ⟨b, 2, c, by rw [a1, Rs.pI a2]; rfl, by decide, by decide, hc, hb.same (s1.trans s2), fun d H' h0 h2 off bo => ?_⟩
    have px : x = V.str "sr" := Rs.pS px
    have hd : d = 0 ∨ d = 1 := by omega
    have off2 := (Off1.of (F := b) (s1.trans s2)).trans off
    rcases hd with rfl | rfl
    · exact ⟨"sr", 0, 115, px, rfl, by decide, rfl, q _ _ (.inr (by decide)) off2 bo⟩
    · exact ⟨"sr", 1, 114, px, rfl, by decide, rfl, q _ _ (.inl (by decide)) off2 bo⟩
end
end Bx
set_option Elab.async false
set_option linter.all false
set_option maxRecDepth 100000
set_option maxHeartbeats 4000000
/-! F4: slices and sums of lists, _law_mixed. -/
namespace Bx
open PySem PySem.Spec PyProof.Rows L2
open PySem.W (Datum DatumOrd Holds HoldAll T3 T4 Tup EachIs minOf)
/-- the list that r stands for -/
def LstR (H : Hp) (r : Rs) (ds : List PyData) : Prop := ∀ H0 H' v, Same H H0 → Same H0 H' → r.P H0 v H' → ∃ p vs, v = .ref p ∧ H' p = some (.lst vs) ∧ DIs H' vs ds
theorem lstr_new {H : Hp} {ds : List PyData} : LstR H (.l ds) ds := fun H0 H' v _ _ p => by
  obtain ⟨p, vs, rfl, _, h, hs⟩ := p
  exact ⟨p, vs, rfl, h, hs⟩
theorem lstr_var {H : Hp} {l : Addr} {vs : List V} {ds : List PyData} (hl : H l = some (.lst vs)) (hs : DIs H vs ds) : LstR H (.v (.ref l)) ds := fun H0 H' v s0 s1 p => by
  have p : v = .ref l := p
  have k := s0.trans s1
  exact ⟨l, vs, p, k _ _ hl, hs.same k⟩
section
variable {X : Cx} {e a b : Expr} {σ : St} {H : Hp} {pos : Pos} {ds ds1 ds2 : List PyData} {r ra rb : Rs} {D : Ends}
theorem pv_listL {p : Pos} (hm : X.mg "list" = none) (ha : PV X e σ H r) (hr : LstR H r ds) (hg : Gl X "list" := by rfl) (ns : NS X e := by rfl) : PV X (.Call (.Name "list" p) [e] [] pos) σ H (.l ds) :=
  pv_callTy call_list_of hm (by decide +kernel) (pas_cons ha pas_nil ns) (fun H0 H' vs s0 s1 pr Q q => by
    obtain ⟨v, rfl, pv⟩ := rsl1 pr
    obtain ⟨p, ws, rfl, hp, hd⟩ := hr H0 H' v s0 s1 pv
    exact ⟨_, _, rfl, .inl (SqL.of hp), fun l nl => q _ _ (same_new nl) ⟨l, _, rfl, nl, upd_same, hd.same (same_new nl)⟩⟩) hg (he := ns)
theorem pv_slL {lo hi : Option Expr} {l u : Option Int} {tl th : TO} {p2 : Pos} (ha : PV X e σ H r) (hr : LstR H r ds) (hl : PO X lo tl) (hh : PO X hi th) (ql : ∀ H1, Same H H1 → ∀ Q : Option Int → Hp → Prop, (∀ H2, Same H1 H2 → Q l H2) → tl σ H1 Q) (qh : ∀ H1, Same H H1 → ∀ Q : Option Int → Hp → Prop, (∀ H2, Same H1 H2 → Q u H2) → th σ H1 Q) :
    PV X (.Subscript e (.Slice lo hi none p2) pos) σ H (.l ((ds.drop (HT.sIx ds.length 0 l)).take (HT.sIx ds.length ds.length u - HT.sIx ds.length 0 l))) := by
  refine .of (pe_slice sl_list pe_s hl hh) fun H1 h1 => ha.t h1 fun v H2 s2 pv => ql H2 (h1.trans s2) _ fun H3 s3 => qh H3 ((h1.trans s2).trans s3) _ fun H4 s4 => ?_
  obtain ⟨p, vs, rfl, hp, hd⟩ := hr H1 H2 v h1 s2 pv
  have s := s3.trans s4
  exact ⟨p, vs, rfl, SqL.of (s _ _ hp), fun q nq => ⟨(s2.trans s).trans (same_new nq), q, _, rfl, (s2.trans s).free nq, upd_same, (di_cut hd l u).same (s.trans (same_new nq))⟩⟩
/-- l[k:] -/
theorem pv_slLFrom {k : Nat} {lo : Expr} {p2 : Pos} (ha : PV X e σ H r) (hr : LstR H r ds) (hl : PV X lo σ H (.i (k : Nat))) : PV X (.Subscript e (.Slice (some lo) none none p2) pos) σ H (.l (ds.drop k)) :=
  (pv_slL ha hr (po_some pe_s) po_none (po_pv hl) po_non).is (by rw [cutFrom])
/-- l[:k] -/
theorem pv_slLTo {k : Nat} {hi : Expr} {p2 : Pos} (ha : PV X e σ H r) (hr : LstR H r ds) (hh : PV X hi σ H (.i (k : Nat))) : PV X (.Subscript e (.Slice none (some hi) none p2) pos) σ H (.l (ds.take k)) :=
  (pv_slL ha hr po_none (po_some pe_s) po_non (po_pv hh)).is (by rw [cutTo])
/-- a + b, lists -/
theorem pv_catL (ha : PV X a σ H ra) (hb : PV X b σ H rb) (la : LstR H ra ds1) (lb : LstR H rb ds2) (hz : ds1.length + ds2.length ≤ 2000000) : PV X (.BinOp a .Add b pos) σ H (.l (ds1 ++ ds2)) :=
  .of (pe_op op_cat pe_s pe_s) fun H1 hs => ha.t hs fun v H2 s2 pv => hb.t (hs.trans s2) fun u H3 s3 pu => by
    obtain ⟨p, vs, rfl, hp, hd⟩ := la H1 H2 v hs s2 pv
    obtain ⟨p', ws, rfl, hp', hd'⟩ := lb H2 H3 u (hs.trans s2) s3 pu
    refine ⟨p, p', vs, ws, rfl, rfl, s3 _ _ hp, hp', by rw [hd.length, hd'.length]; exact Nat.le_trans hz (by decide), fun q nq => ?_⟩
    have sn := same_new (o := .lst (vs ++ ws)) nq
    exact ⟨(s2.trans s3).trans sn, q, _, rfl, (s2.trans s3).free nq, upd_same, ((hd.same s3).append hd').same sn⟩
/-- name = e, the heap changed by e -/
theorem ws_ev {i : Nat} {x : Str} {pos' : Pos} (hN : X.N.Nodup) (h : tS X e σ H fun v H1 => D.nx (σ.set i (some v)) H1) (hi : X.N[i]? = some x := by rfl) (hx : Loc X.env.scope x := by first | exact Or.inl rfl | exact Or.inr rfl)
    (hs : swapsWith e (some (.Name x pos')) pos.line X.env = pure false := by rfl) (hf : X.fn x = true ∨ X.env.scope.names.lookup x = some .local := by first | exact .inl rfl | exact .inr rfl | assumption) : WS X (.Assign [.Name x pos'] e pos) D σ H :=
  .of (ps_set hN hi hx pe_s hs hf) h
end
def spMixed : Sp := fun vs H Q _ => ∃ (b l : Addr) (c : Int) (us : List V) (ns : List Str), vs = [.ref b, .ref l] ∧ H l = some (.lst us) ∧ HDs H us ns ∧ ns ≠ [] ∧ ns.length ≤ 100 ∧ c ≤ 900000 ∧ BoxOk H b c ∧
  ∀ (p : Addr) (ws : List V) (ms : List Str) H', Off1 b H H' → H p = none → BoxOk H' b (c + 100) → H' p = some (.lst ws) → HDs H' ws ms → ms.Perm ns → Q (.ref p) H'
structure MxW (b l : Addr) (ns : List Str) (H : Hp) (c : Int) (H2 : Hp) (i : Nat) (σ' : St) (H' : Hp) : Prop where
  ex : ∃ (R F : Addr) (rs fs : List V) (rest found : List Str) (o4 o5 : Option V), σ' = [some (.ref b), some (.ref l), some (.ref R), some (.ref F), o4, o5] ∧ H' R = some (.lst rs) ∧ HDs H' rs rest ∧ H' F = some (.lst fs) ∧ HDs H' fs found ∧ R ≠ F ∧ R ≠ b ∧ F ≠ b ∧ H F = none ∧ (found ++ rest).Perm ns ∧ found.length = i
  tk : TK H2 H'
  off : Off1 b H H'
  box : BoxOk H' b (c + i)
theorem BoxOk.isL {H : Hp} {b : Addr} {c : Int} (h : BoxOk H b c) : IsL H b := by
  obtain ⟨i0, i1, i2, e, _⟩ := h
  exact ⟨_, e⟩
theorem BoxOk.off {F : Addr} {H H' : Hp} {b : Addr} {c : Int} (h : BoxOk H b c) (o : Off1 F H H') (n : b ≠ F) : BoxOk H' b c := by
  obtain ⟨i0, i1, i2, e, r⟩ := h
  exact ⟨i0, i1, i2, o _ _ n e, r⟩
section
variable {P : Program} {w : World} {K : PySem.W.Frag} {mg : Str → Option Value} {base : Heap}
theorem ok_mixed (T : Txt K mg) : Dfn P w K mg base 2 "_law_mixed" ["_law_box_here", "_law_rows_so"] spMixed := by
  refine dfn_of T.h_l_mixed sc_l_mixed (fun vs H Q E h => ?_) (fun f cdv A outer s H vs Q E hr h => ?_)
  · obtain ⟨_, _, _, _, _, rfl, _⟩ := h; rfl
  · obtain ⟨b, l, c, us, ns, rfl, hl, hus, hne, hn, hc, hb, q⟩ := h
    have hu := hr.units
    have hul := hus.length
    refine wb_cons (ws_par 2 3 sc_l_mixed.nd rfl (ra := .ts ns) (rb := .l []) (pv_listL T.b_list (pv_name 1 rfl) (lstr_var hl hus)) (pv_lst pad_nil) fun v w1 H1 s1 p1 p2 => ?_)
    obtain ⟨R, rs, rfl, nR, hR, hrs⟩ := p1
    obtain ⟨F, fs, rfl, nF, hF, hfs⟩ := p2
    have hfs : fs = [] := by cases hfs; rfl
    subst hfs
    have hrl := DIs.length hrs
    rw [List.length_map] at hrl
    have nRF : R ≠ F := fun z => by
      rw [z, hF] at hR
      have : rs = [] := by injection hR with h; injection h with h; exact h.symm
      rw [this] at hrl
      cases ns with
      | nil => exact hne rfl
      | cons _ _ => simp at hrl
    have bl := hb.isL
    have nRb : R ≠ b := fun z => by obtain ⟨k, e⟩ := bl; rw [← z, nR] at e; cases e
    have nFb : F ≠ b := fun z => by obtain ⟨k, e⟩ := bl; rw [← z, nF] at e; cases e
    refine wb_cons (ws_forH (g := gName 4) (ds := (List.range us.length).map fun (k : Nat) => PyData.int (k : Int)) PassesOwn.never rfl (pit_range T.b_range (pv_lenV T.b_len (pv_name 1 rfl) (SqL.of (s1 _ _ hl))) (by omega)) (pg_name (i := 4) sc_l_mixed.nd rfl (Or.inl rfl))
      (MxW b l ns H c) (fun H2 s2 => ⟨⟨R, F, rs, [], ns, [], _, _, rfl, s2 _ _ hR, DIs.same s2 hrs, s2 _ _ hF, .nil, nRF, nRb, nFb, nF, List.Perm.refl _, rfl⟩, .refl _, .of (s1.trans s2), by simpa using hb.same (s1.trans s2)⟩)
      (fun H2 i σ' H' s2 _ p => p.tk) (fun H2 i d x σ' H3 s2 hd p H4 s4 dx => ?_) fun H2 σ' H' s2 p => ?_)
    · obtain ⟨⟨R, F, rs, fs, rest, found, o4, o5, rfl, hR, hrs, hF, hfs, nRF, nRb, nFb, nF0, pm, lf⟩, tk, off, bx⟩ := p
      have hi : i < ns.length := by
        have := (List.getElem?_eq_some_iff.mp hd).1
        rw [List.length_map, List.length_range] at this
        omega
      have hlen := pm.length_eq
      rw [List.length_append] at hlen
      have hrl := hrs.length
      have hfl := hfs.length
      refine gto_name (wb_cons (ws_ev (i := 5) sc_l_mixed.nd (ev_call (ok_take T) hr (pas_cons (pv_name 0 rfl) (pas_cons (pv_lenV T.b_len (pv_name 2 rfl) (SqL.of (s4 _ _ hR))) pas_nil)) fun vs H5 s5 pr => ?_)))
      obtain ⟨z1, z2, rfl, a1, a2⟩ := rsl2 pr
      have a1 : z1 = .ref b := a1
      have s45 := s4.trans s5
      refine ⟨b, rs.length, c + i, by rw [a1, Rs.pI a2], by omega, by omega, by omega, bx.same s45, fun d H6 h0 h1 off6 b6 => ?_⟩
      obtain ⟨k, rfl⟩ : ∃ k : Nat, d = k := ⟨d.toNat, by omega⟩
      have hk : k < rest.length := by omega
      have t6 : TK H3 H6 := (TK.same s45).trans (off6.tk (bx.same s45).isL)
      have hR6 := off6 _ _ nRb (s45 _ _ hR)
      have hF6 := off6 _ _ nFb (s45 _ _ hF)
      have hrs6 := hrs.ts t6
      have hfs6 := hfs.ts t6
      have hg : rest[k]? = some rest[k] := List.getElem?_eq_getElem hk
      refine wb_cons (ws_append (l := F) (xs := fs) (r := .s rest[k]) (pv_name 3 rfl) hF6 (by omega) (pv_ixL (pv_name 2 rfl) hR6 hrs6 (pv_dat 5 rfl (DI.int (k : Int))) (atI_nat (by rw [List.getElem?_map, hg]; rfl))) fun v7 H7 s7 p7 => ?_)
      have p7 : HD H7 v7 rest[k] := p7
      have hF7 := s7 _ _ hF6
      have t8 := TK.updL (o := .lst (fs ++ [v7])) hF7
      have hR8 : (L2.upd H7 F (.lst (fs ++ [v7]))) R = some (.lst rs) := by rw [upd_ne nRF]; exact s7 _ _ hR6
      have hF8 : (L2.upd H7 F (.lst (fs ++ [v7]))) F = some (.lst (fs ++ [v7])) := upd_same
      have hrs8 := (hrs6.same s7).ts t8
      have hfs8 := ((hfs6.same s7).ts t8).append (.one (p7.ts t8))
      have b8 := (b6.same s7).off (Off1.up H7 (.lst (fs ++ [v7]))) (Ne.symm nFb)
      have tk8 : TK H2 (L2.upd H7 F (.lst (fs ++ [v7]))) := (tk.trans t6).trans ((TK.same s7).trans t8)
      have off8 : Off1 b H (L2.upd H7 F (.lst (fs ++ [v7]))) := fun x u nx ex => by
        have nxF : x ≠ F := fun z => by rw [z, nF0] at ex; cases ex
        rw [upd_ne nxF]
        exact s7 _ _ (off6 _ _ nx (s45 _ _ (off _ _ nx ex)))
      generalize L2.upd H7 F (.lst (fs ++ [v7])) = H8 at hR8 hF8 hrs8 hfs8 b8 tk8 off8
      refine wb_one (ws_set (i := 2) (r := .ts (rest.take k ++ rest.drop (k + 1))) sc_l_mixed.nd (PV.is (pv_catL (pv_slLTo (k := k) (pv_name 2 rfl) (lstr_var hR8 hrs8) (pv_dat 5 rfl (DI.int (k : Int)))) (pv_slLFrom (k := k + 1) (pv_name 2 rfl) (lstr_var hR8 hrs8) (pv_add (pv_dat 5 rfl (DI.int (k : Int))) pv_int)) lstr_new lstr_new (by
        rw [List.length_take, List.length_drop, List.length_map]; omega)) (by show Rs.l _ = Rs.l ((rest.take k ++ rest.drop (k + 1)).map Datum.toD); rw [List.map_append, List.map_take, List.map_drop])) fun v9 H9 s9 p9 => ?_)
      obtain ⟨R', rs', rfl, nR', hR', hrs'⟩ := p9
      have b9 := b8.same s9
      have nR'b : R' ≠ b := fun z => by obtain ⟨k, e⟩ := b8.isL; rw [← z, nR'] at e; cases e
      have nR'F : R' ≠ F := fun z => by rw [z, hF8] at nR'; cases nR'
      refine ⟨⟨R', F, rs', fs ++ [v7], _, found ++ [rest[k]], _, _, rfl, hR', hrs', s9 _ _ hF8, hfs8.same s9, nR'F, nR'b, nFb, nF0, ?_, by rw [List.length_append, lf]; rfl⟩, tk8.trans (.same s9), off8.trans (.of s9), by have := b9.le (c' := c + (i + 1 : Nat)) (by omega); exact this⟩
      refine List.Perm.trans ?_ pm
      rw [List.append_assoc]
      refine List.Perm.append_left _ ?_
      have e1 : rest = rest.take k ++ rest[k] :: rest.drop (k + 1) := by rw [List.getElem_cons_drop, List.take_append_drop]
      conv => rhs; rw [e1]
      exact (List.perm_middle (a := rest[k]) (l₁ := rest.take k) (l₂ := rest.drop (k + 1))).symm
    · obtain ⟨⟨R, F, rs, fs, rest, found, o4, o5, rfl, hR, hrs, hF, hfs, nRF, nRb, nFb, nF0, pm, lf⟩, tk, off, bx⟩ := p
      rw [List.length_map, List.length_range] at lf bx
      have hlen := pm.length_eq
      rw [List.length_append] at hlen
      have : rest = [] := List.eq_nil_of_length_eq_zero (by omega)
      subst this
      rw [List.append_nil] at pm
      refine wb_one (ws_ret (r := .v (.ref F)) (pv_name 3 rfl) fun v9 H9 s9 p9 => ?_)
      have p9 : v9 = .ref F := p9
      rw [p9]
      exact q F fs found H9 (off.trans (.of s9)) nF0 ((bx.same s9).le (by omega)) (s9 _ _ hF) (hfs.same s9) pm
end
end Bx
set_option Elab.async false
set_option linter.all false
set_option maxRecDepth 100000
set_option maxHeartbeats 4000000
/-! F5: _law_bond. -/
namespace Bx
open PySem PySem.Spec PyProof.Rows L2
open PySem.W (Datum DatumOrd Holds HoldAll T3 T4 Tup EachIs minOf)
def spLBond : Sp := fun vs H Q _ => ∃ (b l : Addr) (c : Int) (us : List V) (ns : List Str), vs = [.ref b, .ref l] ∧ H l = some (.lst us) ∧ HDs H us ns ∧ ns.Nodup ∧ (∀ x ∈ ns, x ∈ letters) ∧ 2 ≤ ns.length ∧ ns.length ≤ 100 ∧ c ≤ 800000 ∧ BoxOk H b c ∧
  ∀ (v : V) (bd : Bond) H', Off1 b H H' → BoxOk H' b (c + 102) → HD H' v bd → WfB bd → bd.a ∈ ns → bd.c ∈ ns → Q v H'
section
variable {P : Program} {w : World} {K : PySem.W.Frag} {mg : Str → Option Value} {base : Heap}
theorem ok_lbond (T : Txt K mg) : Dfn P w K mg base 3 "_law_bond" ["_law_box_here", "_law_names_so"] spLBond := by
  refine dfn_of T.h_l_bond sc_l_bond (fun vs H Q E h => ?_) (fun f cdv A outer s H vs Q E hr h => ?_)
  · obtain ⟨_, _, _, _, _, rfl, _⟩ := h; rfl
  · obtain ⟨b, l, c, us, ns, rfl, hl, hus, hnd, hlt, hn2, hn, hc, hb, q⟩ := h
    have hu := hr.units
    refine wb_cons (ws_ev (i := 2) sc_l_bond.nd (ev_of (pe_slice sl_list pe_s po_none (po_some pe_s)) ?_))
    refine ev_call (ok_mixed T) hr (pas_cons (pv_name 0 rfl) (pas_cons (pv_listL T.b_list (pv_name 1 rfl) (lstr_var hl hus)) pas_nil)) fun vs H1 s1 pr => ?_
    obtain ⟨z1, z2, rfl, a1, a2⟩ := rsl2 pr
    have a1 : z1 = .ref b := a1
    obtain ⟨m, us1, rfl, nm, hm, hus1⟩ := a2
    refine ⟨b, m, c, us1, ns, by rw [a1], hm, hus1, (fun e => by rw [e] at hn2; simp at hn2), hn, by omega, hb.same s1, fun p ws ms H2 off2 np b2 hp hws pm => ?_⟩
    refine po_non H2 (Same.refl _) _ fun H3 s3 => ?_
    refine po_pv (i := 2) pv_int H3 (Same.refl _) _ fun H4 s4 => ?_
    have s24 := s3.trans s4
    refine ⟨p, ws, rfl, SqL.of (s24 _ _ hp), fun t nt => ?_⟩
    obtain ⟨x, y, zs, rfl⟩ : ∃ x y zs, ms = x :: y :: zs := by
      have := pm.length_eq
      match ms, this with
      | [], e => simp at e; omega
      | [_], e => simp at e; omega
      | x :: y :: zs, _ => exact ⟨x, y, zs, rfl⟩
    have hx : x ∈ ns := pm.mem_iff.mp List.mem_cons_self
    have hy : y ∈ ns := pm.mem_iff.mp (List.mem_cons_of_mem _ List.mem_cons_self)
    have hxy : x ≠ y := by
      have := pm.nodup_iff.mpr hnd
      rw [List.nodup_cons] at this
      exact fun e => this.1 (e ▸ List.mem_cons_self)
    have sn := same_new (o := .lst (cutV ws none (some 2))) nt
    have hcut := (di_cut hws none (some 2)).same (s24.trans sn)
    rw [show (2 : Int) = ((2 : Nat) : Int) from rfl, cutTo] at hcut
    have hcut : DIs (L2.upd H4 t (.lst (cutV ws none (some 2)))) (cutV ws none (some 2)) [.str x, .str y] := hcut
    have htt : (L2.upd H4 t (.lst (cutV ws none (some 2)))) t = some (.lst (cutV ws none (some 2))) := upd_same
    have b5 := b2.same (s24.trans sn)
    have off5 : Off1 b H (L2.upd H4 t (.lst (cutV ws none (some 2)))) := ((Off1.of s1).trans off2).trans (.of (s24.trans sn))
    have ntb : t ≠ b := fun z => by obtain ⟨k, e⟩ := (b2.same s24).isL; rw [← z, nt] at e; cases e
    generalize L2.upd H4 t (.lst (cutV ws none (some 2))) = H5 at hcut htt b5 off5
    generalize cutV ws none (some 2) = cs at hcut htt
    clear hus1 hm hws hp nt sn
    refine wb_one (.of (ps_ret (pe_tup (pa_cons pe_s (pa_cons pe_s (pa_cons pe_s (pa_cons pe_s pa_nil)))))) ?_)
    refine (pv_ixL (ds := [.str x, .str y]) (pv_name 2 rfl) htt hcut pv_int (atI_nat (k := 0) rfl)).t (Same.refl _) fun v6 H6 s6 p6 => ?_
    have p6 := Rs.pS p6
    refine ev_call (ok_of T) hr (pas_cons (pv_name 0 rfl) (pas_cons pv_str pas_nil)) fun vs H7 s7 pr => ?_
    obtain ⟨z1, z2, rfl, c1, c2⟩ := rsl2 pr
    have c1 : z1 = .ref b := c1
    refine ⟨b, c + 100, by rw [c1, Rs.pS c2], by omega, b5.same (s6.trans s7), fun e1 H8 he1 off8 b8 => ?_⟩
    have t8 : TK H5 H8 := (TK.same (s6.trans s7)).trans (off8.tk (b5.same (s6.trans s7)).isL)
    have ht8 := off8 _ _ ntb ((s6.trans s7) _ _ htt)
    refine (pv_ixL (ds := [.str x, .str y]) (pv_name 2 rfl) ht8 (hcut.ts t8) pv_int (atI_nat (k := 1) rfl)).t (Same.refl _) fun v9 H9 s9 p9 => ?_
    have p9 := Rs.pS p9
    refine ev_call (ok_of T) hr (pas_cons (pv_name 0 rfl) (pas_cons pv_str pas_nil)) fun vs H10 s10 pr => ?_
    obtain ⟨z1, z2, rfl, d1, d2⟩ := rsl2 pr
    have d1 : z1 = .ref b := d1
    refine ⟨b, c + 101, by rw [d1, Rs.pS d2], by omega, (b8.same (s9.trans s10)).le (by omega), fun e2 H11 he2 off11 b11 => ?_⟩
    refine ⟨by show 4 ≤ sizeLine; decide, fun r nr => ?_⟩
    rw [p6, p9]
    refine q (.ref r) ⟨x, e1, y, e2⟩ _ ?_ ?_ (.bond upd_same) ⟨hlt x hx, hlt y hy, he1, he2, hxy⟩ hx hy
    · exact (off5.trans (((Off1.of (s6.trans s7)).trans off8).trans ((Off1.of (s9.trans s10)).trans off11))).trans (.of (same_new nr))
    · exact (b11.same (same_new nr)).le (by omega)
end
end Bx
set_option Elab.async false
set_option linter.all false
set_option maxRecDepth 100000
set_option maxHeartbeats 4000000
/-! F6: _law_pattern. -/
namespace Bx
open PySem PySem.Spec PyProof.Rows L2
open PySem.W (Datum DatumOrd Holds HoldAll T3 T4 Tup EachIs minOf)
section
variable {X : Cx} {e : Expr} {σ : St} {H : Hp} {pos : Pos}
variable {α : Type} [DecidableEq α] [DatumOrd α] [SetRd α] [LO α]
def tSortSet (α : Type) [DecidableEq α] [DatumOrd α] (t : TE) : TE := fun σ H Q => t σ H fun v H2 => ∃ (l : Addr) (vs : List V) (xs : List α), v = .ref l ∧ H2 l = some (.lst vs) ∧ HDs H2 vs xs ∧ (dd xs).length < 63 ∧ PySem.W.Sortable ((dd xs).map (Datum.toD (α := α))) ∧
  ∀ (p : Addr) (ws : List V), H2 p = none → HDs (L2.upd H2 p (.lst ws)) ws (sortO (dd xs)) → Q (.ref p) (L2.upd H2 p (.lst ws))
theorem pe_sortSet {p p2 q : Pos} {t : TE} (hc : X.calm = true) (hm : X.mg "sorted" = none) (hm2 : X.mg "set" = none) (h : PE X e t) (hu : X.A.units + 64 < cLine := by assumption) (hd : Datum.depth α ≤ 50 := by decide)
    (hg : Gl X "sorted" := by rfl) (hg2 : Gl X "set" := by rfl) (ns : NS X e := by rfl) : PE X (.Call (.Name "sorted" p) [.Call (.Name "set" p2) [e] [] q] [] pos) (tSortSet α t) := ⟨fun pins s σ H Q I k => by
  refine Call_ (ld_blt I hg hm bt_sorted ?_)
  refine PyProof.Rows.callWith_builtin1 (PyProof.Rows.args_cons ?_ rfl) rfl rfl
  refine Call_ (ld_blt I hg2 hm2 bt_set ?_)
  refine PyProof.Rows.callWith_type1 (PyProof.Rows.args_cons (thn (h.run pins s σ H _ I k) fun u s1 ⟨v, H2, I2, rv, pv⟩ => PyProof.Rows.args_nil ?_) ns) ns rfl
  obtain ⟨l, vs, xs, rfl, hl, hs, hfew, hk, cont⟩ := pv
  obtain rfl : u = Value.ref l := rv
  refine set_then I2 hc hu (.inl hl) hs hfew fun S h' tk L es ep t I3 a1 a2 a3 a4 a5 a6 a7 pm hL => PyProof.Rows.args_nil ?_
  have hlen : L.length < 63 := by
    have := pm.length_eq
    rw [List.length_map] at this
    omega
  refine sorted_over (P := fun ys : List α => ys.Perm (dd xs)) I3 hu hd (fun Q' hq => ?_) (fun ys py => ⟨by rw [py.length_eq, sizeLine_eq]; omega, ?_⟩) fun a ws ys s' py I4 n hz => ?_
  · refine collect_set (A := X.A.in1) (I3.ok.hd hc) a1 a2 (by rw [a6]; unfold scanBound; omega) a3 a4 fun s' out k1 _ k2 k3 po => ?_
    obtain ⟨L', pl, e'⟩ := perm_map_inv (po.trans a5)
    subst e'
    exact hq s' _ (L'.map (·.2)) ⟨k1, k2, k3⟩ (each_zip fun y hy => hL y (pl.mem_iff.mp hy)) ((pl.map (·.2)).trans pm)
  · rcases hk with hk | hk
    · exact .inl fun d hd => hk d ((py.map _).mem_iff.mp hd)
    · exact .inr fun d hd => hk d ((py.map _).mem_iff.mp hd)
  · have e : sortO ys = sortO (dd xs) := sortO_of py
    rw [e] at hz
    exact ⟨.ref a, _, I4, rfl, cont a ws n (hz.same (same_new n))⟩⟩
end
theorem pe_lcE {X : Cx} {tg iter elt : Expr} {scope : Scope} {own : List (Str × Nat)} {pos : Pos} {wi : TI} {g : TG} (hc : X.calm = true) (hN : X.N.Nodup) (hi : PI X tg iter wi) (ok : BlkOk X.N X.env.scope scope own)
    (hg : ∀ (s : Shared) (H : Hp) (C : Addr) (cl : List (Str × Addr)) (fp : List Addr), PG (X.blk s H scope (compEnvC scope cl C X.env) fp) tg g) (hs : ∀ x, foldedSetIterable iter X.env x = pure x := by intro _; rfl) :
    PE X (.ListComp elt [⟨tg, iter, [], 0⟩] scope pos) (tLc wi g tYes (tSF X scope elt) (own.map (·.2))) :=
  pe_lc hc hN hi ok hg (fun _ _ _ _ _ => pts_nil) (fun s0 H0 C cl fp => ⟨fun pins s σ H Q I h => h s0 H0 C cl fp pins s I⟩) hs
def spLPat : Sp := fun vs H Q _ => ∃ (b : Addr) (c : Int) (m : Nat), vs = [.ref b, .int (m : Int), .int 8] ∧ 2 ≤ m ∧ m ≤ 5 ∧ c ≤ 700000 ∧ BoxOk H b c ∧
  ∀ (v : V) (P : List Bond) H', Off1 b H H' → BoxOk H' b (c + 1000) → HD H' v (Tup.mk P) → PatOk P → Q v H'
theorem pat_of {bs : List Bond} {ns : List Str} (ne : bs ≠ []) (h8 : bs.length ≤ 8) (h5 : ns.length ≤ 5) (h : ∀ b ∈ bs, WfB b ∧ b.a ∈ ns ∧ b.c ∈ ns) : PatOk (sortO (dd bs)) where
  ne := fun e => by
    cases bs with
    | nil => exact ne rfl
    | cons x r =>
      have : x ∈ sortO (dd (x :: r)) := mem_sortO.mpr (mem_dd.mpr List.mem_cons_self)
      rw [e] at this
      cases this
  asc := asc_sort (nodup_dd _)
  wf := fun b hb => (h b (mem_dd.mp (mem_sortO.mp hb))).1
  few := by rw [length_sortO]; exact Nat.le_trans (dd_len _) h8
  names := Nat.le_trans (nodup_len (nodup_dd _) (m := ns) fun x hx => by
    obtain ⟨b, hb, hx⟩ := List.mem_flatMap.mp (mem_dd.mp hx)
    obtain ⟨_, h1, h2⟩ := h b (mem_dd.mp (mem_sortO.mp hb))
    simp only [List.mem_cons, List.not_mem_nil, or_false] at hx
    rcases hx with rfl | rfl
    · exact h1
    · exact h2) h5
theorem sl_letters : ("abcdefgh" : Str).cps.toList.map (fun c => (⟨#[c]⟩ : Str)) = letters := by decide
structure PtW (b t : Addr) (cs : List V) (ns : List Str) (B : Hp) (D : Addr) (c : Int) (i : Nat) (H' : Hp) : Prop where
  ex : ∃ (acc : List V) (bs : List Bond), H' D = some (.lst acc) ∧ HDs H' acc bs ∧ bs.length = i ∧ ∀ x ∈ bs, WfB x ∧ x.a ∈ ns ∧ x.c ∈ ns
  off : Off1 b B H'
  ns : H' t = some (.lst cs) ∧ HDs H' cs ns
  box : BoxOk H' b (c + 102 * i)
section
variable {P : Program} {w : World} {K : PySem.W.Frag} {mg : Str → Option Value} {base : Heap}
theorem ok_lpat (T : Txt K mg) : Dfn P w K mg base 4 "_law_pattern" ["_law_box_here", "_law_many_so", "_law_bonds_so"] spLPat := by
  refine dfn_of T.h_l_pattern sc_l_pattern (fun vs H Q E h => ?_) (fun f cdv A outer s H vs Q E hr h => ?_)
  · obtain ⟨_, _, _, rfl, _⟩ := h; rfl
  · obtain ⟨b, c, m, rfl, hm2, hm5, hc, hb, q⟩ := h
    have hu := hr.units
    refine wb_cons (ws_ev (i := 3) sc_l_pattern.nd (ev_of (pe_slice sl_list pe_s po_none (po_some pe_s)) ?_))
    refine ev_call (ok_mixed T) hr (pas_cons (pv_name 0 rfl) (pas_cons (pv_listTxt rfl T.b_list pv_str) pas_nil)) fun vs H1 s1 pr => ?_
    obtain ⟨z1, z2, rfl, a1, a2⟩ := rsl2 pr
    have a1 : z1 = .ref b := a1
    obtain ⟨l, us1, rfl, nl, hl, hus1⟩ := a2
    rw [sl_letters] at hus1
    refine ⟨b, l, c, us1, letters, by rw [a1], hl, hus1, (by decide), (by decide), by omega, hb.same s1, fun p ws ms H2 off2 np b2 hp hws pm => ?_⟩
    refine po_non H2 (Same.refl _) _ fun H3 s3 => ?_
    refine po_pv (i := (m : Int)) (pv_dat 1 rfl (DI.int _)) H3 (Same.refl _) _ fun H4 s4 => ?_
    have s24 := s3.trans s4
    refine ⟨p, ws, rfl, SqL.of (s24 _ _ hp), fun t nt => ?_⟩
    have sn := same_new (o := .lst (cutV ws none (some (m : Int)))) nt
    have hcut := (di_cut hws none (some (m : Int))).same (s24.trans sn)
    rw [cutTo, ← List.map_take] at hcut
    have hcut : HDs (L2.upd H4 t (.lst (cutV ws none (some (m : Int))))) (cutV ws none (some (m : Int))) (ms.take m) := hcut
    have htt : (L2.upd H4 t (.lst (cutV ws none (some (m : Int))))) t = some (.lst (cutV ws none (some (m : Int)))) := upd_same
    have b5 := b2.same (s24.trans sn)
    have off5 : Off1 b H (L2.upd H4 t (.lst (cutV ws none (some (m : Int))))) := ((Off1.of s1).trans off2).trans (.of (s24.trans sn))
    have ntb : t ≠ b := fun z => by obtain ⟨k, e⟩ := (b2.same s24).isL; rw [← z, nt] at e; cases e
    have ml : ms.length = 8 := pm.length_eq
    have n2 : (ms.take m).length = m := by rw [List.length_take]; omega
    have nnd : (ms.take m).Nodup := (pm.nodup_iff.mpr (by decide : letters.Nodup)).sublist (List.take_sublist _ _)
    have nlt : ∀ x ∈ ms.take m, x ∈ letters := fun x hx => pm.mem_iff.mp (List.mem_of_mem_take hx)
    generalize L2.upd H4 t (.lst (cutV ws none (some (m : Int)))) = H5 at hcut htt b5 off5
    generalize cutV ws none (some (m : Int)) = cs at hcut htt
    generalize ms.take m = ns at hcut n2 nnd nlt
    clear hus1 hl hws hp nt sn
    refine wb_one (.of (ps_ret (pe_callTy call_tuple_of rfl T.b_tuple bt_tuple (pa_cons (pe_sortSet (α := Bond) rfl T.b_sorted T.b_set (pe_lcE (own := [("_law_turn", 4)]) (g := gName 4) rfl sc_l_pattern.nd (pi_range1 rfl T.b_range (pa_cons pe_s pa_nil)) (blkOk_by rfl) (fun _ _ _ _ _ => pg_name (i := 4) sc_l_pattern.nd rfl (Or.inl rfl)))) pa_nil))) ?_)
    refine ev_of (pe_op op_add pe_s pe_s) (pv_int.t (Same.refl _) fun v6 H6 s6 p6 => ?_)
    refine ev_call (ok_take T) hr (pas_cons (pv_name 0 rfl) (pas_cons (pv_dat 2 rfl (DI.int 8)) pas_nil)) fun vs H7 s7 pr => ?_
    obtain ⟨z1, z2, rfl, c1, c2⟩ := rsl2 pr
    have c1 : z1 = .ref b := c1
    refine ⟨b, 8, c + 100, by rw [c1, Rs.pI c2], by decide, by decide, by omega, b5.same (s6.trans s7), fun d H8 h0 h1 off8 b8 => ?_⟩
    have t8 : TK H5 H8 := (TK.same (s6.trans s7)).trans (off8.tk (b5.same (s6.trans s7)).isL)
    have ht8 := off8 _ _ ntb ((s6.trans s7) _ _ htt)
    have hn8 := hcut.ts t8
    have off58 := off5.trans ((Off1.of (s6.trans s7)).trans off8)
    refine ⟨1, d, Rs.pI p6, rfl, ⟨1 + d, rfl, by omega, by omega, fun D nD => ?_⟩⟩
    have nDb : D ≠ b := fun z => by obtain ⟨k, e⟩ := b8.isL; rw [← z, nD] at e; cases e
    have nDt : D ≠ t := fun z => by rw [z, ht8] at nD; cases nD
    have sn := same_new (o := .lst []) nD
    refine lc_it walk_range (PtW b t cs ns H8 D (c + 101)) ⟨⟨[], [], upd_same, .nil, rfl, fun x hx => nomatch hx⟩, .of sn, ⟨sn _ _ ht8, hn8.same sn⟩, by have := b8.same sn; simpa [Int.add_assoc] using this⟩ (fun _ _ _ _ => trivial) (fun i x Hc Hc' hi p y => ?_) fun Hc p => ?_
    · obtain ⟨⟨acc, bs, hD, hacc, lb, hbs⟩, off, ⟨ht, hns⟩, bx⟩ := p
      obtain ⟨rfl, rfl⟩ := y
      have hi : i < 8 := by omega
      refine ⟨rfl, iteT (B := PtW b t cs ns H8 D (c + 101) (i + 1) Hc') fun s0 H0 C cl fp => ?_⟩
      refine ev_call (ok_lbond T) hr (pas_cons (pv_name 0 rfl) (pas_cons (pv_name 3 rfl) pas_nil)) fun vs H9 s9 pr => ?_
      obtain ⟨z1, z2, rfl, c1, c2⟩ := rsl2 pr
      have c1 : z1 = .ref b := c1
      have c2 : z2 = .ref t := c2
      refine ⟨b, t, c + 101 + 102 * i, cs, ns, by rw [c1, c2], s9 _ _ ht, hns.same s9, nnd, nlt, by omega, by omega, by omega, bx.same s9, fun v bd H10 off10 b10 hbd wf ha hc => ?_⟩
      have t10 : TK Hc' H10 := (TK.same s9).trans (off10.tk (bx.same s9).isL)
      have hD10 := off10 _ _ nDb (s9 _ _ hD)
      have tu := TK.updL (o := .lst (acc ++ [v])) hD10
      have ul := Off1.up H10 (.lst (acc ++ [v])) (F := D)
      refine ⟨acc, hD10, by rw [hacc.length]; exact Nat.lt_of_le_of_lt (show bs.length ≤ 8 by omega) (by decide), ⟨acc ++ [v], bs ++ [bd], upd_same, ((hacc.ts t10).ts tu).append (.one (hbd.ts tu)), by rw [List.length_append, lb]; rfl, fun x hx => ?_⟩, fun x u nx ex => ?_, ⟨ul _ _ (Ne.symm nDt) (off10 _ _ ntb (s9 _ _ ht)), (hns.ts t10).ts tu⟩, ?_⟩
      · rcases List.mem_append.mp hx with h | h
        · exact hbs x h
        · rw [List.mem_singleton.mp h]; exact ⟨wf, ha, hc⟩
      · have nxD : x ≠ D := fun z => by rw [z, nD] at ex; cases ex
        exact ul _ _ nxD (off10 _ _ nx (s9 _ _ (off _ _ nx ex)))
      · exact (b10.off ul (Ne.symm nDb)).le (by omega)
    · obtain ⟨⟨acc, bs, hD, hacc, lb, hbs⟩, off, ⟨ht, hns⟩, bx⟩ := p
      have hbl : 1 ≤ bs.length ∧ bs.length ≤ 8 := by omega
      have hdl := dd_len bs
      refine ⟨D, acc, bs, rfl, hD, hacc, by omega, sortable_bond _, fun p ws np hws => ⟨_, _, rfl, .inl ⟨SqL.of upd_same, fun r nr => ?_⟩⟩⟩
      have s2 := (same_new (o := .lst ws) np).trans (same_new (o := .tup ws) nr)
      exact q (.ref r) (sortO (dd bs)) _ ((off58.trans off).trans (.of s2)) ((bx.same s2).le (by omega)) (.tup upd_same (hws.same (same_new nr))) (pat_of (fun e => by rw [e] at hbl; simp at hbl) hbl.2 (by omega) hbs)
end
end Bx
set_option Elab.async false
set_option linter.all false
set_option maxRecDepth 100000
set_option maxHeartbeats 4000000
/-! F7: _law_same. -/
namespace Bx
open PySem PySem.Spec PyProof.Rows L2
open PySem.W (Datum DatumOrd Holds HoldAll T3 T4 Tup EachIs minOf)
/-- a list or a tuple at p -/
def Sq (H : Hp) (k : Bool) (p : Addr) (xs : List V) : Prop := (k = true ∧ H p = some (.lst xs)) ∨ (k = false ∧ Rd H p (.tup xs))
theorem Sq.same {H H' : Hp} {k : Bool} {p : Addr} {xs : List V} (h : Sq H k p xs) (s : Same H H') : Sq H' k p xs := by
  rcases h with ⟨e, h⟩ | ⟨e, h | ⟨o, h⟩⟩
  · exact .inl ⟨e, s _ _ h⟩
  · exact .inr ⟨e, .inl (s _ _ h)⟩
  · exact .inr ⟨e, .inr ⟨o, s _ _ h⟩⟩
theorem Sq.two {K : PySem.W.Frag} {H : Hp} {k : Bool} {p q : Addr} {xs ys : List V} (h : Sq H k p xs) (g : Sq H k q ys) : (SqL K H p xs ∧ SqL K H q ys) ∨ (SqT K H p xs ∧ SqT K H q ys) := by
  rcases h with ⟨e, h⟩ | ⟨e, h⟩ <;> rcases g with ⟨e', g⟩ | ⟨e', g⟩
  · exact .inl ⟨SqL.of h, SqL.of g⟩
  · rw [e] at e'; cases e'
  · rw [e] at e'; cases e'
  · exact .inr ⟨.inl h, .inl g⟩
theorem Sq.one {K : PySem.W.Frag} {H : Hp} {k : Bool} {p : Addr} {xs : List V} (h : Sq H k p xs) : SqL K H p xs ∨ SqT K H p xs := by
  rcases h with ⟨e, h⟩ | ⟨e, h⟩
  · exact .inl (SqL.of h)
  · exact .inr (.inl h)
def kN (k : Bool) : String := if k = true then "list" else "tuple"
theorem tyr_sq {K : PySem.W.Frag} {H : Hp} {k : Bool} {p : Addr} {xs : List V} (h : Sq H k p xs) : TyR K (.v (.ref p)) (kN k) H := fun H0 H' v s0 s1 e => by
  have e : v = .ref p := e
  subst e
  rcases h.same (s0.trans s1) with ⟨rfl, h2⟩ | ⟨rfl, h2 | ⟨o, h2⟩⟩
  · exact .base (.lst h2)
  · exact .base (.tup h2)
  · exact .fTuple h2
theorem kN_list (k : Bool) : kitB (kN k) "list" = some k := by cases k <;> decide +kernel
theorem kN_tuple (k : Bool) : kitB (kN k) "tuple" = some (!k) := by cases k <;> decide +kernel
section
variable {X : Cx} {e a b elt : Expr} {σ : St} {H : Hp} {pos pos2 : Pos} {ds ds1 ds2 : List PyData} {scope : Scope} {own : List (Str × Nat)}
theorem pv_lenQ {p : Pos} {l : Addr} {ws : List V} (hm : X.mg "len" = none) (ha : PV X e σ H (.v (.ref l))) {k : Bool} (hl : Sq H k l ws) (hg : Gl X "len" := by rfl) (ns : NS X e := by rfl) : PV X (.Call (.Name "len" p) [e] [] pos) σ H (.i ws.length) :=
  pv_callB call_len_seq hm PySem.boot_len (pas_cons ha pas_nil ns) (fun H0 H' vs s0 s1 pr Q q => by
    obtain ⟨v, rfl, pv⟩ := rsl1 pr
    have pv : v = .ref l := pv
    exact ⟨_, _, by rw [pv], (hl.same (s0.trans s1)).one, q _ H' (Same.refl _) (DI.int _)⟩) hg (he := ns)
theorem bools_dis {H : Hp} : ∀ ns : List Bool, DIs H (ns.map V.bl) (ns.map .bool)
  | [] => .nil
  | n :: ns => .cons (.bl n) (bools_dis ns)
theorem walk_zipT {K : PySem.W.Frag} {p q : Addr} {xs ys : List V} (hl : xs.length = ys.length) : Walk (RZ.ItzT K p q) xs.length (fun H => SqT K H p xs ∧ SqT K H q ys) (YPair (fun i => xs[i]?) (fun i => ys[i]?)) :=
  ⟨fun i H hi h => ⟨xs, ys, xs[i], ys[i]'(by omega), h.1, h.2, by simp [hi], by simp [hl ▸ hi]⟩, fun H h => ⟨xs, ys, h.1, h.2, .inl (Nat.le_refl _)⟩, fun i H x H' hi h y => by
    obtain ⟨T, x, z, e, n, e2, h4, h5⟩ := y
    exact ⟨T, x, z, e, n, e2, h4 xs h.1, h5 ys h.2⟩⟩
/-- [f(x, y) for x, y in zip(a, b)], all true -/
theorem pv_lcZ {x1 x2 : Str} {p p1 p2 pt : Pos} {kk : Nat} {i j : Nat} {xs ys : List V} {l1 l2 : Addr} {k : Bool} (hc : X.calm = true) (hN : X.N.Nodup) (hm : X.mg "zip" = none) (h1 : PV X a σ H (.v (.ref l1))) (h2 : PV X b σ H (.v (.ref l2)))
    (q1 : Sq H k l1 xs) (q2 : Sq H k l2 ys) (hl : xs.length = ys.length) (hz : xs.length ≤ 2000000) (ok : BlkOk X.N X.env.scope scope own)
    (hg : ∀ (s : Shared) (H : Hp) (C : Addr) (cl : List (Str × Addr)) (fp : List Addr), PG (X.blk s H scope (compEnvC scope cl C X.env) fp) (.Tuple [.Name x1 p1, .Name x2 p2] kk pt) (g12 X.K i j))
    (turn : ∀ (m : Nat) (x y : V) (H1 : Hp), xs[m]? = some x → ys[m]? = some y → Same H H1 → wipe (((wipe σ (own.map (·.2))).set i (some x)).set j (some y)) (own.map (·.2)) = wipe σ (own.map (·.2)) ∧
      ∀ (s0 : Shared) (H0 : Hp) (C : Addr) (cl : List (Str × Addr)) (fp : List Addr), PV (X.blk s0 H0 scope (compEnvC scope cl C X.env) fp) elt (((wipe σ (own.map (·.2))).set i (some x)).set j (some y)) H1 (.b true))
    (hg1 : Gl X "zip" := by rfl) (hs : starEach [a, b] X.env = (false, eval a X.env) :: starEach [b] X.env := by rfl) (hpl : (backTo pos2 (starEach [b] X.env)).any (·.1) = false := by rfl) (hs2 : starEach [b] X.env = (false, eval b X.env) :: starEach [] X.env := by rfl)
    (hf : ∀ x, foldedSetIterable (.Call (.Name "zip" p) [a, b] [] pos2) X.env x = pure x := by intro _; rfl) :
    PV X (.ListComp elt [⟨.Tuple [.Name x1 p1, .Name x2 p2] kk pt, .Call (.Name "zip" p) [a, b] [] pos2, [], 0⟩] scope pos) σ H (.l ((List.replicate xs.length true).map .bool)) := by
  refine .of (pe_lc (te := tSF X scope elt) (tt := tYes) hc hN (RZ.pi_zipA hg1 hm pa_s hs hpl) ok hg (fun _ _ _ _ _ => pts_nil) (fun s0 H0 C cl fp => ⟨fun pins s σ H Q I h => h s0 H0 C cl fp pins s I⟩) hf) fun H1 hs1 => (pas_cons h1 (pas_cons h2 pas_nil hs2) hs).t hs1 fun vs H2 s2 pr => ?_
  obtain ⟨v, w, rfl, pv, pw⟩ := rsl2 pr
  have pv : v = .ref l1 := pv
  have pw : w = .ref l2 := pw
  subst pv pw
  have s12 := hs1.trans s2
  have main : ∀ (J : It) (G : Hp → Prop), (∀ H', Same H2 H' → G H') → Walk J xs.length G (YPair (fun i => xs[i]?) (fun i => ys[i]?)) → ∀ D, H2 D = none → ∃ W : Nat → Nat → Hp → Prop, (∃ m, W 0 m (L2.upd H2 D (.lst []))) ∧ ∀ i' m H, W i' m H →
      (J.stop i' H ∧ (Same H1 H ∧ (Rs.l ((List.replicate xs.length true).map .bool)).P H1 (.ref D) H)) ∨ (J.go i' H ∧ ∃ Nx : Hp → Prop, (∀ H', Nx H' → ∃ m', m' < m ∧ W (i' + 1) m' H') ∧ ∀ x H', J.yld i' H x H' → g12 X.K i j x (wipe σ (own.map (·.2))) H' fun σ2 H2 => wipe σ2 (own.map (·.2)) = wipe σ (own.map (·.2)) ∧ tYes σ2 H2 fun b H3 =>
        if b = true then tSF X scope elt σ2 H3 fun y H4 => ∃ acc, H4 D = some (.lst acc) ∧ acc.length < sizeLine ∧ Nx (L2.upd H4 D (.lst (acc ++ [y]))) else Nx H3) := fun J G hG W D nD => by
    refine lc_it W (fun i' Hc => Same H2 Hc ∧ Hc D = some (.lst ((List.replicate i' true).map V.bl))) ⟨same_new nD, upd_same⟩ (fun i' Hc _ q => hG Hc q.1) (fun i' x Hc Hc' hi q y => ?_) fun Hc q => ?_
    · obtain ⟨sc, hD⟩ := q
      obtain ⟨T', x, y, rfl, nT, rfl, hx, hy⟩ := y
      have sn := same_new (o := .tup [x, y]) nT
      obtain ⟨w2, tn⟩ := turn i' x y _ hx hy ((s12.trans sc).trans sn)
      refine ⟨T', _, rfl, SqT.of upd_same, rfl, x, _, rfl, y, _, rfl, rfl, w2, iteT (B := (fun Hc => Same H2 Hc ∧ Hc D = some (.lst ((List.replicate (i' + 1) true).map V.bl))) (L2.upd Hc T' (.tup [x, y]))) fun s0 H0 C cl fp => (tn s0 H0 C cl fp).t (Same.refl _) fun v H4 s4 pv => ?_⟩
      have hD4 := s4 _ _ (sn _ _ hD)
      have s24 := sc.trans (sn.trans s4)
      refine ⟨_, hD4, by rw [List.length_map, List.length_replicate]; exact Nat.lt_of_lt_of_le (Nat.lt_of_lt_of_le hi hz) (by decide), fun c u ec => ?_, ?_⟩
      · have nc : c ≠ D := ne_of_none ec nD
        rw [upd_ne nc]
        exact s24 _ _ ec
      · rw [upd_same, Rs.pB pv, List.replicate_succ', List.map_append]; rfl
    · obtain ⟨sc, hD⟩ := q
      exact ⟨s2.trans sc, D, _, rfl, s2.free nD, hD, bools_dis _⟩
  have rs : ∀ {H H' : Hp} {p : Addr} {zs : List V}, Same H H' → Rd H p (.tup zs) → Rd H' p (.tup zs) := fun s h => by
    rcases h with h | ⟨o, h⟩
    · exact .inl (s _ _ h)
    · exact .inr ⟨o, s _ _ h⟩
  rcases q1 with ⟨e1, r1⟩ | ⟨e1, r1⟩
  · rcases q2 with ⟨_, r2⟩ | ⟨e2, _⟩
    · exact ⟨l1, l2, xs, ys, rfl, .inl ⟨SqL.of (s12 _ _ r1), SqL.of (s12 _ _ r2), main _ _ (fun H' s => ⟨SqL.of (s _ _ (s12 _ _ r1)), SqL.of (s _ _ (s12 _ _ r2))⟩) (walk_zip (by omega))⟩⟩
    · rw [e1] at e2; cases e2
  · rcases q2 with ⟨e2, _⟩ | ⟨_, r2⟩
    · rw [e1] at e2; cases e2
    · exact ⟨l1, l2, xs, ys, rfl, .inr ⟨.inl (rs s12 r1), .inl (rs s12 r2), main _ _ (fun H' s => ⟨.inl (rs s (rs s12 r1)), .inl (rs s (rs s12 r2))⟩) (walk_zipT hl)⟩⟩
inductive Scal : PyData → Prop
  | non : Scal .none
  | bl (b : Bool) : Scal (.bool b)
  | int (i : Int) : Scal (.int i)
  | str (x : Str) : Scal (.str x)
theorem pv_eqSc {d : PyData} (h : Scal d) (ha : PV X a σ H (.d d)) (hb : PV X b σ H (.d d)) (hm : behindInMarks .Eq b = false := by first | exact nomark _ | rfl) : PV X (.Compare a [.Eq] [b] pos) σ H (.b true) :=
  pv_cmp op_eq ha hb (fun H0 H' u v _ _ px py Q q => by
    have px : DI H' u d := px
    have py : DI H' v d := py
    have e : u = v ∧ scal u v = true := by
      cases h <;> cases px <;> cases py <;> exact ⟨rfl, rfl⟩
    refine ⟨e.2, ?_⟩
    rw [decide_eq_true e.1]
    exact q _ H' (Same.refl _) (DI.bl _)) hm
end
def spSame (R : Hp → V → V → Prop) : Sp := fun vs H Q _ => ∃ v u, vs = [v, u] ∧ R H v u ∧ ∀ H2, Same H H2 → Q (.bl true) H2
def LiftS (R : Hp → V → V → Prop) (H : Hp) (v u : V) : Prop := (∃ d, Scal d ∧ DI H v d ∧ DI H u d) ∨ ∃ (k : Bool) (p q : Addr) (xs ys : List V), v = .ref p ∧ u = .ref q ∧ Sq H k p xs ∧ Sq H k q ys ∧ xs.length = ys.length ∧ xs.length ≤ 2000000 ∧ ∀ (m : Nat) (x y : V) (H1 : Hp), Same H H1 → xs[m]? = some x → ys[m]? = some y → R H1 x y
section
variable {P : Program} {w : World} {K : PySem.W.Frag} {mg : Str → Option Value} {base : Heap}
theorem same_step (T : Txt K mg) {k : Nat} {R : Hp → V → V → Prop} (ih : Dfn P w K mg base k "_law_same" ["_law_got", "_law_due_so"] (spSame R) ∨ ∀ H v u, ¬ R H v u) : Dfn P w K mg base (k + 1) "_law_same" ["_law_got", "_law_due_so"] (spSame (LiftS R)) := by
  refine dfn_of T.h_l_same sc_l_same (fun vs H Q E h => ?_) (fun f cdv A outer s H vs Q E hr h => ?_)
  · obtain ⟨_, _, rfl, _⟩ := h; rfl
  · obtain ⟨v, u, rfl, hR, q⟩ := h
    have hu := hr.units
    have qb : ∀ {H1 : Hp}, Same H H1 → ∀ v2 H2, Same H1 H2 → (Rs.b true).P H1 v2 H2 → Q v2 H2 := fun s1 v2 H2 s2 p2 => by
      rw [Rs.pB p2]
      exact q H2 (s1.trans s2)
    rcases hR with ⟨d, hd, hv, hw⟩ | ⟨kk, p, q', xs, ys, rfl, rfl, q1, q2, hl, hz, hR⟩
    · have i1 : ∀ {b1 b2 : Bool}, kitB (tyN d) "list" = some false → kitB (tyN d) "tuple" = some false → (d = .none → b1 = true) → isNone d = b1 → kitB (tyN d) "bool" = some b2 → (∀ b3, kitB (tyN d) "str" = some b3 → ((b1 || (b2 || b3)) = true) ∨ (b1 = false ∧ b2 = false ∧ b3 = false ∧ kitB (tyN d) "int" = some true)) → (∃ b3, kitB (tyN d) "str" = some b3) →
          WB (cxOf CX0 P w K mg base N_l_same "_law_same" (defScope st_l_same) f cdv A outer s H E).nox (defBody st_l_same) { nx := fun _ H' => Q .non H', rt := Q } (start N_l_same [v, u]) H := fun {b1 b2} k1 k2 k3 k4 k5 k6 k7 => by
        obtain ⟨b3, k7⟩ := k7
        refine wb_cons (ws_if (k := false || false) (pb_val (pv_isi2 T.b_isinstance T.b_list T.b_tuple (pv_dat 1 rfl hw) tyr_d k1 k2 bt_list bt_tuple)) (fun z => nomatch z) fun _ H1 s1 => wb_nil ?_)
        have hv1 := hv.same s1
        have hw1 := hw.same s1
        refine wb_cons (ws_if (k := b1 || (b2 || b3)) (PBW.pb (pw_o (k := b1) (l := b2 || b3) ((pb_isN (pv_dat 1 rfl hw1)).is k4) fun _ => pw_o1 (pb_val (pv_isi2 T.b_isinstance T.b_bool T.b_str (pv_dat 1 rfl hw1) tyr_d k5 k7 bt_bool bt_str)))) (fun h H2 s2 => ?_) fun h H2 s2 => wb_nil ?_)
        · refine wb_one (ws_ret (r := .b (true && (decide (b2 = b2) && decide (isNone d = isNone d)))) (pv_a (pv_eqSc hd (pv_dat 0 rfl (hv1.same s2)) (pv_dat 1 rfl (hw1.same s2))) fun _ => pv_a (pv_eqT (α := Bool) (pv_isi T.b_isinstance T.b_bool (pv_dat 0 rfl (hv1.same s2)) tyr_d k5 bt_bool) (pv_isi T.b_isinstance T.b_bool (pv_dat 1 rfl (hw1.same s2)) tyr_d k5 bt_bool)) fun _ => pv_one (pv_eqT (α := Bool) (pv_isN (pv_dat 0 rfl (hv1.same s2))) (pv_isN (pv_dat 1 rfl (hw1.same s2))))) ?_)
          simp only [decide_true, Bool.and_self]
          exact qb (s1.trans s2)
        · rcases k6 b3 k7 with z | ⟨z1, z2, z3, z4⟩
          · rw [z] at h; cases h
          · refine wb_one (ws_ret (r := .b (true && (!b2 && true))) (pv_a (pv_isi T.b_isinstance T.b_int (pv_dat 0 rfl (hv1.same s2)) tyr_d z4 bt_int) fun _ => pv_a (pv_not (pv_isi T.b_isinstance T.b_bool (pv_dat 0 rfl (hv1.same s2)) tyr_d k5 bt_bool)) fun _ => pv_one (pv_eqSc hd (pv_dat 0 rfl (hv1.same s2)) (pv_dat 1 rfl (hw1.same s2)))) ?_)
            rw [z2]
            exact qb (s1.trans s2)
      cases hd with
      | non => exact i1 (b1 := true) (b2 := false) kb_NoneType_list kb_NoneType_tuple (fun _ => rfl) rfl kb_NoneType_bool (fun b3 _ => .inl rfl) ⟨_, kb_NoneType_str⟩
      | bl b => exact i1 (b1 := false) (b2 := true) kb_bool_list kb_bool_tuple (fun z => nomatch z) rfl kb_bool_bool (fun b3 _ => .inl rfl) ⟨_, kb_bool_str⟩
      | int i => exact i1 (b1 := false) (b2 := false) kb_int_list kb_int_tuple (fun z => nomatch z) rfl kb_int_bool (fun b3 h => .inr ⟨rfl, rfl, by
          have e := kb_int_str
          have h : kitB "int" "str" = some b3 := h
          rw [e] at h
          exact (Option.some.inj h).symm, kb_int_int⟩) ⟨_, kb_int_str⟩
      | str x => exact i1 (b1 := false) (b2 := false) kb_str_list kb_str_tuple (fun z => nomatch z) rfl kb_str_bool (fun b3 h => .inl (by
          have e := kb_str_str
          have h : kitB "str" "str" = some b3 := h
          rw [e] at h
          rw [← Option.some.inj h]; rfl)) ⟨_, kb_str_str⟩
    · refine wb_cons (ws_if (k := kk || !kk) (pb_val (pv_isi2 T.b_isinstance T.b_list T.b_tuple (pv_name 1 rfl) (tyr_sq q2) (kN_list kk) (kN_tuple kk) bt_list bt_tuple)) (fun _ H1 s1 => ?_) fun z => by cases kk <;> cases z)
      have r1 := q1.same s1
      have r2 := q2.same s1
      refine wb_cons (ws_if (k := decide (kk ≠ kk) || decide ((!kk) ≠ (!kk))) (PBW.pb (pw_o (pb_neT (α := Bool) (pv_isi T.b_isinstance T.b_list (pv_name 0 rfl) (tyr_sq r1) (kN_list kk) bt_list) (pv_isi T.b_isinstance T.b_list (pv_name 1 rfl) (tyr_sq r2) (kN_list kk) bt_list)) fun _ => pw_o1 (pb_neT (α := Bool) (pv_isi T.b_isinstance T.b_tuple (pv_name 0 rfl) (tyr_sq r1) (kN_tuple kk) bt_tuple) (pv_isi T.b_isinstance T.b_tuple (pv_name 1 rfl) (tyr_sq r2) (kN_tuple kk) bt_tuple)))) (fun z => by simp at z) fun _ H2 s2 => wb_nil ?_)
      have s12 := s1.trans s2
      have r1 := r1.same s2
      have r2 := r2.same s2
      refine wb_one (ws_ret (r := .b (decide ((xs.length : Int) = ys.length) && ((List.replicate xs.length true).all id))) (pv_a (pv_eqT (α := Int) (pv_lenQ T.b_len (pv_name 0 rfl) r1) (pv_lenQ T.b_len (pv_name 1 rfl) r2)) fun _ => pv_one (pv_all rfl T.b_all (pv_lcZ (own := [("_law_own", 2), ("_law_far", 3)]) (i := 2) (j := 3) rfl sc_l_same.nd T.b_zip (pv_name 0 rfl) (pv_name 1 rfl) r1 r2 hl hz (blkOk_by rfl) (fun _ _ _ _ _ => pgT2 sc_l_same.nd rfl 2 3) fun m x y H3 hx hy s3 => ⟨rfl, fun s0 H0 C cl fp => ?_⟩))) ?_)
      · have hxy := hR m x y
        have D := ih.resolve_right fun no => no _ _ _ (hxy H (Same.refl _) hx hy)
        refine .of (pe_dfn D hr pa_s) fun H4 s4 => (pas_cons (pv_name 2 rfl) (pas_cons (pv_name 3 rfl) pas_nil)).t (Same.refl _) fun vs H5 s5 pr => ?_
        obtain ⟨z1, z2, rfl, a1, a2⟩ := rsl2 pr
        have a1 : z1 = x := a1
        have a2 : z2 = y := a2
        subst a1 a2
        exact ⟨z1, z2, rfl, hxy H5 (((s12.trans s3).trans s4).trans s5) hx hy, fun H6 s6 => ⟨s5.trans s6, DI.bl _⟩⟩
      · have e : (decide ((xs.length : Int) = ys.length) && ((List.replicate xs.length true).all id)) = true := by simp [hl]
        rw [e]
        exact qb s12
end
end Bx
set_option Elab.async false
set_option linter.all false
set_option maxRecDepth 100000
set_option maxHeartbeats 4000000
/-! F8: _law_patterns_by_hand (printed by gen/f8.py). -/
namespace Bx
open PySem PySem.Spec PyProof.Rows L2
open PySem.W (Datum DatumOrd Holds HoldAll T3 T4 Tup EachIs minOf)
def handM : List (List Bond) := [
  [⟨"a", "s", "b", "s"⟩, ⟨"b", "r", "a", "r"⟩],
  [⟨"a", "s", "b", "r"⟩, ⟨"b", "s", "a", "r"⟩],
  [⟨"a", "r", "b", "s"⟩],
  [⟨"a", "s", "b", "s"⟩, ⟨"b", "s", "a", "s"⟩],
  [⟨"a", "s", "b", "r"⟩, ⟨"b", "s", "c", "r"⟩, ⟨"c", "s", "a", "r"⟩],
  [⟨"a", "s", "b", "s"⟩, ⟨"b", "s", "c", "s"⟩, ⟨"c", "r", "a", "r"⟩],
  [⟨"a", "r", "b", "r"⟩, ⟨"b", "s", "a", "s"⟩],
  [⟨"a", "r", "b", "s"⟩, ⟨"b", "r", "c", "s"⟩, ⟨"c", "s", "a", "s"⟩],
  [⟨"a", "s", "b", "r"⟩, ⟨"a", "s", "c", "r"⟩, ⟨"b", "s", "a", "r"⟩, ⟨"c", "s", "a", "r"⟩],
  [⟨"a", "s", "b", "r"⟩, ⟨"b", "r", "a", "r"⟩],
  [⟨"a", "s", "b", "s"⟩, ⟨"b", "s", "a", "r"⟩],
  [⟨"a", "s", "b", "r"⟩, ⟨"a", "s", "b", "s"⟩, ⟨"b", "r", "a", "r"⟩, ⟨"b", "s", "a", "r"⟩],
  [⟨"a", "s", "b", "s"⟩],
  [⟨"b", "s", "h", "r"⟩, ⟨"d", "r", "h", "s"⟩]]
def wfB (t : Bond) : Bool := decide (t.a ∈ letters) && (decide (t.c ∈ letters) && ((decide (t.b = "r") || decide (t.b = "s")) && ((decide (t.d = "r") || decide (t.d = "s")) && decide (t.a ≠ t.c))))
theorem wf_of {t : Bond} (h : wfB t = true) : WfB t := by
  unfold wfB at h
  simp only [Bool.and_eq_true, Bool.or_eq_true, decide_eq_true_eq] at h
  exact ⟨h.1, h.2.1, h.2.2.1, h.2.2.2.1, h.2.2.2.2⟩
def patB (P : List Bond) : Bool := decide (P ≠ []) && (decide (Asc P) && (P.all wfB && (decide (P.length ≤ 8) && decide ((dd (flatN P)).length ≤ 5))))
theorem patOk_of {P : List Bond} (h : patB P = true) : PatOk P := by
  unfold patB at h
  simp only [Bool.and_eq_true, decide_eq_true_eq, List.all_eq_true] at h
  exact ⟨h.1, h.2.1, fun b hb => wf_of (h.2.2.1 b hb), h.2.2.2.1, h.2.2.2.2⟩
theorem hand_ok : ∀ P ∈ handM, PatOk P := fun P hP => by
  have h : handM.all patB = true := by decide +kernel
  exact patOk_of (List.all_eq_true.mp h P hP)
inductive HandL (F : Addr) (H : Hp) : List V → List (List Bond) → Prop
  | nil : HandL F H [] []
  | cons {a : Addr} {x : V} {ys vs : List V} {P : List Bond} {Ps : List (List Bond)} : H a = some (.lst (x :: ys)) → HD H x (Tup.mk P) → a ≠ F → HandL F H vs Ps → HandL F H (.ref a :: vs) (P :: Ps)
theorem HandL.off {F : Addr} {H H' : Hp} (o : Off1 F H H') (t : TK H H') : ∀ {vs : List V} {Ps : List (List Bond)}, HandL F H vs Ps → HandL F H' vs Ps
  | _, _, .nil => .nil
  | _, _, .cons e h n r => .cons (o _ _ n e) (h.ts t) n (HandL.off o t r)
theorem HandL.snoc {F : Addr} {H : Hp} {a : Addr} {x : V} {ys : List V} {P : List Bond} (e : H a = some (.lst (x :: ys))) (h : HD H x (Tup.mk P)) (n : a ≠ F) : ∀ {vs : List V} {Ps : List (List Bond)}, HandL F H vs Ps → HandL F H (vs ++ [.ref a]) (Ps ++ [P])
  | _, _, .nil => .cons e h n .nil
  | _, _, .cons e' h' n' r => .cons e' h' n' (HandL.snoc e h n r)
theorem HandL.get {F : Addr} {H : Hp} : ∀ {vs : List V} {Ps : List (List Bond)} {i : Nat} {v : V}, HandL F H vs Ps → vs[i]? = some v → ∃ (a : Addr) (x : V) (ys : List V) (P : List Bond), v = .ref a ∧ H a = some (.lst (x :: ys)) ∧ HD H x (Tup.mk P) ∧ P ∈ Ps
  | _, _, _, _, .nil, e => by simp at e
  | _, _, 0, _, .cons e' h' n' r, e => by
    simp at e; subst e
    exact ⟨_, _, _, _, rfl, e', h', List.mem_cons_self⟩
  | _, _, i + 1, _, .cons e' h' n' r, e => by
    obtain ⟨a, x, ys, P, h1, h2, h3, h4⟩ := HandL.get (i := i) r (by simpa using e)
    exact ⟨a, x, ys, P, h1, h2, h3, List.mem_cons_of_mem _ h4⟩
theorem HandL.length {F : Addr} {H : Hp} : ∀ {vs : List V} {Ps : List (List Bond)}, HandL F H vs Ps → vs.length = Ps.length
  | _, _, .nil => rfl
  | _, _, .cons _ _ _ r => congrArg (· + 1) r.length
theorem hand_item {H1 : Hp} {ws : List V} {P : List Bond} {d1 d2 : PyData} (h : DIs H1 ws [Datum.toD (Tup.mk P), d1, d2]) : ∃ x ys, ws = x :: ys ∧ HD H1 x (Tup.mk P) := by
  cases h with
  | cons h1 h2 => exact ⟨_, _, rfl, h1⟩
section
variable {X : Cx} {e o : Expr} {σ : St} {H : Hp} {pos apos cpos : Pos} {D : Ends}
/-- pure evaluation as a structure: nothing is unfolded behind it -/
structure PZ (X : Cx) (e : Expr) (σ : St) (H : Hp) (r : Rs) : Prop where
  run : PV X e σ H r
/-- items of displays: no item is starred -/
structure PZs (X : Cx) (es : List Expr) (σ : St) (H : Hp) (ds : List PyData) : Prop where
  run : PAd X es σ H ds
structure WZ (X : Cx) (st : Stmt) (D : Ends) (σ : St) (H : Hp) : Prop where
  run : WS X st D σ H
theorem wz_cons {st : Stmt} {sts : List Stmt} (h : WZ X st { D with nx := WB X sts D } σ H) : WB X (st :: sts) D σ H := wb_cons h.run
/-- no starred item -/
def NoSt : Expr → Bool
  | .Starred _ _ => false
  | _ => true
theorem noSt {e : Expr} {es : List Expr} (h : NoSt e = true) (env : Env) : starEach (e :: es) env = (false, eval e env) :: starEach es env := by
  cases e <;> first | rfl | cases h
theorem pz_nil : PZs X [] σ H [] := ⟨pad_nil⟩
theorem pz_cons {d : PyData} {ds : List PyData} {es : List Expr} (h : PZ X e σ H (.d d)) (hs : PZs X es σ H ds) (n : NoSt e = true := by rfl) : PZs X (e :: es) σ H (d :: ds) := ⟨pad_cons h.run hs.run (noSt n _)⟩
theorem pz_tup {ds : List PyData} {es : List Expr} {k} (h : PZs X es σ H ds) (hl : decide (ds.length ≤ 1000000) = true := by rfl) : PZ X (.Tuple es k pos) σ H (.d (.tuple ds)) := ⟨pv_tup h.run (of_decide_eq_true hl)⟩
theorem pz_lst {ds : List PyData} {es : List Expr} (h : PZs X es σ H ds) (hl : decide (ds.length ≤ 1000000) = true := by rfl) : PZ X (.List es pos) σ H (.l ds) := ⟨pv_lst h.run (of_decide_eq_true hl)⟩
theorem pz_str {x j} : PZ X (.Constant (.str x) j pos) σ H (.s x) := ⟨pv_str⟩
theorem pz_int {i : Int} {j} : PZ X (.Constant (.int i) j pos) σ H (.i i) := ⟨pv_int⟩
theorem pz_non {j} : PZ X (.Constant .none j pos) σ H (.d .none) := ⟨pv_non⟩
theorem pz_bond {a b c d : Str} {j1 j2 j3 j4 k} {p1 p2 p3 p4 : Pos} : PZ X (.Tuple [.Constant (.str a) j1 p1, .Constant (.str b) j2 p2, .Constant (.str c) j3 p3, .Constant (.str d) j4 p4] k pos) σ H (.d (.tuple [.str a, .str b, .str c, .str d])) :=
  pz_tup (pz_cons pz_str (pz_cons pz_str (pz_cons pz_str (pz_cons pz_str pz_nil))))
theorem wz_setT {i : Nat} {x : Str} {p1 p2 : Pos} {es : List Expr} {k} {ds : List PyData} (hN : X.N.Nodup) (h : PZ X (.Tuple es k p2) σ H (.d (.tuple ds))) (q : ∀ v H1, Same H H1 → DI H1 v (.tuple ds) → D.nx (σ.set i (some v)) H1) (hi : X.N[i]? = some x := by rfl) (hx : Loc X.env.scope x := by first | exact Or.inl rfl | exact Or.inr rfl)
    (hf : X.fn x = true ∨ X.env.scope.names.lookup x = some .local := by first | exact .inl rfl | exact .inr rfl | assumption) : WZ X (.Assign [.Name x p1] (.Tuple es k p2) pos) D σ H := ⟨ws_set hN h.run q hi hx rfl hf⟩
/-- l = [[..]] -/
theorem wz_setLL {i : Nat} {x : Str} {p1 p2 p3 : Pos} {es : List Expr} {ds : List PyData} (hN : X.N.Nodup) (h : PZ X (.List es p2) σ H (.l ds)) (q : ∀ a F H1 ws, Same H H1 → H1 a = some (.lst ws) → DIs H1 ws ds → H F = none → H1 F = some (.lst [.ref a]) → a ≠ F → D.nx (σ.set i (some (.ref F))) H1) (hi : X.N[i]? = some x := by rfl) (hx : Loc X.env.scope x := by first | exact Or.inl rfl | exact Or.inr rfl)
    (hf : X.fn x = true ∨ X.env.scope.names.lookup x = some .local := by first | exact .inl rfl | exact .inr rfl | assumption) : WZ X (.Assign [.Name x p1] (.List [.List es p2] p3) pos) D σ H := ⟨ws_ev hN (ev_of (pe_lst (pa_cons pe_s pa_nil rfl)) (h.run.t (Same.refl _) fun v H1 s1 p => ⟨(by show 1 ≤ sizeLine; decide), fun F nF => by
      obtain ⟨a, ws, rfl, na, ha, hw⟩ := p
      have naF : a ≠ F := fun z => by rw [z, nF] at ha; cases ha
      have sn := same_new (o := .lst [V.ref a]) nF
      exact q a F _ ws (s1.trans sn) (sn _ _ ha) (hw.same sn) (s1.free nF) upd_same naF⟩)) hi hx rfl hf⟩
theorem ws_hand {P : List Bond} {d1 d2 : PyData} {F : Addr} {vs : List V} {Ps : List (List Bond)} {x : Str} {p1 p2 : Pos} {es : List Expr} {ds : List PyData} (W : H F = some (.lst vs)) (WL : HandL F H vs Ps) (hn : decide (Ps.length ≤ 100) = true) (ho : PV X (.Name x p1) σ H (.v (.ref F))) (he : PZ X (.List es p2) σ H (.l ds)) (hd : ds = [Datum.toD (Tup.mk P), d1, d2])
    (k : ∀ vs' H1, Off1 F H H1 → H1 F = some (.lst vs') → HandL F H1 vs' (Ps ++ [P]) → D.nx σ H1)
    (hbase : attributeBase (.Name x p1) "append" X.env (eval (.Name x p1) X.env) = eval (.Name x p1) X.env := by rfl) (hline : (apos.endLine == cpos.line) = true := by rfl) : WZ X (.Expr (.Call (.Attribute (.Name x p1) "append" apos) [.List es p2] [] cpos) pos) D σ H :=
  ⟨ws_append ho W (by have := WL.length; have := of_decide_eq_true hn; omega) he.run (fun v H1 s1 p => by
    subst hd
    obtain ⟨a, ws, rfl, na, ha, hw⟩ := p
    obtain ⟨x, ys, rfl, hx⟩ := hand_item hw
    have naF : a ≠ F := fun z => by rw [z, W] at na; cases na
    have t := TK.updL (o := .lst (vs ++ [V.ref a])) (s1 _ _ W)
    have oF := Off1.up H1 (.lst (vs ++ [V.ref a])) (F := F)
    exact k _ _ ((Off1.of s1).trans oF) upd_same ((WL.off ((Off1.of s1).trans oF) ((TK.same s1).trans t)).snoc (oF _ _ naF ha) (hx.ts t) naF)) hbase hline rfl rfl rfl rfl⟩
end
theorem pe_dfn0 {X : Cx} {k : Nat} {x : Str} {sp : Sp} {p pos : Pos} (D : Dfn X.prog X.w X.K X.mg X.base k x [] sp) (hr : Room k X.A) (hg : Gl X x := by rfl) (hdb : (x == ("__debug__" : Str)) = false := by decide) : PE X (.Call (.Name x p) [] [] pos) (tCall sp [] E0 tNil) := by
  obtain ⟨f, fd, F, hm, hk, hb⟩ := D.ex
  exact pe_call0 F hr hg hm hk hb .nil pass0 hdb
def spHand : Sp := fun vs H Q _ => vs = [] ∧ ∀ (F : Addr) (ws : List V) H2, Same H H2 → H F = none → H2 F = some (.lst ws) → HandL F H2 ws handM → Q (.ref F) H2
section
variable {P : Program} {w : World} {K : PySem.W.Frag} {mg : Str → Option Value} {base : Heap}
theorem ok_hand (T : Txt K mg) : Dfn P w K mg base 1 "_law_patterns_by_hand" [] spHand := by
  refine dfn_of T.h_l_patterns_by_hand sc_l_patterns_by_hand (fun vs H Q E h => ?_) (fun f cdv A outer s H vs Q E hr h => ?_)
  · obtain ⟨rfl, _⟩ := h; rfl
  · obtain ⟨rfl, q⟩ := h
    refine wz_cons ?_
    refine wz_setLL (i := 0) sc_l_patterns_by_hand.nd (ds := [.tuple [.tuple [.str "a", .str "s", .str "b", .str "s"], .tuple [.str "b", .str "r", .str "a", .str "r"]], .str "marks", (.int 1)]) ?_ (fun a0 F H1 ws0 s0 ha0 hw0 nF0 hF na0F => ?_) rfl (.inl rfl) (.inl rfl)
    · exact pz_lst (pz_cons (pz_tup (pz_cons pz_bond (pz_cons pz_bond pz_nil))) (pz_cons pz_str (pz_cons pz_int pz_nil)))
    obtain ⟨x0, ys0, rfl, hx0⟩ := hand_item (P := [⟨"a", "s", "b", "s"⟩, ⟨"b", "r", "a", "r"⟩]) (d1 := .str "marks") (d2 := (.int 1)) hw0
    have W1 := hF
    have L1 : HandL F H1 [V.ref a0] ([[⟨"a", "s", "b", "s"⟩, ⟨"b", "r", "a", "r"⟩]] : List (List Bond)) := .cons ha0 hx0 na0F .nil
    have o1 := Off1.of (F := F) s0
    refine wz_cons ?_
    refine ws_hand (P := [⟨"a", "s", "b", "r"⟩, ⟨"b", "s", "a", "r"⟩]) (d1 := .str "asks") (d2 := (.int 2)) (ds := [.tuple [.tuple [.str "a", .str "s", .str "b", .str "r"], .tuple [.str "b", .str "s", .str "a", .str "r"]], .str "asks", (.int 2)]) W1 L1 rfl (pv_name 0 rfl) ?_ rfl (fun vs2 H2 a2 W2 L2 => ?_) rfl rfl
    · exact pz_lst (pz_cons (pz_tup (pz_cons pz_bond (pz_cons pz_bond pz_nil))) (pz_cons pz_str (pz_cons pz_int pz_nil)))
    have o2 := o1.trans a2
    refine wz_cons ?_
    refine ws_hand (P := [⟨"a", "r", "b", "s"⟩]) (d1 := .str "never") (d2 := .none) (ds := [.tuple [.tuple [.str "a", .str "r", .str "b", .str "s"]], .str "never", .none]) W2 L2 rfl (pv_name 0 rfl) ?_ rfl (fun vs3 H3 a3 W3 L3 => ?_) rfl rfl
    · exact pz_lst (pz_cons (pz_tup (pz_cons pz_bond pz_nil)) (pz_cons pz_str (pz_cons pz_non pz_nil)))
    have o3 := o2.trans a3
    refine wz_cons ?_
    refine ws_hand (P := [⟨"a", "s", "b", "s"⟩, ⟨"b", "s", "a", "s"⟩]) (d1 := .str "itself") (d2 := (.int 0)) (ds := [.tuple [.tuple [.str "a", .str "s", .str "b", .str "s"], .tuple [.str "b", .str "s", .str "a", .str "s"]], .str "itself", (.int 0)]) W3 L3 rfl (pv_name 0 rfl) ?_ rfl (fun vs4 H4 a4 W4 L4 => ?_) rfl rfl
    · exact pz_lst (pz_cons (pz_tup (pz_cons pz_bond (pz_cons pz_bond pz_nil))) (pz_cons pz_str (pz_cons pz_int pz_nil)))
    have o4 := o3.trans a4
    refine wz_cons ?_
    refine ws_hand (P := [⟨"a", "s", "b", "r"⟩, ⟨"b", "s", "c", "r"⟩, ⟨"c", "s", "a", "r"⟩]) (d1 := .str "asks") (d2 := (.int 3)) (ds := [.tuple [.tuple [.str "a", .str "s", .str "b", .str "r"], .tuple [.str "b", .str "s", .str "c", .str "r"], .tuple [.str "c", .str "s", .str "a", .str "r"]], .str "asks", (.int 3)]) W4 L4 rfl (pv_name 0 rfl) ?_ rfl (fun vs5 H5 a5 W5 L5 => ?_) rfl rfl
    · exact pz_lst (pz_cons (pz_tup (pz_cons pz_bond (pz_cons pz_bond (pz_cons pz_bond pz_nil)))) (pz_cons pz_str (pz_cons pz_int pz_nil)))
    have o5 := o4.trans a5
    refine wz_cons ?_
    refine ws_hand (P := [⟨"a", "s", "b", "s"⟩, ⟨"b", "s", "c", "s"⟩, ⟨"c", "r", "a", "r"⟩]) (d1 := .str "marks") (d2 := (.int 1)) (ds := [.tuple [.tuple [.str "a", .str "s", .str "b", .str "s"], .tuple [.str "b", .str "s", .str "c", .str "s"], .tuple [.str "c", .str "r", .str "a", .str "r"]], .str "marks", (.int 1)]) W5 L5 rfl (pv_name 0 rfl) ?_ rfl (fun vs6 H6 a6 W6 L6 => ?_) rfl rfl
    · exact pz_lst (pz_cons (pz_tup (pz_cons pz_bond (pz_cons pz_bond (pz_cons pz_bond pz_nil)))) (pz_cons pz_str (pz_cons pz_int pz_nil)))
    have o6 := o5.trans a6
    refine wz_cons ?_
    refine ws_hand (P := [⟨"a", "r", "b", "r"⟩, ⟨"b", "s", "a", "s"⟩]) (d1 := .str "marks") (d2 := (.int 1)) (ds := [.tuple [.tuple [.str "a", .str "r", .str "b", .str "r"], .tuple [.str "b", .str "s", .str "a", .str "s"]], .str "marks", (.int 1)]) W6 L6 rfl (pv_name 0 rfl) ?_ rfl (fun vs7 H7 a7 W7 L7 => ?_) rfl rfl
    · exact pz_lst (pz_cons (pz_tup (pz_cons pz_bond (pz_cons pz_bond pz_nil))) (pz_cons pz_str (pz_cons pz_int pz_nil)))
    have o7 := o6.trans a7
    refine wz_cons ?_
    refine ws_hand (P := [⟨"a", "r", "b", "s"⟩, ⟨"b", "r", "c", "s"⟩, ⟨"c", "s", "a", "s"⟩]) (d1 := .str "itself") (d2 := (.int 0)) (ds := [.tuple [.tuple [.str "a", .str "r", .str "b", .str "s"], .tuple [.str "b", .str "r", .str "c", .str "s"], .tuple [.str "c", .str "s", .str "a", .str "s"]], .str "itself", (.int 0)]) W7 L7 rfl (pv_name 0 rfl) ?_ rfl (fun vs8 H8 a8 W8 L8 => ?_) rfl rfl
    · exact pz_lst (pz_cons (pz_tup (pz_cons pz_bond (pz_cons pz_bond (pz_cons pz_bond pz_nil)))) (pz_cons pz_str (pz_cons pz_int pz_nil)))
    have o8 := o7.trans a8
    refine wz_cons ?_
    refine wz_setT (i := 1) sc_l_patterns_by_hand.nd (ds := [.tuple [.str "a", .str "s", .str "b", .str "r"], .tuple [.str "a", .str "s", .str "c", .str "r"], .tuple [.str "b", .str "s", .str "a", .str "r"], .tuple [.str "c", .str "s", .str "a", .str "r"]]) ?_ (fun w8 G8 t8 u8 => ?_) rfl (.inl rfl) (.inl rfl)
    · exact (pz_tup (pz_cons pz_bond (pz_cons pz_bond (pz_cons pz_bond (pz_cons pz_bond pz_nil)))))
    have L8 := L8.off (Off1.of t8) (TK.same t8)
    have W8 := t8 _ _ W8
    have o8 := o8.trans (.of t8)
    refine wz_cons ?_
    refine ws_hand (P := [⟨"a", "s", "b", "r"⟩, ⟨"a", "s", "c", "r"⟩, ⟨"b", "s", "a", "r"⟩, ⟨"c", "s", "a", "r"⟩]) (d1 := .str "asks") (d2 := (.int 2)) (ds := [.tuple [.tuple [.str "a", .str "s", .str "b", .str "r"], .tuple [.str "a", .str "s", .str "c", .str "r"], .tuple [.str "b", .str "s", .str "a", .str "r"], .tuple [.str "c", .str "s", .str "a", .str "r"]], .str "asks", (.int 2)]) W8 L8 rfl (pv_name 0 rfl) ?_ rfl (fun vs9 H9 a9 W9 L9 => ?_) rfl rfl
    · exact pz_lst (pz_cons ⟨pv_dat 1 rfl u8⟩ (pz_cons pz_str (pz_cons pz_int pz_nil)))
    have o9 := o8.trans a9
    refine wz_cons ?_
    refine ws_hand (P := [⟨"a", "s", "b", "r"⟩, ⟨"b", "r", "a", "r"⟩]) (d1 := .str "marks") (d2 := (.int 1)) (ds := [.tuple [.tuple [.str "a", .str "s", .str "b", .str "r"], .tuple [.str "b", .str "r", .str "a", .str "r"]], .str "marks", (.int 1)]) W9 L9 rfl (pv_name 0 rfl) ?_ rfl (fun vs10 H10 a10 W10 L10 => ?_) rfl rfl
    · exact pz_lst (pz_cons (pz_tup (pz_cons pz_bond (pz_cons pz_bond pz_nil))) (pz_cons pz_str (pz_cons pz_int pz_nil)))
    have o10 := o9.trans a10
    refine wz_cons ?_
    refine ws_hand (P := [⟨"a", "s", "b", "s"⟩, ⟨"b", "s", "a", "r"⟩]) (d1 := .str "marks") (d2 := (.int 1)) (ds := [.tuple [.tuple [.str "a", .str "s", .str "b", .str "s"], .tuple [.str "b", .str "s", .str "a", .str "r"]], .str "marks", (.int 1)]) W10 L10 rfl (pv_name 0 rfl) ?_ rfl (fun vs11 H11 a11 W11 L11 => ?_) rfl rfl
    · exact pz_lst (pz_cons (pz_tup (pz_cons pz_bond (pz_cons pz_bond pz_nil))) (pz_cons pz_str (pz_cons pz_int pz_nil)))
    have o11 := o10.trans a11
    refine wz_cons ?_
    refine wz_setT (i := 1) sc_l_patterns_by_hand.nd (ds := [.tuple [.str "a", .str "s", .str "b", .str "r"], .tuple [.str "a", .str "s", .str "b", .str "s"], .tuple [.str "b", .str "r", .str "a", .str "r"], .tuple [.str "b", .str "s", .str "a", .str "r"]]) ?_ (fun w11 G11 t11 u11 => ?_) rfl (.inl rfl) (.inl rfl)
    · exact (pz_tup (pz_cons pz_bond (pz_cons pz_bond (pz_cons pz_bond (pz_cons pz_bond pz_nil)))))
    have L11 := L11.off (Off1.of t11) (TK.same t11)
    have W11 := t11 _ _ W11
    have o11 := o11.trans (.of t11)
    refine wz_cons ?_
    refine ws_hand (P := [⟨"a", "s", "b", "r"⟩, ⟨"a", "s", "b", "s"⟩, ⟨"b", "r", "a", "r"⟩, ⟨"b", "s", "a", "r"⟩]) (d1 := .str "marks") (d2 := (.int 1)) (ds := [.tuple [.tuple [.str "a", .str "s", .str "b", .str "r"], .tuple [.str "a", .str "s", .str "b", .str "s"], .tuple [.str "b", .str "r", .str "a", .str "r"], .tuple [.str "b", .str "s", .str "a", .str "r"]], .str "marks", (.int 1)]) W11 L11 rfl (pv_name 0 rfl) ?_ rfl (fun vs12 H12 a12 W12 L12 => ?_) rfl rfl
    · exact pz_lst (pz_cons ⟨pv_dat 1 rfl u11⟩ (pz_cons pz_str (pz_cons pz_int pz_nil)))
    have o12 := o11.trans a12
    refine wz_cons ?_
    refine ws_hand (P := [⟨"a", "s", "b", "s"⟩]) (d1 := .str "never") (d2 := .none) (ds := [.tuple [.tuple [.str "a", .str "s", .str "b", .str "s"]], .str "never", .none]) W12 L12 rfl (pv_name 0 rfl) ?_ rfl (fun vs13 H13 a13 W13 L13 => ?_) rfl rfl
    · exact pz_lst (pz_cons (pz_tup (pz_cons pz_bond pz_nil)) (pz_cons pz_str (pz_cons pz_non pz_nil)))
    have o13 := o12.trans a13
    refine wz_cons ?_
    refine ws_hand (P := [⟨"b", "s", "h", "r"⟩, ⟨"d", "r", "h", "s"⟩]) (d1 := .str "never") (d2 := .none) (ds := [.tuple [.tuple [.str "b", .str "s", .str "h", .str "r"], .tuple [.str "d", .str "r", .str "h", .str "s"]], .str "never", .none]) W13 L13 rfl (pv_name 0 rfl) ?_ rfl (fun vs14 H14 a14 W14 L14 => ?_) rfl rfl
    · exact pz_lst (pz_cons (pz_tup (pz_cons pz_bond (pz_cons pz_bond pz_nil))) (pz_cons pz_str (pz_cons pz_non pz_nil)))
    have o14 := o13.trans a14
    refine wb_one (ws_ret (r := .v (.ref F)) (pv_name 0 rfl) fun v Hn sn p => ?_)
    have p : v = .ref F := p
    rw [p]
    exact q F vs14 Hn ((Off1.sameOf (Same.refl H) o14 nF0).trans sn) nF0 (sn _ _ W14) (L14.off (.of sn) (.same sn))
end
end Bx
set_option Elab.async false
set_option linter.all false
set_option maxRecDepth 100000
set_option maxHeartbeats 4000000
/-! G0: lists of data and of lists. -/
namespace Bx
open PySem PySem.Spec PyProof.Rows L2
open PySem.W (Datum DatumOrd Holds HoldAll T3 T4 Tup EachIs minOf)
inductive Sc1 : PyData → Prop
  | s {d : PyData} : Scal d → Sc1 d
  | t {ds : List PyData} : (∀ d ∈ ds, Scal d) → ds.length ≤ 2000000 → Sc1 (.tuple ds)
inductive Sc2 : PyData → Prop
  | s {d : PyData} : Scal d → Sc2 d
  | l {ds : List PyData} : (∀ d ∈ ds, Sc1 d) → ds.length ≤ 2000000 → Sc2 (.list ds)
/-- data, or a list of data -/
inductive JI (H : Hp) : V → PyData → Prop
  | d {v : V} {d : PyData} : DI H v d → JI H v d
  | l {p : Addr} {vs : List V} {ds : List PyData} : H p = some (.lst vs) → DIs H vs ds → JI H (.ref p) (.list ds)
inductive JIs (H : Hp) : List V → List PyData → Prop
  | nil : JIs H [] []
  | cons {v : V} {vs : List V} {d : PyData} {ds : List PyData} : JI H v d → JIs H vs ds → JIs H (v :: vs) (d :: ds)
theorem JI.same {H H' : Hp} {v : V} {d : PyData} (h : JI H v d) (s : Same H H') : JI H' v d := by
  cases h with
  | d h => exact .d (h.same s)
  | l e h => exact .l (s _ _ e) (h.same s)
theorem JIs.same {H H' : Hp} (s : Same H H') : ∀ {vs : List V} {ds : List PyData}, JIs H vs ds → JIs H' vs ds
  | _, _, .nil => .nil
  | _, _, .cons h hs => .cons (h.same s) (hs.same s)
theorem JIs.length {H : Hp} : ∀ {vs : List V} {ds : List PyData}, JIs H vs ds → vs.length = ds.length
  | _, _, .nil => rfl
  | _, _, .cons _ hs => congrArg (· + 1) hs.length
theorem JIs.append {H : Hp} : ∀ {vs ws : List V} {ds es : List PyData}, JIs H vs ds → JIs H ws es → JIs H (vs ++ ws) (ds ++ es)
  | _, _, _, _, .nil, k => k
  | _, _, _, _, .cons h hs, k => .cons h (hs.append k)
theorem JIs.get' {H : Hp} : ∀ {vs : List V} {ds : List PyData} {i : Nat} {v : V}, JIs H vs ds → vs[i]? = some v → ∃ d, ds[i]? = some d ∧ JI H v d
  | _, _, _, _, .nil, e => by simp at e
  | _, _, 0, _, .cons h _, e => by
    simp at e; subst e
    exact ⟨_, rfl, h⟩
  | _, _, i + 1, _, .cons _ hs, e => hs.get' (i := i) (by simpa using e)
/-- a list that begins with a list is no list of data -/
theorem no_dis {H : Hp} {q : Addr} {xs vs : List V} {ds : List PyData} (e : H q = some (.lst vs)) : ¬ DIs H (.ref q :: xs) ds := fun h => by
  cases h with
  | cons h1 _ => cases h1 with
    | tup ea _ =>
      rcases ea with ea | ⟨⟨o, ea, _⟩, _⟩
      · rw [e] at ea; cases ea
      · rw [e] at ea; cases ea
theorem JI.lst {H : Hp} {v : V} {ds : List PyData} (h : JI H v (.list ds)) : ∃ p vs, v = .ref p ∧ H p = some (.lst vs) ∧ DIs H vs ds := by
  cases h with
  | d h => cases h
  | l e h => exact ⟨_, _, rfl, e, h⟩
/-- the list at g; its first is a list -/
structure GW (H : Hp) (g : Addr) (js : List PyData) : Prop where
  ex : ∃ xs, H g = some (.lst xs) ∧ JIs H xs js
  hd : ∃ ds r, js = .list ds :: r
  ok : ∀ j ∈ js, Sc2 j
theorem GW.same {H H' : Hp} {g : Addr} {js : List PyData} (h : GW H g js) (s : Same H H') : GW H' g js := by
  obtain ⟨⟨xs, e, hx⟩, hd, ok⟩ := h
  exact ⟨⟨xs, s _ _ e, hx.same s⟩, hd, ok⟩
/-- no list of data stands there -/
theorem GW.ne {H : Hp} {g p : Addr} {js ds : List PyData} {vs : List V} (h : GW H g js) (e : H p = some (.lst vs)) (hd : DIs H vs ds) : p ≠ g := fun z => by
  obtain ⟨⟨xs, ex, hx⟩, ⟨d0, r, rfl⟩, _⟩ := h
  subst z
  rw [e] at ex
  injection ex with ex
  injection ex with ex
  subst ex
  cases hx with
  | cons h1 _ =>
    obtain ⟨q, ws, rfl, eq, _⟩ := h1.lst
    exact no_dis eq hd
theorem JI.up {H : Hp} {g : Addr} {js : List PyData} {v : V} {d : PyData} {zs : List V} (h : JI H v d) (G : GW H g js) : JI (L2.upd H g (.lst zs)) v d := by
  obtain ⟨xs, ex, _⟩ := G.ex
  have t := TK.updL (o := .lst zs) ex
  cases h with
  | d h => exact .d (h.ts t)
  | l e h => exact .l (by rw [upd_ne (G.ne e h)]; exact e) (h.ts t)
theorem JIs.up {H : Hp} {g : Addr} {js : List PyData} {zs : List V} (G : GW H g js) : ∀ {vs : List V} {ds : List PyData}, JIs H vs ds → JIs (L2.upd H g (.lst zs)) vs ds
  | _, _, .nil => .nil
  | _, _, .cons h hs => .cons (h.up G) (JIs.up G hs)
theorem GW.up {H : Hp} {g g2 : Addr} {js js2 : List PyData} {zs : List V} (h : GW H g2 js2) (G : GW H g js) (n : g2 ≠ g) : GW (L2.upd H g (.lst zs)) g2 js2 := by
  obtain ⟨⟨xs, e, hx⟩, hd, ok⟩ := h
  exact ⟨⟨xs, by rw [upd_ne n]; exact e, JIs.up G hx⟩, hd, ok⟩
theorem GW.isL {H : Hp} {g : Addr} {js : List PyData} (h : GW H g js) : IsL H g := by
  obtain ⟨xs, e, _⟩ := h.ex
  exact ⟨xs, e⟩
abbrev Rs.j (d : PyData) : Rs := .p (fun H v => JI H v d) fun _ _ _ s h => h.same s
abbrev Rs.jl (js : List PyData) : Rs := .p (fun H v => ∃ p xs, v = .ref p ∧ H p = some (.lst xs) ∧ JIs H xs js) fun _ _ _ s ⟨q0, xs, e, h, k⟩ => ⟨q0, xs, e, s _ _ h, k.same s⟩
theorem PV.to {X : Cx} {e : Expr} {σ : St} {H : Hp} {r r' : Rs} (h : PV X e σ H r) (k : ∀ H1 v H2, Same H H1 → Same H1 H2 → r.P H1 v H2 → r'.P H1 v H2) : PV X e σ H r' :=
  fun pins s H1 hs I => thn (h pins s H1 hs I) fun u s' ⟨w, H2, I2, rw', hs2, p⟩ => ⟨w, H2, I2, rw', hs2, k H1 w H2 hs hs2 p⟩
section
variable {X : Cx} {e a b o : Expr} {es : List Expr} {σ : St} {H : Hp} {pos apos cpos : Pos} {d : PyData} {ds ja jb js : List PyData} {D : Ends}
theorem PV.jd (h : PV X e σ H (.d d)) : PV X e σ H (.j d) := h.to fun _ _ _ _ _ p => JI.d p
theorem PV.jl (h : PV X e σ H (.l ds)) : PV X e σ H (.j (.list ds)) := h.to fun _ _ _ _ _ p => by
  obtain ⟨p, vs, rfl, _, e, h⟩ := p
  exact JI.l e h
theorem PV.jv {l : Addr} {vs : List V} (h : PV X e σ H (.v (.ref l))) (hl : H l = some (.lst vs)) (hd : DIs H vs ds) : PV X e σ H (.j (.list ds)) := h.to fun H1 v H2 s1 s2 p => by
  have p : v = .ref l := p
  subst p
  exact JI.l ((s1.trans s2) _ _ hl) (hd.same (s1.trans s2))
def PAj (X : Cx) (es : List Expr) (σ : St) (H : Hp) (js : List PyData) : Prop :=
  ∀ (pos : Pos) (pins : List (Addr × Obj)) (s : Shared) (H1 : Hp), Same H H1 → Inv X pins σ H1 s → wpAny (model X.prog X.w) X.A (spliced (backTo pos (starEach es X.env))) (AP X pins σ fun vs H2 => Same H1 H2 ∧ JIs H2 vs js) X.xe s
theorem PAj.of {t : TA} (h : PA X es t) (q : ∀ H1, Same H H1 → t σ H1 fun vs H2 => Same H1 H2 ∧ JIs H2 vs js) : PAj X es σ H js := fun pos pins s H1 hs I => h.run pos pins s σ H1 _ I (q H1 hs)
theorem PAj.t {H1 : Hp} (h : PAj X es σ H js) (hs : Same H H1) {Q : List V → Hp → Prop} (q : ∀ vs H2, Same H1 H2 → JIs H2 vs js → Q vs H2) : tSA X es σ H1 Q :=
  fun pos pins s I => thn (h pos pins s H1 hs I) fun u s' ⟨v, H2, I2, rv, hs2, p⟩ => ⟨v, H2, I2, rv, q v H2 hs2 p⟩
theorem paj_nil : PAj X [] σ H [] := .of pa_nil fun H1 _ => ⟨Same.refl _, .nil⟩
theorem paj_cons (h : PV X e σ H (.j d)) (hr : PAj X es σ H js) (n : NoSt e = true := by rfl) : PAj X (e :: es) σ H (d :: js) :=
  .of (pa_cons pe_s pa_s (noSt n _)) fun H1 h1 => h.t h1 fun x H2 s2 px => hr.t (h1.trans s2) fun xs H3 s3 pxs => ⟨s2.trans s3, .cons (JI.same px s3) pxs⟩
theorem pv_jlst (h : PAj X es σ H js) (hl : js.length ≤ 1000000) : PV X (.List es pos) σ H (.jl js) :=
  .of (pe_lst pa_s) fun H1 hs => h.t hs fun vs H2 s2 pd => ⟨by rw [pd.length]; exact Nat.le_trans hl (by decide), fun p np => ⟨s2.trans (same_new np), p, vs, rfl, upd_same, pd.same (same_new np)⟩⟩
theorem pv_jvar {g : Addr} (h : PV X e σ H (.v (.ref g))) (G : GW H g js) : PV X e σ H (.jl js) := h.to fun H1 v H2 s1 s2 p => by
  have p : v = .ref g := p
  obtain ⟨xs, e, hx⟩ := G.ex
  exact ⟨g, xs, p, (s1.trans s2) _ _ e, hx.same (s1.trans s2)⟩
theorem pv_jcat (ha : PV X a σ H (.jl ja)) (hb : PV X b σ H (.jl jb)) (hz : ja.length + jb.length ≤ 2000000) : PV X (.BinOp a .Add b pos) σ H (.jl (ja ++ jb)) :=
  .of (pe_op op_cat pe_s pe_s) fun H1 hs => ha.t hs fun v H2 s2 pv => hb.t (hs.trans s2) fun u H3 s3 pu => by
    obtain ⟨p, vs, rfl, hp, hd⟩ := pv
    obtain ⟨p', ws, rfl, hp', hd'⟩ := pu
    refine ⟨p, p', vs, ws, rfl, rfl, s3 _ _ hp, hp', by rw [hd.length, hd'.length]; exact Nat.le_trans hz (by decide), fun q nq => ?_⟩
    have sn := same_new (o := .lst (vs ++ ws)) nq
    exact ⟨(s2.trans s3).trans sn, q, _, rfl, upd_same, ((hd.same s3).append hd').same sn⟩
theorem pv_jrep3 (ha : PV X a σ H (.jl [d])) (hb : PV X b σ H (.i 3)) : PV X (.BinOp a .Mult b pos) σ H (.jl [d, d, d]) :=
  .of (pe_op op_rep pe_s pe_s) fun H1 hs => ha.t hs fun v H2 s2 pv => hb.t (hs.trans s2) fun u H3 s3 pu => by
    obtain ⟨p, vs, rfl, hp, hd⟩ := pv
    cases hd with
    | @cons w0 _ _ _ h1 h2 =>
      cases h2
      refine ⟨p, 3, _, rfl, Rs.pI pu, s3 _ _ hp, by decide, by decide, by show 1 * 3 ≤ sizeLine; decide, fun q nq => ?_⟩
      have sn := same_new (o := .lst (List.replicate (3 : Int).toNat [w0]).flatten) nq
      have k := (h1.same s3).same sn
      exact ⟨(s2.trans s3).trans sn, q, _, rfl, upd_same, .cons k (.cons k (.cons k .nil))⟩
/-- x = a + b -/
theorem ws_gcat {i : Nat} {x : Str} {pos' p2 : Pos} (hN : X.N.Nodup) (ha : PV X a σ H (.jl ja)) (hb : PV X b σ H (.jl jb)) (hz : ja.length + jb.length ≤ 2000000) (hd : ∃ ds r, ja = .list ds :: r) (oka : ∀ j ∈ ja, Sc2 j) (okb : ∀ j ∈ jb, Sc2 j)
    (k : ∀ p H1, Same H H1 → H p = none → GW H1 p (ja ++ jb) → D.nx (σ.set i (some (.ref p))) H1) (hi : X.N[i]? = some x := by rfl) (hx : Loc X.env.scope x := by first | exact Or.inl rfl | exact Or.inr rfl)
    (hf : X.fn x = true ∨ X.env.scope.names.lookup x = some .local := by first | exact .inl rfl | exact .inr rfl | assumption) : WZ X (.Assign [.Name x pos'] (.BinOp a .Add b p2) pos) D σ H :=
  ⟨ws_ev hN (ev_of (pe_op op_cat pe_s pe_s) (ha.t (Same.refl _) fun v H2 s2 pv => hb.t s2 fun u H3 s3 pu => by
    obtain ⟨p, vs, rfl, hp, hd1⟩ := pv
    obtain ⟨p', ws, rfl, hp', hd'⟩ := pu
    refine ⟨p, p', vs, ws, rfl, rfl, s3 _ _ hp, hp', by rw [hd1.length, hd'.length]; exact Nat.le_trans hz (by decide), fun q nq => ?_⟩
    have sn := same_new (o := .lst (vs ++ ws)) nq
    refine k q _ ((s2.trans s3).trans sn) ((s2.trans s3).free nq) ⟨⟨_, upd_same, ((hd1.same s3).append hd').same sn⟩, ?_, fun j hj => (List.mem_append.mp hj).elim (oka j) (okb j)⟩
    obtain ⟨ds, r, rfl⟩ := hd
    exact ⟨ds, r ++ jb, rfl⟩)) hi hx rfl hf⟩
/-- x = [..] -/
theorem ws_glst {i : Nat} {x : Str} {pos' p2 : Pos} (hN : X.N.Nodup) (h : PAj X es σ H js) (hz : js.length ≤ 2000000) (hd : ∃ ds r, js = .list ds :: r) (ok : ∀ j ∈ js, Sc2 j)
    (k : ∀ p H1, Same H H1 → H p = none → GW H1 p js → D.nx (σ.set i (some (.ref p))) H1) (hi : X.N[i]? = some x := by rfl) (hx : Loc X.env.scope x := by first | exact Or.inl rfl | exact Or.inr rfl)
    (hf : X.fn x = true ∨ X.env.scope.names.lookup x = some .local := by first | exact .inl rfl | exact .inr rfl | assumption) : WZ X (.Assign [.Name x pos'] (.List es p2) pos) D σ H :=
  ⟨ws_ev hN (ev_of (pe_lst pa_s) (h.t (Same.refl _) fun vs H2 s2 pd => ⟨by rw [pd.length]; exact Nat.le_trans hz (by decide), fun q nq => by
    have sn := same_new (o := .lst vs) nq
    exact k q _ (s2.trans sn) (s2.free nq) ⟨⟨_, upd_same, pd.same sn⟩, hd, ok⟩⟩)) hi hx rfl hf⟩
/-- x.append(e) -/
theorem ws_gapp {x : Str} {p1 : Pos} {g : Addr} (ho : PV X (.Name x p1) σ H (.v (.ref g))) (G : GW H g js) (hz : js.length < 2000000) (h : PV X e σ H (.j d)) (ok : Sc2 d)
    (k : ∀ H1 zs, Same H H1 → GW H1 g js → GW (L2.upd H1 g (.lst zs)) g (js ++ [d]) → D.nx σ (L2.upd H1 g (.lst zs)))
    (hbase : attributeBase (.Name x p1) "append" X.env (eval (.Name x p1) X.env) = eval (.Name x p1) X.env := by rfl) (hline : (apos.endLine == cpos.line) = true := by rfl) (n : NoSt e = true := by rfl)
    (hs : swapsWith (.Call (.Attribute (.Name x p1) "append" apos) [e] [] cpos) none pos.line X.env = pure false := by rfl)
    (hfew : ((backTo cpos (starEach [e] X.env)).all (fun x => !x.1) && (backToKw cpos (keywordEach [] X.env)).all (fun x => x.1.isSome) && decide ([e].length + ([] : List Keyword).length + (if ([] : List Keyword).isEmpty then 0 else 1) < 30)) = true := by rfl) :
    WZ X (.Expr (.Call (.Attribute (.Name x p1) "append" apos) [e] [] cpos) pos) D σ H := by
  obtain ⟨xs, ex, hx⟩ := G.ex
  exact ⟨ws_append ho ex (by rw [hx.length]; exact hz) h (fun v H1 s1 p => by
    have G1 := G.same s1
    have e1 := s1 _ _ ex
    have p : JI H1 v d := p
    refine k H1 _ s1 G1 ⟨⟨_, upd_same, ((JIs.up G1 (hx.same s1))).append (.cons (p.up G1) .nil)⟩, ?_, fun j hj => (List.mem_append.mp hj).elim (G.ok j) fun h => by rw [List.mem_singleton.mp h]; exact ok⟩
    obtain ⟨ds, r, rfl⟩ := G.hd
    exact ⟨ds, r ++ [d], rfl⟩) hbase hline hs hfew (noSt n _) rfl⟩
/-- l == [] -/
def rLL (K : PySem.W.Frag) : R2 := fun x y H Q => ∃ a b : List Pat, Dp K H x (Datum.toD a) ∧ Dp K H y (Datum.toD b) ∧ Q (.bl (decide (a = b))) H
theorem op_eqLL (hu : X.A.units + 64 < cLine) : OpR X (compareOp .Eq) (rLL X.K) := fun pins s σ H x y v u Q I rx ry ⟨a, b, ha, hb, q⟩ =>
  PySem.W.eq_datum (Dp.reads I _ _ _ ha rx) (Dp.reads I _ _ _ hb ry) (hu_dep hu (by decide)) ⟨.bl _, H, I, rfl, q⟩
theorem pv_eqNil {l : Addr} {vs : List V} {xs : List Pat} {p : Pos} (ha : PV X a σ H (.v (.ref l))) (hl : H l = some (.lst vs)) (hs : HDs H vs xs) (hu : X.A.units + 64 < cLine := by assumption) : PV X (.Compare a [.Eq] [.List [] p] pos) σ H (.b (decide (xs = []))) :=
  pv_cmp (rb := .l []) (op_eqLL hu) ha (pv_lst pad_nil) (fun H0 H' u v s0 s1 px py Q q => by
    have px : u = .ref l := px
    obtain ⟨p, ws, rfl, _, hp, hd⟩ := py
    cases hd
    have s := s0.trans s1
    exact ⟨xs, [], by rw [px]; exact .lst (SqL.of (s _ _ hl)) (hs.same s).dp, .lst (SqL.of hp) .nil, q _ H' (Same.refl _) (DI.bl _)⟩)
theorem pv_lcount {l : Addr} {vs : List V} {ns : List Int} {k : Int} (ho : PV X o σ H (.v (.ref l))) (hl : H l = some (.lst vs)) (hs : HDs H vs ns) (he : PV X e σ H (.i k))
    (hbase : attributeBase o "count" X.env (eval o X.env) = eval o X.env := by rfl) (hline : (apos.endLine == cpos.line) = true := by rfl)
    (hfew : ((backTo cpos (starEach [e] X.env)).all (fun x => !x.1) && (backToKw cpos (keywordEach [] X.env)).all (fun x => x.1.isSome) && decide ([e].length + ([] : List Keyword).length + (if ([] : List Keyword).isEmpty then 0 else 1) < 30)) = true := by rfl)
    (hst : starEach [e] X.env = (false, eval e X.env) :: starEach [] X.env := by rfl) (hplain : (backTo cpos (starEach [] X.env)).any (·.1) = false := by rfl) : PV X (.Call (.Attribute o "count" apos) [e] [] cpos) σ H (.i (ns.count k : Nat)) :=
  .of (pe_bm PySem.F.plainAttrs_list PySem.F.slot_list_count PySem.F.type_list_count mt_lcount pe_s pa_s (hbase := hbase) (hfew := hfew) (hline := hline) (hs := hst) (hplain := hplain)) fun H1 h1 => ho.t h1 fun v H2 s2 pv => by
    have pv : v = .ref l := pv
    subst pv
    refine ⟨.inl ⟨rfl, _, SqL.of ((h1.trans s2) _ _ hl)⟩, PAs.t (pas_cons he pas_nil hst) (h1.trans s2) fun vs3 H3 s3 pr => ?_⟩
    obtain ⟨z, rfl, pz⟩ := rsl1 pr
    have hs3 := hs.same ((h1.trans s2).trans s3)
    refine ⟨l, ns, k, rfl, by rw [Rs.pI pz], ?_, s2.trans s3, DI.int _⟩
    rw [← dis_ints hs3]
    exact SqL.of (((h1.trans s2).trans s3) _ _ hl)
end
/-! ### _law_same of two such lists -/
def L0 : Hp → V → V → Prop := fun _ _ _ => False
abbrev LL1 := LiftS L0
abbrev LL2 := LiftS LL1
abbrev LL3 := LiftS LL2
abbrev LL4 := LiftS LL3
theorem sc1_ll {H : Hp} {v u : V} {d : PyData} (h : Sc1 d) (hv : DI H v d) (hu : DI H u d) : LL2 H v u := by
  cases h with
  | s h => exact .inl ⟨d, h, hv, hu⟩
  | @t ds h hl => cases hv with
    | tup e hs => cases hu with
      | tup e' hs' =>
        refine .inr ⟨false, _, _, _, _, rfl, rfl, .inr ⟨rfl, e.rd⟩, .inr ⟨rfl, e'.rd⟩, by rw [hs.length, hs'.length], by rw [hs.length]; exact hl, fun m x y H1 s hx hy => ?_⟩
        obtain ⟨d1, e1, k1⟩ := hs.get' hx
        obtain ⟨d2, e2, k2⟩ := hs'.get' hy
        rw [e1] at e2
        cases e2
        exact .inl ⟨d1, h d1 (List.mem_of_getElem? e1), k1.same s, k2.same s⟩
theorem sc2_ll {H : Hp} {v u : V} {d : PyData} (h : Sc2 d) (hv : JI H v d) (hu : JI H u d) : LL3 H v u := by
  cases h with
  | s h =>
    have sc : ∀ {w : V}, JI H w d → DI H w d := fun k => by
      cases k with
      | d k => exact k
      | l _ _ => cases h
    exact .inl ⟨d, h, sc hv, sc hu⟩
  | @l ds h hl =>
    obtain ⟨p, xs, rfl, e, hs⟩ := hv.lst
    obtain ⟨q, ys, rfl, e', hs'⟩ := hu.lst
    refine .inr ⟨true, p, q, xs, ys, rfl, rfl, .inl ⟨rfl, e⟩, .inl ⟨rfl, e'⟩, by rw [hs.length, hs'.length], by rw [hs.length]; exact hl, fun m x y H1 s hx hy => ?_⟩
    obtain ⟨d1, e1, k1⟩ := hs.get' hx
    obtain ⟨d2, e2, k2⟩ := hs'.get' hy
    rw [e1] at e2
    cases e2
    exact sc1_ll (h d1 (List.mem_of_getElem? e1)) (k1.same s) (k2.same s)
theorem gw_ll {H : Hp} {g d : Addr} {js : List PyData} (G : GW H g js) (D : GW H d js) (hz : js.length ≤ 2000000) : LL4 H (.ref g) (.ref d) := by
  obtain ⟨xs, e, hx⟩ := G.ex
  obtain ⟨ys, e', hy⟩ := D.ex
  refine .inr ⟨true, g, d, xs, ys, rfl, rfl, .inl ⟨rfl, e⟩, .inl ⟨rfl, e'⟩, by rw [hx.length, hy.length], by rw [hx.length]; exact hz, fun m x y H1 s ex ey => ?_⟩
  obtain ⟨d1, e1, k1⟩ := hx.get' ex
  obtain ⟨d2, e2, k2⟩ := hy.get' ey
  rw [e1] at e2
  cases e2
  exact sc2_ll (G.ok d1 (List.mem_of_getElem? e1)) (k1.same s) (k2.same s)
section
variable {P : Program} {w : World} {K : PySem.W.Frag} {mg : Str → Option Value} {base : Heap}
theorem ok_same (T : Txt K mg) : Dfn P w K mg base 4 "_law_same" ["_law_got", "_law_due_so"] (spSame LL4) :=
  same_step T (.inl (same_step T (.inl (same_step T (.inl (same_step (k := 0) (R := L0) T (.inr fun _ _ _ h => h)))))))
end
end Bx
set_option Elab.async false
set_option linter.all false
set_option maxRecDepth 100000
set_option maxHeartbeats 4000000
/-! G1: what _law_pattern_right gathers. -/
namespace Bx
open PySem PySem.Spec PyProof.Rows L2
open PySem.W (Datum DatumOrd Holds HoldAll T3 T4 Tup EachIs minOf)
theorem leastT_head {P : List Bond} (ok : PatOk P) : leastT P = ((manyM P).map (Datum.toD (α := Int)) ++ [PyData.none]).headD PyData.none := by
  unfold leastT
  rcases many_head ok with ⟨h1, h2⟩ | ⟨t, r, h1, h2⟩
  · rw [h1, h2]; rfl
  · rw [h1, h2]; rfl
theorem leastT_many {P P' : List Bond} (ok : PatOk P) (ok' : PatOk P') (h : manyM P' = manyM P) : leastT P' = leastT P := by
  rw [leastT_head ok, leastT_head ok', h]
theorem many_first {P : List Bond} (ok : PatOk P) : ((manyM P).map (Datum.toD (α := Int)) ++ [PyData.none])[0]? = some (leastT P) := by
  rw [leastT_head ok]
  cases manyM P <;> rfl
theorem scal_leastT (P : List Bond) : Scal (leastT P) := by
  unfold leastT
  cases leastM P with
  | none => exact .non
  | some t => exact .int _
theorem leastR_none {P : List Bond} (ok : PatOk P) : isNone (leastR P) = decide (ringsM P = []) := by
  unfold leastR
  cases h : leastM P with
  | none => rw [decide_eq_true (least_no_ring ok h)]; rfl
  | some t =>
    obtain ⟨m, s, _, ro, _⟩ := least_ring_is ok h
    have hm : (⟨m :: s⟩ : Pat) ∈ ringsM P := (mem_ringsM ok).mpr ⟨m, s, rfl, ro⟩
    rw [decide_eq_false (fun e => by rw [e] at hm; cases hm)]
    rfl
theorem ringB_ok {P : List Bond} {x : Bond} {r : List Bond} (ro : RingOk P x r) : ringB P x r = true := by
  unfold ringB
  rw [round_ring ro, min_ring ro, decide_eq_true rfl, Bool.and_true, Bool.and_true]
  exact List.all_eq_true.mpr fun b hb => decide_eq_true (ro.path.mem b hb)
theorem many_len {P : List Bond} (ok : PatOk P) : (manyM P).length ≤ 262144 := by
  unfold manyM
  rw [length_sortO, List.length_map]
  exact ringsM_len ok
theorem sc2_ints {ns : List Int} (h : ns.length ≤ 2000000) : Sc2 (.list (ns.map (Datum.toD (α := Int)))) := .l (fun d hd => by
  obtain ⟨n, _, rfl⟩ := List.mem_map.mp hd
  exact .s (.int n)) (by rw [List.length_map]; exact h)
theorem sc2_strs {ns : List Str} (h : ns.length ≤ 2000000) : Sc2 (.list (ns.map (Datum.toD (α := Str)))) := .l (fun d hd => by
  obtain ⟨n, _, rfl⟩ := List.mem_map.mp hd
  exact .s (.str n)) (by rw [List.length_map]; exact h)
theorem sc2_bonds {ns : List Bond} (h : ns.length ≤ 2000000) : Sc2 (.list (ns.map (Datum.toD (α := Bond)))) := .l (fun d hd => by
  obtain ⟨b, _, rfl⟩ := List.mem_map.mp hd
  refine .t (fun d hd => ?_) (by show 4 ≤ 2000000; decide)
  have hd : d ∈ [PyData.str b.a, .str b.b, .str b.c, .str b.d] := hd
  simp only [List.mem_cons, List.not_mem_nil, or_false] at hd
  rcases hd with rfl | rfl | rfl | rfl <;> exact .str _) (by rw [List.length_map]; exact h)
/-- what stands by the lists got and due -/
structure PRF (P : List Bond) (v : V) (pe : Addr) (es : List V) (vt : V) (pm : Addr) (ms : List V) (H : Hp) : Prop where
  v : HD H v (Tup.mk P)
  e : H pe = some (.lst es)
  es : HDs H es (ringsM P)
  t : DI H vt (leastR P)
  m : H pm = some (.lst ms)
  ms : HDs H ms (manyM P)
section
variable {P : List Bond} {v vt : V} {pe pm : Addr} {es ms : List V} {H H' : Hp} {g d : Addr} {J K : List PyData}
theorem PRF.same (h : PRF P v pe es vt pm ms H) (s : Same H H') : PRF P v pe es vt pm ms H' := ⟨h.v.same s, s _ _ h.e, h.es.same s, h.t.same s, s _ _ h.m, h.ms.same s⟩
theorem PRF.up {zs : List V} (h : PRF P v pe es vt pm ms H) (G : GW H g J) : PRF P v pe es vt pm ms (L2.upd H g (.lst zs)) := by
  obtain ⟨xs, ex, _⟩ := G.ex
  have t := TK.updL (o := .lst zs) ex
  exact ⟨h.v.ts t, by rw [upd_ne (G.ne h.e h.es)]; exact h.e, h.es.ts t, h.t.ts t, by rw [upd_ne (G.ne h.m h.ms)]; exact h.m, h.ms.ts t⟩
theorem ne_new {p : Addr} (G : GW H g J) (n : H p = none) : p ≠ g := fun z => by
  obtain ⟨xs, ex, _⟩ := G.ex
  rw [← z, n] at ex
  cases ex
structure GD (H0 : Hp) (P : List Bond) (v : V) (pe : Addr) (es : List V) (vt : V) (pm : Addr) (ms : List V) (g d : Addr) (J K : List PyData) (H : Hp) : Prop where
  s : Same H0 H
  f : PRF P v pe es vt pm ms H
  wg : GW H g J
  wd : GW H d K
  ne : g ≠ d
  ng : H0 g = none
  nd : H0 d = none
variable {H0 : Hp}
theorem GD.same (h : GD H0 P v pe es vt pm ms g d J K H) (s : Same H H') : GD H0 P v pe es vt pm ms g d J K H' := ⟨h.s.trans s, h.f.same s, h.wg.same s, h.wd.same s, h.ne, h.ng, h.nd⟩
theorem GD.newG {p : Addr} {J' : List PyData} (h : GD H0 P v pe es vt pm ms g d J K H) (s : Same H H') (n : H p = none) (G : GW H' p J') : GD H0 P v pe es vt pm ms p d J' K H' :=
  ⟨h.s.trans s, h.f.same s, G, h.wd.same s, ne_new h.wd n, h.s.free n, h.nd⟩
theorem GD.newD {p : Addr} {K' : List PyData} (h : GD H0 P v pe es vt pm ms g d J K H) (s : Same H H') (n : H p = none) (G : GW H' p K') : GD H0 P v pe es vt pm ms g p J K' H' :=
  ⟨h.s.trans s, h.f.same s, h.wg.same s, G, (ne_new h.wg n).symm, h.ng, h.s.free n⟩
theorem GD.appG {zs : List V} {J' : List PyData} (h : GD H0 P v pe es vt pm ms g d J K H) (G : GW (L2.upd H g (.lst zs)) g J') : GD H0 P v pe es vt pm ms g d J' K (L2.upd H g (.lst zs)) :=
  ⟨Same.updN h.s h.ng, h.f.up h.wg, G, h.wd.up h.wg (Ne.symm h.ne), h.ne, h.ng, h.nd⟩
theorem GD.appD {zs : List V} {K' : List PyData} (h : GD H0 P v pe es vt pm ms g d J K H) (G : GW (L2.upd H d (.lst zs)) d K') : GD H0 P v pe es vt pm ms g d J K' (L2.upd H d (.lst zs)) :=
  ⟨Same.updN h.s h.nd, h.f.up h.wd, h.wg.up h.wd h.ne, G, h.ne, h.ng, h.nd⟩
end
/-- the other names: a list, or a text -/
def NewR (H : Hp) (nw : V) (new : List Str) : Prop := (∃ l us, nw = .ref l ∧ H l = some (.lst us) ∧ HDs H us new) ∨ ∃ z, nw = .str z ∧ charsD z = new.map (Datum.toD (α := Str))
theorem NewR.same {H H' : Hp} {nw : V} {new : List Str} (h : NewR H nw new) (s : Same H H') : NewR H' nw new := by
  rcases h with ⟨l, us, e, h, k⟩ | h
  · exact .inl ⟨l, us, e, s _ _ h, k.same s⟩
  · exact .inr h
abbrev spPR : Sp := spY (fun (y : List Bond × List Str) vs H => ∃ v nw, vs = [v, nw] ∧ HD H v (Tup.mk y.1) ∧ PatOk y.1 ∧ NewR H nw y.2 ∧ y.2.Nodup ∧ 5 ≤ y.2.length ∧ ∀ x ∈ y.2, x ∈ letters) fun _ => .b true
theorem names_ne {P : List Bond} (ok : PatOk P) : namesM P ≠ [] := fun e => by
  obtain ⟨b, r, rfl⟩ := List.exists_cons_of_ne_nil ok.ne
  have : b.a ∈ namesM (b :: r) := namesM_mem.mpr ⟨b, List.mem_cons_self, .inl rfl⟩
  rw [e] at this
  cases this
theorem ren_pre {P : List Bond} (ok : PatOk P) {new : List Str} (nd : new.Nodup) (hl : 5 ≤ new.length) (lt : ∀ x ∈ new, x ∈ letters) : RenPre (P, (namesM P).zip new) := by
  obtain ⟨h1, h2, h3, h4⟩ := ren_nd ok nd hl lt
  have few := ok.few
  refine ⟨by show P.length ≤ 30; omega, by show ((namesM P).zip new).length ≤ 30; omega, fun e => ?_, h1, h2, h3⟩
  have e : (namesM P).zip new = [] := e
  rcases List.zip_eq_nil_iff.mp e with h | h
  · exact names_ne ok h
  · rw [h] at hl; simp at hl
end Bx
set_option Elab.async false
set_option linter.all false
set_option maxRecDepth 100000
set_option maxHeartbeats 6000000
/-! G2: _law_pattern_right. -/
namespace Bx
open PySem PySem.Spec PyProof.Rows L2
open PySem.W (Datum DatumOrd Holds HoldAll T3 T4 Tup EachIs minOf)
theorem prq {H0 H' : Hp} {vs : List V} {α : Type} [DecidableEq α] [Datum α] {x : α} (pr : RsL [Rs.t x] H0 vs H') : ∃ v, vs = [v] ∧ HD H' v x := by
  obtain ⟨u, rfl, pu⟩ := rsl1 pr
  exact ⟨u, rfl, pu⟩
section
variable {X : Cx} {e : Expr} {σ : St} {H : Hp} {pos : Pos}
theorem wb_cut {st : Stmt} {sts : List Stmt} {D : Ends} (Mid : St → Hp → Prop) (h : WS X st { D with nx := Mid } σ H) (k : ∀ σ' H', Mid σ' H' → WB X sts D σ' H') : WB X (st :: sts) D σ H := fun pins s I => (C8.pss_cut ps_w pss_w).run pins s σ H D I ⟨Mid, h, k⟩
/-- tuple(zip(e, new)) -/
theorem pv_tupZN {x : Str} {p p2 q pz : Pos} {nw : V} {names new : List Str} (i : Nat) (hc : X.calm = true) (hm : X.mg "tuple" = none) (hm2 : X.mg "zip" = none) (h1 : PV X e σ H (.t (Tup.mk names))) (hσ : σ[i]? = some (some nw)) (hw : NewR H nw new) (hn : names.length ≤ new.length) (hz : names.length ≤ 1000000)
    (hN : X.N[i]? = some x := by rfl) (hv : Vis X.env.scope x := by first | exact Or.inl rfl | exact Or.inr (Or.inl rfl) | exact Or.inr (Or.inr rfl)) (hd : (x == ("__debug__" : Str)) = false := by decide) (hcd : (x == ("__classdict__" : Str)) = false := by decide)
    (hg : Gl X "tuple" := by rfl) (hg2 : Gl X "zip" := by rfl) (hs : starEach [e, .Name x p] X.env = (false, eval e X.env) :: starEach [.Name x p] X.env := by rfl) :
    PV X (.Call (.Name "tuple" pz) [.Call (.Name "zip" p2) [e, .Name x p] [] q] [] pos) σ H (.t (Tup.mk (names.zip new))) := by
  have fin : ∀ {r : Rs}, PV X (.Name x p) σ H r → LSrc X H r (new.map (Datum.toD (α := Str))) → PV X (.Call (.Name "tuple" pz) [.Call (.Name "zip" p2) [e, .Name x p] [] q] [] pos) σ H (.t (Tup.mk (names.zip new))) := fun h2 l2 =>
    PV.is (pv_tupleZip hc hm hm2 h1 h2 (lsrc_tup (ds := names.map Datum.toD)) l2 (by rw [List.length_map, List.length_map]; exact hn) (by rw [List.length_map]; exact hz) hg hg2 hs) (by
      rw [zipD_toD]; rfl)
  rcases hw with ⟨l, us, rfl, hl, hus⟩ | ⟨z, rfl, hz⟩
  · exact fin (pv_name i hσ hN hv hd hcd) (lsrc_var hl hus)
  · exact fin (pv_dat i hσ (DI.str z) hN hv hd hcd) (by rw [← hz]; exact lsrc_str)
end
section
variable {P : Program} {w : World} {K : PySem.W.Frag} {mg : Str → Option Value} {base : Heap}
theorem ok_pr (T : Txt K mg) : Dfn P w K mg base 8 "_law_pattern_right" ["_law_pattern_so", "_law_new_so"] spPR := by
  refine dfn_of T.h_l_pattern_right sc_l_pattern_right (fun vs H Q E h => ?_) (fun f cdv A outer s H vs Q E hr h => ?_)
  · obtain ⟨_, ⟨_, _, rfl, _⟩, _⟩ := h; rfl
  · obtain ⟨⟨y, new⟩, ⟨v, nw, rfl, hv, ok, hnw, nnd, n5, nlt⟩, q⟩ := h
    have hu := hr.units
    dsimp only at hv ok hnw nnd n5 nlt q
    have few := ok.few
    have nd := sc_l_pattern_right.nd
    have oT := turned_ok ok
    have oR := ren_ok ok nnd n5 nlt
    have rl := ringsM_len ok
    have ml := many_len ok
    -- every, told = rings(pattern), least_ring(pattern)
    refine wb_cons ?_
    refine ws_par 2 3 nd rfl (ra := .ts (ringsM y)) (rb := .d (leastR y)) (pv_cal (ok_rings T) hr (pas_cons (pv_dat 0 rfl hv) pas_nil) y fun H0 H' vs s0 s1 pr => ?_) (pv_cal (ok_least_ring T) hr (pas_cons (pv_dat 0 rfl hv) pas_nil) y fun H0 H' vs s0 s1 pr => ?_) fun v1 vt H1 s1 p1 p2 => ?_
    · obtain ⟨u, e, pu⟩ := prq pr; exact ⟨u, e, pu, ok⟩
    · obtain ⟨u, e, pu⟩ := prq pr; exact ⟨u, e, pu, ok⟩
    obtain ⟨pe, es, rfl, npe, he, hes⟩ := p1
    have hes : HDs H1 es (ringsM y) := hes
    have ht : DI H1 vt (leastR y) := p2
    have hv1 := hv.same s1
    -- back = turned_about(pattern)
    refine wb_cons ?_
    refine ws_set (i := 4) (r := .t (Tup.mk (turnedM y))) nd (pv_cal (ok_turned_about T) hr (pas_cons (pv_dat 0 rfl hv1) pas_nil) y fun H0 H' vs s0 s1 pr => ?_) fun vb H2 s2 p2 => ?_
    · obtain ⟨u, e, pu⟩ := prq pr; exact ⟨u, e, pu, by show y.length ≤ 1000; omega⟩
    have hb2 : HD H2 vb (Tup.mk (turnedM y)) := p2
    have hv2 := hv1.same s2
    have hnw2 := hnw.same (s1.trans s2)
    -- other = renamed(pattern, tuple(zip(names_of(pattern), new)))
    refine wb_cons ?_
    refine ws_set (i := 5) (r := .t (Tup.mk (renamedM y ((namesM y).zip new)))) nd (pv_cal (ok_renamed T) hr (pas_cons (pv_dat 0 rfl hv2) (pas_cons (pv_tupZN (names := namesM y) 1 rfl T.b_tuple T.b_zip (pv_cal (ok_names_of T) hr (pas_cons (pv_dat 0 rfl hv2) pas_nil) y fun H0 H' vs s0 s1 pr => ?_) rfl hnw2 (by
      have := ok.names; rw [namesM_len]; omega) (by have := ok.names; rw [namesM_len]; omega)) pas_nil)) (y, (namesM y).zip new) fun H0 H' vs s0 s1 pr => ?_) fun vo H3 s3 p3 => ?_
    · obtain ⟨u, e, pu⟩ := prq pr; exact ⟨u, e, pu, by show y.length ≤ 30; omega⟩
    · obtain ⟨z1, z2, e, a1, a2⟩ := rsl2 pr
      exact ⟨z1, z2, e, a1, a2, ren_pre ok nnd n5 nlt⟩
    have ho3 : HD H3 vo (Tup.mk (renamedM y ((namesM y).zip new))) := p3
    have hv3 := hv2.same s3
    have s23 := s2.trans s3
    have he3 := s23 _ _ he
    have hes3 := hes.same s23
    have hb3 := hb2.same s3
    -- many = sorted([turns(own) for own in every])
    refine wb_cons ?_
    refine ws_set (i := 6) (r := .ts (manyM y)) nd (pv_sortN (xs := (ringsM y).map fun (q : Pat) => turnsM q.items) T.b_sorted (PV.is (pv_lc0 (g := gName 9) (xs := ringsM y) (enc := Datum.toD) (f := fun (q : Pat) => .int (turnsM q.items)) rfl nd (pit_lst (pv_name 2 rfl) he3 hes3) (blkOk_by (own := [("_law_own", 9)]) rfl)
      (fun _ _ _ _ _ => pg_name (i := 9) nd rfl (Or.inl rfl)) (by omega) (fun b v' H9 hb h1 dv => gto_name ⟨rfl, fun s0 H0 C cl fp => pv_cal (ok_turns T) hr (pas_cons (pv_dat 9 rfl dv) pas_nil) b.items fun H0 H' vs s0 s1 pr => ?_⟩)) (by
        show Rs.l _ = Rs.l _; rw [List.map_map]; rfl)) (sortable_int _)) fun v4 H4 s4 p4 => ?_
    · obtain ⟨z, e, pz⟩ := prq pr
      obtain ⟨x, r, rfl, o⟩ := (mem_ringsM ok).mp hb
      have := ring_len ok o
      exact ⟨z, e, pz, by simp only [List.length_cons]; omega, by simp⟩
    obtain ⟨pm, ms, rfl, npm, hm, hms⟩ := p4
    have hms : HDs H4 ms (manyM y) := hms
    have F4 : PRF y v pe es vt pm ms H4 := ⟨hv3.same s4, s4 _ _ he3, hes3.same s4, DI.same (s23.trans s4) ht, hm, hms⟩
    have hb4 := hb3.same s4
    have ho4 := ho3.same s4
    have sH4 := s1.trans (s23.trans s4)
    clear hv1 hv2 hv3 hnw2 he he3 hes hes3 ht hb2 hb3 ho3 hm hms p2 p3 npe npm
    -- got = [sorted(..), sorted(..)]
    refine wb_cons (WZ.run ?_)
    refine ws_glst (i := 7) nd (js := [.list ((manyM y).map Datum.toD), .list ((manyM y).map Datum.toD)]) (paj_cons (PV.jl (PV.is (pv_sortN (xs := (ringsM (turnedM y)).map fun (q : Pat) => turnsM q.items) T.b_sorted (PV.is (pv_lc0 (g := gName 9) (xs := ringsM (turnedM y)) (enc := Datum.toD) (f := fun (q : Pat) => .int (turnsM q.items)) rfl nd (pit_new (pv_cal (ok_rings T) hr (pas_cons (pv_dat 4 rfl hb4) pas_nil) (turnedM y) fun H0 H' vs s0 s1 pr => ?_)) (blkOk_by (own := [("_law_own", 9)]) rfl)
      (fun _ _ _ _ _ => pg_name (i := 9) nd rfl (Or.inl rfl)) (by have := ringsM_len oT; omega) (fun b v' H9 hb h1 dv => gto_name ⟨rfl, fun s0 H0 C cl fp => pv_cal (ok_turns T) hr (pas_cons (pv_dat 9 rfl dv) pas_nil) b.items fun H0 H' vs s0 s1 pr => ?_⟩)) (by
        show Rs.l _ = Rs.l _; rw [List.map_map]; rfl)) (sortable_int _)) (show Rs.ts (manyM (turnedM y)) = Rs.ts (manyM y) by rw [turned_many ok])))
      (paj_cons (PV.jl (PV.is (pv_sortN (xs := (ringsM (renamedM y ((namesM y).zip new))).map fun (q : Pat) => turnsM q.items) T.b_sorted (PV.is (pv_lc0 (g := gName 9) (xs := ringsM (renamedM y ((namesM y).zip new))) (enc := Datum.toD) (f := fun (q : Pat) => .int (turnsM q.items)) rfl nd (pit_new (pv_cal (ok_rings T) hr (pas_cons (pv_dat 5 rfl ho4) pas_nil) (renamedM y ((namesM y).zip new)) fun H0 H' vs s0 s1 pr => ?_)) (blkOk_by (own := [("_law_own", 9)]) rfl)
      (fun _ _ _ _ _ => pg_name (i := 9) nd rfl (Or.inl rfl)) (by have := ringsM_len oR; omega) (fun b v' H9 hb h1 dv => gto_name ⟨rfl, fun s0 H0 C cl fp => pv_cal (ok_turns T) hr (pas_cons (pv_dat 9 rfl dv) pas_nil) b.items fun H0 H' vs s0 s1 pr => ?_⟩)) (by
        show Rs.l _ = Rs.l _; rw [List.map_map]; rfl)) (sortable_int _)) (show Rs.ts (manyM (renamedM y ((namesM y).zip new))) = Rs.ts (manyM y) by rw [ren_many ok nnd n5 nlt]))) paj_nil))
      (by simp) ⟨_, _, rfl⟩ (fun j hj => ?_) fun g H5 s5 ng G5 => ?_
    · obtain ⟨u, e, pu⟩ := prq pr; exact ⟨u, e, pu, oT⟩
    · obtain ⟨z, e, pz⟩ := prq pr
      obtain ⟨x, r, rfl, o⟩ := (mem_ringsM oT).mp hb
      have := ring_len oT o
      exact ⟨z, e, pz, by simp only [List.length_cons]; omega, by simp⟩
    · obtain ⟨u, e, pu⟩ := prq pr; exact ⟨u, e, pu, oR⟩
    · obtain ⟨z, e, pz⟩ := prq pr
      obtain ⟨x, r, rfl, o⟩ := (mem_ringsM oR).mp hb
      have := ring_len oR o
      exact ⟨z, e, pz, by simp only [List.length_cons]; omega, by simp⟩
    · have : j = .list ((manyM y).map Datum.toD) := by simpa using hj
      rw [this]; exact sc2_ints (by omega)
    -- due = [many, many]
    have F5 := F4.same s5
    refine wb_cons (WZ.run ?_)
    refine ws_glst (i := 8) nd (js := [.list ((manyM y).map Datum.toD), .list ((manyM y).map Datum.toD)]) (paj_cons (PV.jv (pv_name 6 rfl) F5.m F5.ms) (paj_cons (PV.jv (pv_name 6 rfl) F5.m F5.ms) paj_nil)) (by simp) ⟨_, _, rfl⟩ (fun j hj => ?_) fun d H6 s6 ndd G6 => ?_
    · have : j = .list ((manyM y).map Datum.toD) := by simpa using hj
      rw [this]; exact sc2_ints (by omega)
    have W6 : GD H y v pe es vt pm ms g d [.list ((manyM y).map Datum.toD), .list ((manyM y).map Datum.toD)] [.list ((manyM y).map Datum.toD), .list ((manyM y).map Datum.toD)] H6 :=
      ⟨sH4.trans (s5.trans s6), F5.same s6, G5.same s6, G6, (ne_new G5 ndd).symm, sH4.free ng, sH4.free (s5.free ndd)⟩
    have hb6 := hb4.same (s5.trans s6)
    have ho6 := ho4.same (s5.trans s6)
    have js0 : ∀ j ∈ [PyData.list ((manyM y).map Datum.toD), .list ((manyM y).map Datum.toD)], Sc2 j := G6.ok
    clear F4 F5 G5 G6 ng ndd hb4 ho4
    -- got = got + [least_turns(back), least_turns(other), (many + [None])[0], told is None]
    refine wb_cons (WZ.run ?_)
    have F6 := W6.f
    refine ws_gcat (i := 7) nd (ja := [.list ((manyM y).map Datum.toD), .list ((manyM y).map Datum.toD)]) (jb := [leastT y, leastT y, leastT y, .bool (decide (ringsM y = []))]) (pv_jvar (pv_name 7 rfl) W6.wg)
      (pv_jlst (paj_cons (PV.jd (PV.is (pv_cal (ok_least_turns T) hr (pas_cons (pv_dat 4 rfl hb6) pas_nil) (turnedM y) fun H0 H' vs s0 s1 pr => ?_) (congrArg Rs.d (leastT_many ok oT (turned_many ok)))))
        (paj_cons (PV.jd (PV.is (pv_cal (ok_least_turns T) hr (pas_cons (pv_dat 5 rfl ho6) pas_nil) (renamedM y ((namesM y).zip new)) fun H0 H' vs s0 s1 pr => ?_) (congrArg Rs.d (leastT_many ok oR (ren_many ok nnd n5 nlt)))))
        (paj_cons (PV.jd (pv_ixN (i := 0) (ds := (manyM y).map (Datum.toD (α := Int)) ++ [PyData.none]) (pv_catL (pv_name 6 rfl) (pv_lst (pad_cons pv_non pad_nil)) (lstr_var F6.m F6.ms) lstr_new (by rw [List.length_map]; simp; omega)) pv_int (atI_zero (many_first ok))))
        (paj_cons (PV.jd (PV.is (pv_isN (pv_dat 3 rfl F6.t)) (congrArg Rs.b (leastR_none ok)))) paj_nil)))) (by simp)) (by simp) ⟨_, _, rfl⟩ js0 (fun j hj => ?_) fun g7 H7 s7 n7 G7 => ?_
    · obtain ⟨u, e, pu⟩ := prq pr; exact ⟨u, e, pu, oT⟩
    · obtain ⟨u, e, pu⟩ := prq pr; exact ⟨u, e, pu, oR⟩
    · simp only [List.mem_cons, List.not_mem_nil, or_false] at hj
      rcases hj with rfl | rfl | rfl | rfl
      · exact .s (scal_leastT y)
      · exact .s (scal_leastT y)
      · exact .s (scal_leastT y)
      · exact .s (.bl _)
    have W7 := W6.newG s7 n7 G7
    clear W6 F6 hb6 ho6 G7 n7
    -- due = due + [least_turns(pattern)] * 3 + [every == []]
    refine wb_cons (WZ.run ?_)
    have F7 := W7.f
    refine ws_gcat (i := 8) nd (ja := [.list ((manyM y).map Datum.toD), .list ((manyM y).map Datum.toD)] ++ [leastT y, leastT y, leastT y]) (jb := [.bool (decide (ringsM y = []))]) (pv_jcat (pv_jvar (pv_name 8 rfl) W7.wd) (pv_jrep3 (pv_jlst (paj_cons (PV.jd (pv_cal (ok_least_turns T) hr (pas_cons (pv_dat 0 rfl F7.v) pas_nil) y fun H0 H' vs s0 s1 pr => ?_)) paj_nil) (by simp)) pv_int) (by simp))
      (pv_jlst (paj_cons (PV.jd (pv_eqNil (pv_name 2 rfl) F7.e F7.es)) paj_nil) (by simp)) (by simp) ⟨_, _, rfl⟩ (fun j hj => ?_) (fun j hj => ?_) fun d8 H8 s8 n8 G8 => ?_
    · obtain ⟨u, e, pu⟩ := prq pr; exact ⟨u, e, pu, ok⟩
    · rcases List.mem_append.mp hj with hj | hj
      · exact js0 j hj
      · have : j = leastT y := by simpa using hj
        rw [this]; exact .s (scal_leastT y)
    · rw [List.mem_singleton.mp hj]; exact .s (.bl _)
    have W8 := W7.newD s8 n8 G8
    clear W7 F7 G8 n8
    have e8 : [PyData.list ((manyM y).map Datum.toD), .list ((manyM y).map Datum.toD)] ++ [leastT y, leastT y, leastT y] ++ [.bool (decide (ringsM y = []))] = [PyData.list ((manyM y).map Datum.toD), .list ((manyM y).map Datum.toD)] ++ [leastT y, leastT y, leastT y, .bool (decide (ringsM y = []))] := rfl
    rw [e8] at W8
    have J8 : ([PyData.list ((manyM y).map Datum.toD), .list ((manyM y).map Datum.toD)] ++ [leastT y, leastT y, leastT y, .bool (decide (ringsM y = []))]).length = 6 := rfl
    generalize [PyData.list ((manyM y).map Datum.toD), .list ((manyM y).map Datum.toD)] ++ [leastT y, leastT y, leastT y, .bool (decide (ringsM y = []))] = J at W8 J8
    -- got.append([how_many_rings(pattern, k) for k in range(6)])
    refine wb_cons (WZ.run ?_)
    have F8 := W8.f
    refine ws_gapp (d := .list ((List.range 6).map fun (k : Nat) => .int (((manyM y).count (k : Int) : Nat) : Int))) (pv_name 7 rfl) W8.wg (by omega) (PV.jl (PV.is (pv_lc0 (g := gName 12) (xs := List.range 6) (enc := fun (k : Nat) => .int (k : Int)) (f := fun (k : Nat) => .int ((((ringsM y).filter fun q => decide (turnsM q.items = (k : Int))).length : Nat) : Int)) rfl nd (PIt.weak (pit_range (n := 6) T.b_range pv_int (by decide))) (blkOk_by (own := [("_law_k", 12)]) rfl)
      (fun _ _ _ _ _ => pg_name (i := 12) nd rfl (Or.inl rfl)) (by simp) (fun k v' H9 hk h1 dv => gto_name ⟨rfl, fun s0 H0 C cl fp => pv_cal (ok_how T) hr (pas_cons (pv_dat 0 rfl (F8.v.same h1)) (pas_cons (pv_dat 12 rfl dv) pas_nil)) (y, (k : Int)) fun H0 H' vs s0 s1 pr => ?_⟩)) ?_)) ?_ fun H9 zs s9 G9 G9' => ?_
    · obtain ⟨z1, z2, rfl, a1, a2⟩ := rsl2 pr
      exact ⟨z1, by rw [Rs.pI a2], a1, ok⟩
    · show Rs.l _ = Rs.l _
      congr 1
      refine List.map_congr_left fun k _ => ?_
      rw [many_count]
    · refine .l (fun d hd => ?_) (by simp)
      obtain ⟨k, _, rfl⟩ := List.mem_map.mp hd
      exact .s (.int _)
    have W9 := (W8.same s9).appG G9'
    clear W8 F8 G9 G9'
    generalize L2.upd H9 g7 (.lst zs) = H10 at W9
    -- due.append([many.count(k) for k in range(6)])
    refine wb_cons (WZ.run ?_)
    have F9 := W9.f
    refine ws_gapp (d := .list ((List.range 6).map fun (k : Nat) => .int (((manyM y).count (k : Int) : Nat) : Int))) (pv_name 8 rfl) W9.wd (by omega) (PV.jl (pv_lc0 (g := gName 12) (xs := List.range 6) (enc := fun (k : Nat) => .int (k : Int)) (f := fun (k : Nat) => .int (((manyM y).count (k : Int) : Nat) : Int)) rfl nd (PIt.weak (pit_range (n := 6) T.b_range pv_int (by decide))) (blkOk_by (own := [("_law_k", 12)]) rfl)
      (fun _ _ _ _ _ => pg_name (i := 12) nd rfl (Or.inl rfl)) (by simp) (fun k v' H9 hk h1 dv => gto_name ⟨rfl, fun s0 H0 C cl fp => pv_lcount (pv_name 6 rfl) (h1 _ _ F9.m) (F9.ms.same h1) (pv_dat 12 rfl dv)⟩))) ?_ fun H11 zs2 s11 G11 G11' => ?_
    · refine .l (fun d hd => ?_) (by simp)
      obtain ⟨k, _, rfl⟩ := List.mem_map.mp hd
      exact .s (.int _)
    have W11 := (W9.same s11).appD G11'
    clear W9 F9 G11 G11'
    generalize L2.upd H11 d8 (.lst zs2) = H12 at W11
    have J11 : (J ++ [PyData.list ((List.range 6).map fun (k : Nat) => .int (((manyM y).count (k : Int) : Nat) : Int))]).length = 7 := by rw [List.length_append, J8]; rfl
    generalize J ++ [PyData.list ((List.range 6).map fun (k : Nat) => .int (((manyM y).count (k : Int) : Nat) : Int))] = J1 at W11 J11
    -- for own in every
    refine wb_cons ?_
    refine ws_forH (g := gName 9) (ds := (ringsM y).map Datum.toD) PassesOwn.never rfl (pit_lst (pv_name 2 rfl) W11.f.e W11.f.es) (pg_name (i := 9) nd rfl (Or.inr rfl))
      (fun H2 i σ' H' => Same H2 H' ∧ ∃ g d J o9, σ' = [some v, some nw, some (.ref pe), some vt, some vb, some vo, some (.ref pm), some (.ref g), some (.ref d), o9, none, none, none, none] ∧ GD H y v pe es vt pm ms g d J J H' ∧ J.length ≤ 7 + 5 * i)
      (fun H2 s2 => ⟨Same.refl _, g7, d8, J1, none, rfl, W11.same s2, by omega⟩) (fun H2 i σ' H' s2 _ p => p.1) (fun H2 i dd x σ' H3 s2 hd p H4 s4 dx => ?_) fun H2 σ' H3 s2 p => ?_
    · obtain ⟨sB, g, d, J, o9, rfl, W, hJ⟩ := p
      obtain ⟨q0, hq, rfl⟩ := map_some hd
      have hi := (List.getElem?_eq_some_iff.mp hq).1
      obtain ⟨b0, r0, rfl, ro⟩ := (mem_ringsM ok).mp (List.mem_of_getElem? hq)
      have rlen := ring_len ok ro
      have W := W.same s4
      have sB := sB.trans s4
      have dx : HD H4 x (Tup.mk (b0 :: r0)) := dx
      refine gto_name (wb_cons (WZ.run ?_))
      have F := W.f
      refine ws_gcat (i := 7) nd (ja := J) (jb := [.bool true, .int (turnsM (b0 :: r0)), .list ((sortO (ringN (b0 :: r0))).map Datum.toD), .bool true]) (pv_jvar (pv_name 7 rfl) W.wg)
        (pv_jlst (paj_cons (PV.jd (PV.is (pv_cal (ok_is_ring T) hr (pas_cons (pv_dat 0 rfl F.v) (pas_cons (pv_dat 9 rfl dx) pas_nil)) (y, b0, r0) fun H0 H' vs s0 s1 pr => ?_) (congrArg Rs.b (ringB_ok ro))))
          (paj_cons (PV.jd (pv_cal (ok_turns T) hr (pas_cons (pv_dat 9 rfl dx) pas_nil) (b0 :: r0) fun H0 H' vs s0 s1 pr => ?_))
          (paj_cons (PV.jl (pv_sortT (xs := ringN (b0 :: r0)) T.b_sorted (pv_cal (ok_ring_names T) hr (pas_cons (pv_dat 9 rfl dx) pas_nil) (b0 :: r0) fun H0 H' vs s0 s1 pr => ?_) (sortable_str _)))
          (paj_cons (PV.jd (PV.is (pv_eqT (α := Bond) (pv_minT (α := Bond) rfl T.b_min (pv_dat 9 rfl dx)) (pv_ixD (pv_dat 9 rfl dx) pv_int (atI_zero rfl))) (congrArg Rs.b (decide_eq_true (min_ring ro))))) paj_nil)))) (by simp)) (by simp; omega) W.wg.hd W.wg.ok (fun j hj => ?_) fun g5 H5 s5 n5 G5 => ?_
      · obtain ⟨z1, z2, e, a1, a2⟩ := rsl2 pr
        exact ⟨z1, z2, e, a1, a2, by show y.length ≤ 1000; omega, by show r0.length ≤ 50; omega, rlen.2, fun b hb => ok.wf b (ro.path.mem b hb)⟩
      · obtain ⟨z, e, pz⟩ := prq pr; exact ⟨z, e, pz, by simp only [List.length_cons]; omega, by simp⟩
      · obtain ⟨z, e, pz⟩ := prq pr; exact ⟨z, e, pz, by simp only [List.length_cons]; omega⟩
      · simp only [List.mem_cons, List.not_mem_nil, or_false] at hj
        rcases hj with rfl | rfl | rfl | rfl
        · exact .s (.bl _)
        · exact .s (.int _)
        · refine sc2_strs ?_
          rw [length_sortO]; unfold ringN; rw [List.length_map, List.length_cons]; omega
        · exact .s (.bl _)
      have W5 := W.newG s5 n5 G5
      have nB5 := sB.free n5
      have sB5 := sB.trans s5
      have dx5 := dx.same s5
      clear F G5 n5 W
      refine wb_cons (WZ.run ?_)
      have F := W5.f
      refine ws_gcat (i := 8) nd (ja := J) (jb := [.bool true, .int (turnsM (b0 :: r0)), .list ((sortO (ringN (b0 :: r0))).map Datum.toD), .bool true]) (pv_jvar (pv_name 8 rfl) W5.wd)
        (pv_jlst (paj_cons (PV.jd pv_bool)
          (paj_cons (PV.jd (PV.is (pv_lenT T.b_len (pv_cal (ok_turning_names T) hr (pas_cons (pv_dat 9 rfl dx5) pas_nil) (b0 :: r0) fun H0 H' vs s0 s1 pr => ?_)) (congrArg Rs.i (show (((turnNamesM (b0 :: r0)).map (Datum.toD (α := Str))).length : Int) = turnsM (b0 :: r0) by rw [List.length_map, turns_count]))))
          (paj_cons (PV.jl (PV.is (pv_sortSet (xs := ringN (b0 :: r0)) rfl T.b_sorted T.b_set (pv_cal (ok_ring_names T) hr (pas_cons (pv_dat 9 rfl dx5) pas_nil) (b0 :: r0) fun H0 H' vs s0 s1 pr => ?_) sqr_tup (by
              have := dd_len (ringN (b0 :: r0)); unfold ringN at this ⊢; rw [List.length_map, List.length_cons] at this; omega) (sortable_str _)) (show Rs.ts (sortO (dd (ringN (b0 :: r0)))) = Rs.ts (sortO (ringN (b0 :: r0))) by rw [dd_self ro.path.nd])))
          (paj_cons (PV.jd pv_bool) paj_nil)))) (by simp)) (by simp; omega) W5.wd.hd W5.wd.ok (fun j hj => ?_) fun d6 H6 s6 n6 G6 => ?_
      · obtain ⟨z, e, pz⟩ := prq pr; exact ⟨z, e, pz, by simp only [List.length_cons]; omega, by simp⟩
      · obtain ⟨z, e, pz⟩ := prq pr; exact ⟨z, e, pz, by simp only [List.length_cons]; omega⟩
      · simp only [List.mem_cons, List.not_mem_nil, or_false] at hj
        rcases hj with rfl | rfl | rfl | rfl
        · exact .s (.bl _)
        · exact .s (.int _)
        · refine sc2_strs ?_
          rw [length_sortO]; unfold ringN; rw [List.length_map, List.length_cons]; omega
        · exact .s (.bl _)
      have W6 := W5.newD s6 n6 G6
      have nB6 := sB5.free n6
      have sB6 := sB5.trans s6
      have dx6 := dx5.same s6
      clear F G6 n6 W5 dx dx5
      have hJ6 : (J ++ [PyData.bool true, .int (turnsM (b0 :: r0)), .list ((sortO (ringN (b0 :: r0))).map Datum.toD), .bool true]).length ≤ 11 + 5 * i := by rw [List.length_append]; simp only [List.length_cons, List.length_nil]; omega
      generalize J ++ [PyData.bool true, .int (turnsM (b0 :: r0)), .list ((sortO (ringN (b0 :: r0))).map Datum.toD), .bool true] = J6 at W6 hJ6
      refine wb_cons (WZ.run ?_)
      have F := W6.f
      refine ws_gapp (d := .list []) (pv_name 7 rfl) W6.wg (by omega) (PV.jl (PV.is (pv_lc1 (g := gName 13) (xs := b0 :: r0) (enc := Datum.toD) (p := fun b => !decide (b ∈ onRingsM y)) (f := Datum.toD) rfl nd (PIt.weak (pit_tup (pv_dat 9 rfl dx6))) (blkOk_by (own := [("_law_bit", 13)]) rfl)
        (fun _ _ _ _ _ => pg_name (i := 13) nd rfl (Or.inl rfl)) (by simp only [List.length_cons]; omega) (fun b v' H9 hb h1 dv => gto_name ⟨rfl, fun s0 H0 C cl fp => pb_ninT (α := Bond) (pv_dat 13 rfl dv) (pv_cal (ok_on_rings T) hr (pas_cons (pv_dat 0 rfl (F.v.same h1)) pas_nil) y fun H0 H' vs s0 s1 pr => ?_), fun s0 H0 C cl fp _ => pv_dat 13 rfl dv⟩)) ?_)) (.l (fun d hd => nomatch hd) (by simp)) fun H7 zs s7 G7 G7' => ?_
      · obtain ⟨u, e, pu⟩ := prq pr; exact ⟨u, e, pu, ok⟩
      · have e0 : (b0 :: r0).filter (fun b => !decide (b ∈ onRingsM y)) = [] := List.filter_eq_nil_iff.mpr fun b hb => by
          have := (on_rings_iff ok).mpr ⟨⟨b0 :: r0⟩, List.mem_of_getElem? hq, hb⟩
          simp [this]
        rw [e0]; rfl
      have W7 := (W6.same s7).appG G7'
      have sB7 := Same.updN (o := .lst zs) (sB6.trans s7) nB5
      clear F G7 G7' W6 dx6
      generalize L2.upd H7 g5 (.lst zs) = H8 at W7 sB7
      refine wb_one (WZ.run ?_)
      refine ws_gapp (d := .list []) (pv_name 8 rfl) W7.wd (by omega) (PV.jl (pv_lst pad_nil)) (.l (fun d hd => nomatch hd) (by simp)) fun H9 zs2 s9 G9 G9' => ?_
      exact ⟨Same.updN (o := .lst zs2) (sB7.trans s9) nB6, g5, d6, J6 ++ [.list []], _, rfl, (W7.same s9).appD G9', by rw [List.length_append]; simp only [List.length_cons, List.length_nil]; omega⟩
    · obtain ⟨sB, g, d, J, o9, rfl, W, hJ⟩ := p
      rw [List.length_map] at hJ
      clear sB W11
      -- some = []
      refine wb_cons ?_
      refine ws_set (i := 10) (r := .l []) nd (pv_lst pad_nil) fun v4 H4 s4 p4 => ?_
      obtain ⟨p4, ws4, rfl, n4, h4, hw4⟩ := p4
      have hw4 : ws4 = [] := by cases hw4; rfl
      subst hw4
      have W := W.same s4
      -- for own in every: some = some + list(own)
      refine wb_cons ?_
      refine ws_forH (g := gName 9) (ds := (ringsM y).map Datum.toD) PassesOwn.never rfl (pit_lst (pv_name 2 rfl) W.f.e W.f.es) (pg_name (i := 9) nd rfl (Or.inr rfl))
        (fun H2 i σ' H' => Same H2 H' ∧ ∃ ps ss o9, σ' = [some v, some nw, some (.ref pe), some vt, some vb, some vo, some (.ref pm), some (.ref g), some (.ref d), o9, some (.ref ps), none, none, none] ∧ GD H y v pe es vt pm ms g d J J H' ∧ H' ps = some (.lst ss) ∧ HDs H' ss (((ringsM y).take i).map (·.items)).flatten ∧ (((ringsM y).take i).map (·.items)).flatten.length ≤ 5 * i)
        (fun H2 s2 => ⟨Same.refl _, p4, [], o9, rfl, W.same s2, s2 _ _ h4, .nil, by simp⟩) (fun H2 i σ' H' s2 _ p => p.1) (fun H2 i dd x σ' H5 s2 hd p H6 s6 dx => ?_) fun H2 σ' H5 s2 p => ?_
      · obtain ⟨sB, ps, ss, o9, rfl, W, hps, hss, hlen⟩ := p
        obtain ⟨q0, hq, rfl⟩ := map_some hd
        have hi := (List.getElem?_eq_some_iff.mp hq).1
        obtain ⟨b0, r0, rfl, ro⟩ := (mem_ringsM ok).mp (List.mem_of_getElem? hq)
        have rlen := ring_len ok ro
        have dx : HD H6 x (Tup.mk (b0 :: r0)) := dx
        have e1 : (((ringsM y).take (i + 1)).map (·.items)).flatten = (((ringsM y).take i).map (·.items)).flatten ++ (b0 :: r0) := by
          rw [take_succ' hq, List.map_append, List.flatten_append]; simp
        refine gto_name (wb_one ?_)
        refine ws_set (i := 10) (r := .ts ((((ringsM y).take i).map (·.items)).flatten ++ (b0 :: r0))) nd (PV.is (pv_catL (pv_name 10 rfl) (pv_listT T.b_list (pv_dat 9 rfl dx)) (lstr_var (s6 _ _ hps) (hss.same s6)) lstr_new (by
          rw [List.length_map, List.length_map, List.length_cons]; omega)) (by show Rs.l _ = Rs.l _; rw [List.map_append])) fun v7 H7 s7 p7 => ?_
        obtain ⟨p7, ws7, rfl, n7, h7, hw7⟩ := p7
        refine ⟨(sB.trans s6).trans s7, p7, ws7, _, rfl, W.same (s6.trans s7), h7, ?_, ?_⟩
        · rw [e1]; exact hw7
        · rw [e1, List.length_append, List.length_cons]; omega
      · obtain ⟨sB, ps, ss, o9, rfl, W, hps, hss, hlen⟩ := p
        rw [List.length_map, List.take_length] at hss hlen
        clear sB
        -- got.append(sorted(set(some)))
        refine wb_cons (WZ.run ?_)
        refine ws_gapp (d := .list ((onRingsM y).map Datum.toD)) (pv_name 7 rfl) W.wg (by omega) (PV.jl (PV.is (pv_sortSet (α := Bond) (xs := ((ringsM y).map (·.items)).flatten) rfl T.b_sorted T.b_set (pv_name 10 rfl) (sqr_var hps hss) ?_ (sortable_bond _)) (show Rs.ts _ = Rs.ts _ by rw [on_rings_sorted ok]))) ?_ fun H6 zs s6 G6 G6' => ?_
        · have : (dd ((ringsM y).map (·.items)).flatten).length ≤ y.length := nodup_len (nodup_dd _) fun b hb => by
            obtain ⟨l, hl, hb⟩ := List.mem_flatten.mp (mem_dd.mp hb)
            obtain ⟨q0, hq, rfl⟩ := List.mem_map.mp hl
            obtain ⟨b0, r0, rfl, ro⟩ := (mem_ringsM ok).mp hq
            exact ro.path.mem b hb
          omega
        · refine sc2_bonds ?_
          unfold onRingsM
          have := List.length_filter_le (fun b => decide (b.a ∈ leadsM y b.c)) y
          omega
        have W6 := (W.same s6).appG G6'
        clear G6 G6' W hss hps
        generalize L2.upd H6 g (.lst zs) = H7 at W6
        -- due.append(list(on_rings(pattern)))
        refine wb_cons (WZ.run ?_)
        refine ws_gapp (d := .list ((onRingsM y).map Datum.toD)) (pv_name 8 rfl) W6.wd (by omega) (PV.jl (pv_listT T.b_list (pv_cal (ok_on_rings T) hr (pas_cons (pv_dat 0 rfl W6.f.v) pas_nil) y fun H0 H' vs s0 s1 pr => ?_))) ?_ fun H8 zs2 s8 G8 G8' => ?_
        · obtain ⟨u, e, pu⟩ := prq pr; exact ⟨u, e, pu, ok⟩
        · refine sc2_bonds ?_
          unfold onRingsM
          have := List.length_filter_le (fun b => decide (b.a ∈ leadsM y b.c)) y
          omega
        have W8 := (W6.same s8).appD G8'
        clear G8 G8' W6
        generalize L2.upd H8 d (.lst zs2) = H9 at W8
        have hJ8 : (J ++ [PyData.list ((onRingsM y).map Datum.toD)]).length ≤ 8 + 5 * (ringsM y).length := by rw [List.length_append]; simp only [List.length_cons, List.length_nil]; omega
        generalize J ++ [PyData.list ((onRingsM y).map Datum.toD)] = J8 at W8 hJ8
        -- if told is not None
        refine wb_cut (fun σ' H' => ∃ g d J, σ' = [some v, some nw, some (.ref pe), some vt, some vb, some vo, some (.ref pm), some (.ref g), some (.ref d), o9, some (.ref ps), none, none, none] ∧ GD H y v pe es vt pm ms g d J J H' ∧ J.length ≤ 11 + 5 * (ringsM y).length) ?_ fun σ' H10 p => ?_
        · refine ws_if (k := !isNone (leastR y)) (pb_notN (pv_dat 3 rfl W8.f.t)) (fun k H10 s10 => ?_) fun _ H10 s10 => wb_nil ⟨g, d, J8, rfl, W8.same s10, by omega⟩
          obtain ⟨t, ht⟩ : ∃ t, leastM y = some t := by
            cases h : leastM y with
            | none => rw [show leastR y = .none by unfold leastR; rw [h]] at k; cases k
            | some t => exact ⟨t, rfl⟩
          obtain ⟨m0, k0, eb, ro, et, el, _⟩ := least_ring_is ok ht
          have eR : leastR y = Datum.toD (Tup.mk (m0 :: k0)) := by unfold leastR; rw [ht]; show Datum.toD (Tup.mk (begunM t.c.items)) = _; rw [eb]
          have eT : leastT y = .int t.a := by unfold leastT; rw [ht]
          have rlen := ring_len ok ro
          have hmem : (⟨m0 :: k0⟩ : Pat) ∈ ringsM y := (mem_ringsM ok).mpr ⟨m0, k0, rfl, ro⟩
          have W10 := W8.same s10
          have F := W10.f
          have dt : HD H10 vt (Tup.mk (m0 :: k0)) := by have := F.t; rw [eR] at this; exact this
          refine wb_cons (WZ.run ?_)
          refine ws_gcat (i := 7) nd (ja := J8) (jb := [.bool true, .bool true, .int t.a]) (pv_jvar (pv_name 7 rfl) W10.wg)
            (pv_jlst (paj_cons (PV.jd (PV.is (pv_inLv (α := Pat) (x := Tup.mk (m0 :: k0)) (pv_dat 3 rfl dt) (pv_name 2 rfl) F.e F.es) (congrArg Rs.b (decide_eq_true hmem))))
              (paj_cons (PV.jd (PV.is (pv_cal (ok_is_least T) hr (pas_cons (pv_dat 0 rfl F.v) (pas_cons (pv_dat 3 rfl dt) pas_nil)) (y, m0, k0, t) fun H0 H' vs s0 s1 pr => ?_) (congrArg Rs.b (decide_eq_true (by rw [et, el])))))
              (paj_cons (PV.jd (PV.is (pv_cal (ok_turns T) hr (pas_cons (pv_dat 3 rfl dt) pas_nil) (m0 :: k0) fun H0 H' vs s0 s1 pr => ?_) (congrArg Rs.i et))) paj_nil))) (by simp)) (by simp; omega) W10.wg.hd W10.wg.ok (fun j hj => ?_) fun g11 H11 s11 n11 G11 => ?_
          · obtain ⟨z1, z2, e, a1, a2⟩ := rsl2 pr
            exact ⟨z1, z2, e, a1, a2, ok, by show k0.length ≤ 50; omega, rlen.2, fun b hb => ok.wf b (ro.path.mem b hb), ringB_ok ro, ht⟩
          · obtain ⟨z, e, pz⟩ := prq pr; exact ⟨z, e, pz, by simp only [List.length_cons]; omega, by simp⟩
          · simp only [List.mem_cons, List.not_mem_nil, or_false] at hj
            rcases hj with rfl | rfl | rfl
            · exact .s (.bl _)
            · exact .s (.bl _)
            · exact .s (.int _)
          have W11 := W10.newG s11 n11 G11
          clear F G11 n11 W10 dt
          refine wb_one (WZ.run ?_)
          refine ws_gcat (i := 8) nd (ja := J8) (jb := [.bool true, .bool true, .int t.a]) (pv_jvar (pv_name 8 rfl) W11.wd)
            (pv_jlst (paj_cons (PV.jd pv_bool) (paj_cons (PV.jd pv_bool) (paj_cons (PV.jd (PV.is (pv_cal (ok_least_turns T) hr (pas_cons (pv_dat 0 rfl W11.f.v) pas_nil) y fun H0 H' vs s0 s1 pr => ?_) (congrArg Rs.d eT))) paj_nil))) (by simp)) (by simp; omega) W11.wd.hd W11.wd.ok (fun j hj => ?_) fun d12 H12 s12 n12 G12 => ?_
          · obtain ⟨u, e, pu⟩ := prq pr; exact ⟨u, e, pu, ok⟩
          · simp only [List.mem_cons, List.not_mem_nil, or_false] at hj
            rcases hj with rfl | rfl | rfl
            · exact .s (.bl _)
            · exact .s (.bl _)
            · exact .s (.int _)
          exact ⟨g11, d12, _, rfl, W11.newD s12 n12 G12, by rw [List.length_append]; simp only [List.length_cons, List.length_nil]; omega⟩
        · obtain ⟨g, d, J, rfl, W, hJ⟩ := p
          clear W8
          -- for own in pattern
          refine wb_cons ?_
          refine ws_forH (g := gName 9) (ds := y.map Datum.toD) PassesOwn.never rfl (pit_tup (pv_dat 0 rfl W.f.v)) (pg_name (i := 9) nd rfl (Or.inr rfl))
            (fun H2 i σ' H' => TK H2 H' ∧ ∃ g d J o9 o11, σ' = [some v, some nw, some (.ref pe), some vt, some vb, some vo, some (.ref pm), some (.ref g), some (.ref d), o9, some (.ref ps), o11, none, none] ∧ GD H y v pe es vt pm ms g d J J H' ∧ J.length ≤ 11 + 5 * (ringsM y).length + i)
            (fun H2 s2 => ⟨TK.refl _, g, d, J, o9, none, rfl, W.same s2, by omega⟩) (fun H2 i σ' H' s2 _ p => p.1) (fun H2 i dd x σ' H11 s2 hd p H12 s12 dx => ?_) fun H2 σ' H11 s2 p => ?_
          · obtain ⟨tB, g, d, J, o9, o11, rfl, W, hJ⟩ := p
            obtain ⟨b, hb, rfl⟩ := map_some hd
            have hi := (List.getElem?_eq_some_iff.mp hb).1
            have W := W.same s12
            have F := W.f
            refine gto_name (wb_cons ?_)
            refine ws_set (i := 11) (r := .t (Tup.mk (y.filter fun c => decide (c ≠ b)))) nd (pv_tupleN T.b_tuple (PV.is (pv_lc1 (g := gName 13) (xs := y) (enc := Datum.toD) (p := fun c => decide (c ≠ b)) (f := Datum.toD) rfl nd (PIt.weak (pit_tup (pv_dat 0 rfl F.v))) (blkOk_by (own := [("_law_bit", 13)]) rfl)
              (fun _ _ _ _ _ => pg_name (i := 13) nd rfl (Or.inl rfl)) (by omega) (fun c v' H9 hc h1 dv => gto_name ⟨rfl, fun s0 H0 C cl fp => pb_neT (α := Bond) (pv_dat 13 rfl dv) (pv_dat 9 rfl (DI.same h1 dx)), fun s0 H0 C cl fp _ => pv_dat 13 rfl dv⟩)) rfl)) fun v13 H13 s13 p13 => ?_
            have hl : HD H13 v13 (Tup.mk (y.filter fun c => decide (c ≠ b))) := p13
            have W := W.same s13
            have tB := (tB.trans (.same s12)).trans (.same s13)
            clear F
            refine wb_one ?_
            refine ws_if (k := decide ((⟨y.filter fun c => decide (c ≠ b)⟩ : Pat) ≠ ⟨[]⟩) && !isNone (leastT (y.filter fun c => decide (c ≠ b)))) (PBW.pb (pw_a (pb_neT (α := Pat) (pv_dat 11 rfl hl) (pv_tup pad_nil)) fun k => pw_a1 (pb_notN (pv_cal (ok_least_turns T) hr (pas_cons (pv_dat 11 rfl hl) pas_nil) (y.filter fun c => decide (c ≠ b)) fun H0 H' vs s0 s1 pr => ?_)))) (fun k H14 s14 => ?_) fun _ H14 s14 => wb_nil ⟨tB.trans (.same s14), g, d, J, _, _, rfl, W.same s14, by omega⟩
            · obtain ⟨u, e, pu⟩ := prq pr
              exact ⟨u, e, pu, less_ok ok b fun e => of_decide_eq_true k (by rw [e])⟩
            · rw [Bool.and_eq_true] at k
              have kne : y.filter (fun c => decide (c ≠ b)) ≠ [] := fun e => of_decide_eq_true k.1 (by rw [e])
              have okL := less_ok ok b kne
              obtain ⟨t, ht⟩ : ∃ t, leastM (y.filter fun c => decide (c ≠ b)) = some t := by
                cases h : leastM (y.filter fun c => decide (c ≠ b)) with
                | none => rw [show leastT (y.filter fun c => decide (c ≠ b)) = .none by unfold leastT; rw [h]] at k; cases k.2
                | some t => exact ⟨t, rfl⟩
              obtain ⟨u, hu2, hle⟩ := less_turns ok b kne ht
              have eL : leastT (y.filter fun c => decide (c ≠ b)) = .int t.a := by unfold leastT; rw [ht]
              have eY : leastT y = .int u.a := by unfold leastT; rw [hu2]
              have W14 := W.same s14
              refine wb_cons (WZ.run ?_)
              refine ws_gapp (d := .bool true) (pv_name 7 rfl) W14.wg (by omega) (PV.jd (PV.is (pv_ge (i := t.a) (j := u.a) (PV.is (pv_cal (ok_least_turns T) hr (pas_cons (pv_dat 11 rfl (hl.same s14)) pas_nil) (y.filter fun c => decide (c ≠ b)) fun H0 H' vs s0 s1 pr => ?_) (congrArg Rs.d eL)) (PV.is (pv_cal (ok_least_turns T) hr (pas_cons (pv_dat 0 rfl W14.f.v) pas_nil) y fun H0 H' vs s0 s1 pr => ?_) (congrArg Rs.d eY))) (congrArg Rs.b (decide_eq_true hle)))) (.s (.bl _)) fun H15 zs s15 G15 G15' => ?_
              · obtain ⟨u, e, pu⟩ := prq pr; exact ⟨u, e, pu, okL⟩
              · obtain ⟨u, e, pu⟩ := prq pr; exact ⟨u, e, pu, ok⟩
              obtain ⟨xs15, ex15, _⟩ := G15.ex
              have tB := (tB.trans (.same (s14.trans s15))).trans (TK.updL (o := .lst zs) ex15)
              have W15 := (W14.same s15).appG G15'
              clear G15 G15' W14 W ex15
              generalize L2.upd H15 g (.lst zs) = H16 at W15 tB
              refine wb_one (WZ.run ?_)
              refine ws_gapp (d := .bool true) (pv_name 8 rfl) W15.wd (by omega) (PV.jd pv_bool) (.s (.bl _)) fun H17 zs2 s17 G17 G17' => ?_
              obtain ⟨xs17, ex17, _⟩ := G17.ex
              exact ⟨(tB.trans (.same s17)).trans (TK.updL (o := .lst zs2) ex17), g, d, J ++ [.bool true], _, _, rfl, (W15.same s17).appD G17', by rw [List.length_append]; simp only [List.length_cons, List.length_nil]; omega⟩
          · obtain ⟨tB, g, d, J, o9, o11, rfl, W, hJ⟩ := p
            rw [List.length_map] at hJ
            -- return _law_same(got, due)
            refine wb_one (.of (ps_ret (pe_dfn ((ok_same T).mono (by decide)) hr pa_s)) ?_)
            refine (pas_cons (pv_name 7 rfl) (pas_cons (pv_name 8 rfl) pas_nil)).t (Same.refl _) fun vs H12 s12 pr => ?_
            obtain ⟨z1, z2, rfl, a1, a2⟩ := rsl2 pr
            have a1 : z1 = .ref g := a1
            have a2 : z2 = .ref d := a2
            subst a1 a2
            have W12 := W.same s12
            exact ⟨.ref g, .ref d, rfl, gw_ll W12.wg W12.wd (by omega), fun H13 s13 => q (.bl true) H13 (W12.s.trans s13) (DI.bl true)⟩
end
end Bx
set_option Elab.async false
set_option linter.all false
set_option maxRecDepth 100000
set_option maxHeartbeats 4000000
/-! G3: _law_by_hand_right, _law_right. -/
namespace Bx
open PySem PySem.Spec PyProof.Rows L2
open PySem.W (Datum DatumOrd Holds HoldAll T3 T4 Tup EachIs minOf)
section
variable {X : Cx} {tg iter elt a b : Expr} {σ : St} {H : Hp} {pos : Pos} {scope : Scope} {own : List (Str × Nat)}
/-- a comprehension whose items are all true -/
theorem pv_lcG {n : Nat} {Y : Nat → Hp → V → Hp → Prop} {g : TG} (hc : X.calm = true) (hN : X.N.Nodup) (hi : PItG Same X tg iter σ H n Y) (ok : BlkOk X.N X.env.scope scope own)
    (hg : ∀ (s : Shared) (H : Hp) (C : Addr) (cl : List (Str × Addr)) (fp : List Addr), PG (X.blk s H scope (compEnvC scope cl C X.env) fp) tg g) (hz : n ≤ 1000000)
    (turn : ∀ (i : Nat) (x : V) (H1 H2 : Hp), i < n → Same H H1 → Y i H1 x H2 → Same H1 H2 ∧ GTo g (wipe σ (own.map (·.2))) H2 x fun σ2 => wipe σ2 (own.map (·.2)) = wipe σ (own.map (·.2)) ∧
      ∀ (s0 : Shared) (H0 : Hp) (C : Addr) (cl : List (Str × Addr)) (fp : List Addr), PV (X.blk s0 H0 scope (compEnvC scope cl C X.env) fp) elt σ2 H2 (.b true))
    (hs : ∀ x, foldedSetIterable iter X.env x = pure x := by intro _; rfl) : PV X (.ListComp elt [⟨tg, iter, [], 0⟩] scope pos) σ H (.l ((List.replicate n true).map .bool)) := by
  obtain ⟨wi, hp, hq⟩ := hi
  refine .of (pe_lcE hc hN hp ok hg hs) fun H1 h1 => hq H1 h1 _ fun J H2 s2 w D nD => ?_
  refine lc_it w (fun i Hc => Same H2 Hc ∧ Hc D = some (.lst ((List.replicate i true).map V.bl))) ⟨same_new nD, upd_same⟩ (fun i Hc _ q => q.1) (fun i x Hc Hc' hi q y => ?_) fun Hc q => ?_
  · obtain ⟨sc, hD⟩ := q
    obtain ⟨sy, gt⟩ := turn i x Hc Hc' hi ((h1.trans s2).trans sc) y
    refine gt _ fun σ2 ⟨w2, pv⟩ => ⟨w2, iteT (B := (fun Hc => Same H2 Hc ∧ Hc D = some (.lst ((List.replicate (i + 1) true).map V.bl))) Hc') fun s0 H0 C cl fp => (pv s0 H0 C cl fp).t (Same.refl _) fun v H4 s4 pv => ?_⟩
    have hD4 := s4 _ _ (sy _ _ hD)
    refine ⟨_, hD4, by rw [List.length_map, List.length_replicate]; exact Nat.lt_of_lt_of_le (Nat.lt_of_lt_of_le hi hz) (by decide), fun c u ec => ?_, ?_⟩
    · have nc : c ≠ D := ne_of_none ec nD
      rw [upd_ne nc]
      exact s4 _ _ (sy _ _ (sc _ _ ec))
    · rw [upd_same, Rs.pB pv, List.replicate_succ', List.map_append]; rfl
  · obtain ⟨sc, hD⟩ := q
    exact ⟨s2.trans sc, D, _, rfl, s2.free nD, hD, bools_dis _⟩
/-- the first of a list -/
theorem pv_first {l : Addr} {x : V} {ys : List V} {d : PyData} (ha : PV X a σ H (.v (.ref l))) (hl : H l = some (.lst (x :: ys))) (hx : DI H x d) (hb : PV X b σ H (.i 0)) (hs : PlainIx b := by exact fun _ _ => rfl) : PV X (.Subscript a b pos) σ H (.d d) :=
  .of (pe_ix ix_list pe_s pe_s hs) fun H1 hs => tOp_of (rz := .d d) (fun H1 hs Q q => ha.t hs q) (fun H1 hs Q q => hb.t hs q) (fun H0 H' v y s0 s1 px py Q q => by
    have px : v = .ref l := px
    subst px
    have s' := s0.trans s1
    exact ⟨_, _, 0, x, rfl, Rs.pI py, SqL.of (s' _ _ hl), atI_zero rfl, q _ H' (Same.refl _) (hx.same s')⟩) H1 hs fun v H2 s2 p => ⟨s2, p⟩
end
def spBH : Sp := fun vs H Q _ => vs = [] ∧ ∀ H2, Same H H2 → Q (.bl true) H2
def YHand : Nat → Hp → V → Hp → Prop := fun _ H x H' => H' = H ∧ ∃ (a : Addr) (z : V) (ys : List V) (P : List Bond), x = .ref a ∧ H a = some (.lst (z :: ys)) ∧ HD H z (Tup.mk P) ∧ P ∈ handM
def backL : List Str := ["h", "g", "f", "e", "d", "c", "b", "a"]
section
variable {P : Program} {w : World} {K : PySem.W.Frag} {mg : Str → Option Value} {base : Heap}
theorem ok_bh (T : Txt K mg) : Dfn P w K mg base 9 "_law_by_hand_right" [] spBH := by
  refine dfn_of T.h_l_by_hand_right sc_l_by_hand_right (fun vs H Q E h => ?_) (fun f cdv A outer s H vs Q E hr h => ?_)
  · obtain ⟨rfl, _⟩ := h; rfl
  · obtain ⟨rfl, q⟩ := h
    have hu := hr.units
    refine wb_one ?_
    refine ws_ret (r := .b ((List.replicate 14 true).all id)) (pv_all rfl T.b_all (pv_lcG (n := 14) (Y := YHand) (g := gName 0) rfl sc_l_by_hand_right.nd ⟨_, pi_list pe_s, fun H1 hs R hR => ev_of (pe_dfn0 ((ok_hand T).mono (by decide)) hr) ⟨rfl, fun F ws H2 s2 nF hF hL => ⟨F, rfl, ⟨ws, SqL.of hF⟩, hR _ H2 s2 ?_⟩⟩⟩ (blkOk_by (own := [("_law_own", 0)]) rfl)
      (fun _ _ _ _ _ => pg_name (i := 0) sc_l_by_hand_right.nd rfl (Or.inl rfl)) (by decide) fun i x H1 H2 hi s1 y => ?_)) fun v2 H2 s2 p2 => ?_
    · have hl : ws.length = 14 := hL.length
      rw [← hl]
      refine walk_list.mono (fun H' t => SqL.of (t _ _ hF)) fun i H' x H'' hi t y => ?_
      obtain ⟨rfl, hx⟩ := y
      obtain ⟨a, z, ys, P, e1, e2, e3, e4⟩ := (hL.off (.of t) (.same t)).get hx
      exact ⟨rfl, a, z, ys, P, e1, e2, e3, e4⟩
    · obtain ⟨rfl, a, z, ys, P, rfl, e2, e3, e4⟩ := y
      refine ⟨Same.refl _, gto_name ⟨rfl, fun s0 H0 C cl fp => pv_cal (ok_pr T) hr (pas_cons (pv_first (pv_name 0 rfl) e2 e3 pv_int) (pas_cons pv_str pas_nil)) (P, backL) fun H0 H' vs s0 s1 pr => ?_⟩⟩
      obtain ⟨z1, z2, rfl, a1, a2⟩ := rsl2 pr
      exact ⟨z1, z2, rfl, a1, hand_ok P e4, .inr ⟨"hgfedcba", Rs.pS a2, rfl⟩, (by show backL.Nodup; decide), (by show 5 ≤ backL.length; decide), (by show ∀ x ∈ backL, x ∈ letters; decide)⟩
    · have e : ((List.replicate 14 true).all id) = true := rfl
      rw [e] at p2
      rw [Rs.pB p2]
      exact q H2 s2
def spRight : Sp := fun vs H Q _ => ∃ (b : Addr) (c : Int), vs = [.ref b] ∧ c ≤ 600000 ∧ BoxOk H b c ∧ ∀ H', Off1 b H H' → Q (.bl true) H'
theorem ok_right (T : Txt K mg) : Dfn P w K mg base 9 "_law_right" ["_law_box_here"] spRight := by
  refine dfn_of T.h_l_right sc_l_right (fun vs H Q E h => ?_) (fun f cdv A outer s H vs Q E hr h => ?_)
  · obtain ⟨_, _, rfl, _⟩ := h; rfl
  · obtain ⟨b, c, rfl, hc, hb, q⟩ := h
    have hu := hr.units
    refine wb_cons ?_
    refine ws_forH (g := gName 1) (ds := (List.range 8).map fun (k : Nat) => PyData.int (k : Int)) PassesOwn.never rfl (pit_range (n := 8) T.b_range pv_int (by decide)) (pg_name (i := 1) sc_l_right.nd rfl (Or.inl rfl))
      (fun H2 i σ' H' => TK H2 H' ∧ ∃ o1 o2, σ' = [some (.ref b), o1, o2] ∧ Off1 b H H' ∧ BoxOk H' b (c + 2000 * i))
      (fun H2 s2 => ⟨TK.refl _, _, _, rfl, .of s2, by have := hb.same s2; simpa using this⟩) (fun H2 i σ' H' s2 _ p => p.1) (fun H2 i dd x σ' H3 s2 hd p H4 s4 dx => ?_) fun H2 σ' H3 s2 p => ?_
    · obtain ⟨tB, o1, o2, rfl, off, bx⟩ := p
      have hi : i < 8 := by
        have := (List.getElem?_eq_some_iff.mp hd).1
        simpa using this
      have tB := tB.trans (.same s4)
      have off := off.trans (.of s4)
      have bx := bx.same s4
      refine gto_name (wb_cons ?_)
      refine ws_ev (i := 2) sc_l_right.nd (ev_of (pe_dfn ((ok_lpat T).mono (by decide)) hr (pa_cons pe_s (pa_cons pe_s (pa_cons pe_s pa_nil)))) ?_)
      refine (pv_name 0 rfl).t (Same.refl _) fun v5 H5 s5 p5 => ?_
      have p5 : v5 = .ref b := p5
      refine ev_of (pe_op op_add pe_s pe_s) (pv_int.t (Same.refl _) fun v6 H6 s6 p6 => ?_)
      refine ev_call (ok_take T) hr (pas_cons (pv_name 0 rfl) (pas_cons pv_int pas_nil)) fun vs H7 s7 pr => ?_
      obtain ⟨z1, z2, rfl, c1, c2⟩ := rsl2 pr
      have c1 : z1 = .ref b := c1
      refine ⟨b, 4, c + 2000 * i, by rw [c1, Rs.pI c2], by decide, by decide, by omega, bx.same ((s5.trans s6).trans s7), fun d H8 h0 h1 off8 b8 => ?_⟩
      refine ⟨2, d, Rs.pI p6, rfl, pv_int.t (Same.refl _) fun v9 H9 s9 p9 => ?_⟩
      obtain ⟨m, rfl⟩ : ∃ m : Nat, d = m := ⟨d.toNat, by omega⟩
      have t8 : TK H4 H8 := (TK.same ((s5.trans s6).trans s7)).trans (off8.tk (bx.same ((s5.trans s6).trans s7)).isL)
      have off48 : Off1 b H4 H8 := (Off1.of ((s5.trans s6).trans s7)).trans off8
      refine ⟨b, c + 2000 * i + 1, 2 + m, by rw [p5, Rs.pI p9]; rfl, by omega, by omega, by omega, b8.same s9, fun v10 P H10 off10 b10 hP okP => ?_⟩
      have t10 : TK H4 H10 := t8.trans ((TK.same s9).trans (off10.tk (b8.same s9).isL))
      have off410 : Off1 b H4 H10 := off48.trans ((Off1.of s9).trans off10)
      refine wb_one (.of (ps_if (pt_not (pt_val pe_s (by intro _; rfl))) pss_w pss_w) ?_)
      refine ev_of (pe_dfn ((ok_pr T).mono (by decide)) hr (pa_cons pe_s (pa_cons pe_s pa_nil))) ?_
      refine (pv_name 2 rfl).t (Same.refl _) fun v11 H11 s11 p11 => ?_
      have p11 : v11 = v10 := p11
      refine ev_call (ok_mixed T) hr (pas_cons (pv_name 0 rfl) (pas_cons (pv_listTxt rfl T.b_list pv_str) pas_nil)) fun vs H12 s12 pr => ?_
      obtain ⟨z1, z2, rfl, a1, a2⟩ := rsl2 pr
      have a1 : z1 = .ref b := a1
      obtain ⟨l, us1, rfl, nl, hl, hus1⟩ := a2
      rw [sl_letters] at hus1
      have s1012 := s11.trans s12
      refine ⟨b, l, c + 2000 * i + 1 + 1000, us1, letters, by rw [a1], hl, hus1, (by decide), (by decide), by omega, b10.same s1012, fun p ws ms H13 off13 np b13 hp hws pm => ?_⟩
      have t13 : TK H10 H13 := (TK.same s1012).trans (off13.tk (b10.same s1012).isL)
      refine ⟨(P, ms), ⟨v11, .ref p, rfl, by rw [p11]; exact hP.ts t13, okP, .inl ⟨p, ws, rfl, hp, hws⟩, pm.nodup_iff.mpr (by decide), ?_, fun x hx => pm.mem_iff.mp hx⟩, fun v14 H14 s14 p14 => ⟨true, Rs.pB p14, iteF (wb_nil ?_)⟩⟩
      · show 5 ≤ ms.length
        rw [pm.length_eq]; decide
      · refine ⟨(tB.trans t10).trans (t13.trans (.same s14)), _, _, rfl, (off.trans off410).trans (((Off1.of s1012).trans off13).trans (.of s14)), ?_⟩
        exact (b13.same s14).le (by omega)
    · obtain ⟨tB, o1, o2, rfl, off, bx⟩ := p
      refine wb_one (ws_ret (r := .b true) pv_bool fun v4 H4 s4 p4 => ?_)
      rw [Rs.pB p4]
      exact q H4 (off.trans (.of s4))
end
end Bx
set_option Elab.async false
set_option linter.all false
set_option maxRecDepth 100000
set_option maxHeartbeats 4000000
/-! G4: _law_cells, law. -/
namespace Bx
open PySem PySem.Spec PyProof.Rows L2
open PySem.W (Datum DatumOrd Holds HoldAll T3 T4 Tup EachIs minOf)
section
variable {X : Cx} {e a b : Expr} {σ : St} {H : Hp} {pos : Pos} {ds : List PyData} {D : Ends}
/-- a slice of a list that may be locked -/
theorem pv_slQ {lo hi : Option Expr} {l u : Option Int} {tl th : TO} {p2 : Pos} {p : Addr} {vs : List V} (ha : PV X e σ H (.v (.ref p))) (hq : SqL X.K H p vs) (hd : DIs H vs ds) (hl : PO X lo tl) (hh : PO X hi th) (ql : ∀ H1, Same H H1 → ∀ Q : Option Int → Hp → Prop, (∀ H2, Same H1 H2 → Q l H2) → tl σ H1 Q) (qh : ∀ H1, Same H H1 → ∀ Q : Option Int → Hp → Prop, (∀ H2, Same H1 H2 → Q u H2) → th σ H1 Q) :
    PV X (.Subscript e (.Slice lo hi none p2) pos) σ H (.l ((ds.drop (HT.sIx ds.length 0 l)).take (HT.sIx ds.length ds.length u - HT.sIx ds.length 0 l))) := by
  refine .of (pe_slice sl_list pe_s hl hh) fun H1 h1 => ha.t h1 fun v H2 s2 pv => ql H2 (h1.trans s2) _ fun H3 s3 => qh H3 ((h1.trans s2).trans s3) _ fun H4 s4 => ?_
  have pv : v = .ref p := pv
  have s := (h1.trans s2).trans (s3.trans s4)
  exact ⟨p, vs, pv, s.seq hq, fun q nq => ⟨(s2.trans (s3.trans s4)).trans (same_new nq), q, _, rfl, (s2.trans (s3.trans s4)).free nq, upd_same, (di_cut (hd.same s) l u).same (same_new nq)⟩⟩
/-- enumerate(a new list), the list at F being stored to -/
theorem pit_enumO {F : Addr} {elts : List Expr} {kk : Nat} {tpos p : Pos} (hm : X.mg "enumerate" = none) (h : PV X e σ H (.l ds)) (hF : IsL H F) (hg : Gl X "enumerate" := by rfl) (hs : starEach [e] X.env = [(false, eval e X.env)] := by rfl) :
    PItG (Off1 F) X (.Tuple elts kk tpos) (.Call (.Name "enumerate" p) [e] [] pos) σ H ds.length (fun i H x H' => Same H H' ∧ ∃ T v d, x = .ref T ∧ H' T = some (.tup [.int (i : Nat), v]) ∧ ds[i]? = some d ∧ DI H' v d) := by
  refine ⟨_, pi_enum hg hm pa_s hs, fun H1 hs1 R hR => (pas_cons h pas_nil hs).t hs1 fun vs H2 s2 pr => ?_⟩
  obtain ⟨v, rfl, pv⟩ := rsl1 pr
  obtain ⟨a, xs, rfl, na, ea, hd⟩ := pv
  have naF : a ≠ F := fun z => by
    obtain ⟨k, q⟩ := hF.same hs1
    rw [← z, na] at q; cases q
  have hF2 : IsL H2 F := (hF.same hs1).same s2
  refine ⟨a, xs, rfl, SqL.of ea, hR _ H2 s2 ?_⟩
  rw [← hd.length]
  refine walk_enum.mono (fun H' t => SqL.of (t _ _ naF ea)) fun i H' x H'' hi t y => ?_
  obtain ⟨T, x1, v, rfl, nT, rfl, e1, e2⟩ := y
  obtain ⟨d, h1, h2⟩ := hd.get' e2
  have e1 : V.int (i : Nat) = x1 := Option.some.inj e1
  subst e1
  have sn := same_new (o := .tup [.int (i : Nat), v]) nT
  exact ⟨sn, T, v, d, rfl, upd_same, h1, (h2.ts (t.tk hF2)).same sn⟩
end
abbrev Rs.cells : Rs := .p (fun H v => ∃ p, v = .ref p ∧ ∃ cs : List Int, H p = some (.lst (cs.map V.int)) ∧ 1 ≤ cs.length ∧ cs.length ≤ 3) fun _ _ _ s ⟨p0, e, cs, h, r⟩ => ⟨p0, e, cs, s _ _ h, r⟩
section
variable {P : Program} {w : World} {K : PySem.W.Frag} {mg : Str → Option Value} {base : Heap}
theorem ints_hd {H : Hp} (ns : List Int) : HDs H (ns.map V.int) ns := ints_dis ns
abbrev spCells (K : PySem.W.Frag) : Sp := spY (fun (y : List Int) vs H => ∃ l, vs = [.ref l, .int 3] ∧ SqL K H l (y.map V.int) ∧ y.length ≤ 1000) fun _ => .cells
theorem ok_cells (T : Txt K mg) : Dfn P w K mg base 1 "_law_cells" ["_law_script", "_law_most_so"] (spCells K) := by
  refine dfn_of T.h_l_cells sc_l_cells (fun vs H Q E h => ?_) (fun f cdv A outer s H vs Q E hr h => ?_)
  · obtain ⟨_, ⟨_, rfl, _⟩, _⟩ := h; rfl
  · obtain ⟨ns, ⟨l, rfl, hl, hn⟩, q⟩ := h
    have hu := hr.units
    have hd0 : DIs H (ns.map V.int) (ns.map (Datum.toD (α := Int))) := ints_hd ns
    refine wb_cut (fun σ' H' => ∃ (cs : List Int) (F : Addr), σ' = [some (.ref l), some (.int 3), some (.ref F), none, none, none] ∧ Same H H' ∧ H F = none ∧ H' F = some (.lst (cs.map V.int)) ∧ 1 ≤ cs.length ∧ cs.length ≤ 3 ∧ (3 < ns.length → cs.length = 3)) ?_ fun σ' H1 p => ?_
    · refine ws_ev (i := 2) sc_l_cells.nd (ev_of (pe_orT pe_s pe_s) ?_)
      refine PV.t (r := .l ((ns.take 3).map (Datum.toD (α := Int)))) ?_ (Same.refl _) fun v1 H1 s1 p1 => ?_
      · refine pv_listL T.b_list (PV.is (pv_slQ (pv_name 0 rfl) hl hd0 po_none (po_some pe_s) po_non (po_pv (i := ((3 : Nat) : Int)) (pv_dat 1 rfl (DI.int 3)))) ?_) lstr_new
        rw [cutTo, List.map_take]
      · obtain ⟨p, vs1, rfl, np, hp, hv1⟩ := p1
        have e1 : vs1 = (ns.take 3).map V.int := dis_ints (ns := ns.take 3) hv1
        subst e1
        refine ⟨!((ns.take 3).map V.int).isEmpty, .inl ⟨_, SqL.of hp, rfl⟩, ?_⟩
        cases ns with
        | nil =>
          refine iteF ((pv_one (pv_lst (pad_cons pv_int pad_nil))).t s1 fun v2 H2 s2 p2 => ?_)
          obtain ⟨p', vs2, rfl, np', hp', hv2⟩ := p2
          have e2 : vs2 = [(0 : Int)].map V.int := dis_ints (ns := [0]) hv2
          subst e2
          exact ⟨[0], p', rfl, s1.trans s2, s1.free np', hp', by decide, by decide, fun z => by simp at z⟩
        | cons n0 nr =>
          refine iteT ⟨(n0 :: nr).take 3, p, rfl, s1, np, hp, ?_, ?_, fun z => ?_⟩
          · rw [List.length_take, List.length_cons]; omega
          · rw [List.length_take]; omega
          · rw [List.length_take]; omega
    · obtain ⟨cs, F, rfl, s1, nF, hF, c1, c2, c3⟩ := p
      have hd1 := DIs.same s1 hd0
      refine wb_cons ?_
      refine ws_forGH (g := g12 K 3 4) PassesOwn.never rfl (pit_enumO (F := F) T.b_enumerate (pv_slQ (pv_name 0 rfl) (s1.seq hl) hd1 (po_some pe_s) (po_some pe_s) (po_pv (i := ((3 : Nat) : Int)) (pv_dat 1 rfl (DI.int 3))) (po_pv (i := ((63 : Nat) : Int)) pv_int)) ⟨_, hF⟩) (pgT2 sc_l_cells.nd rfl 3 4)
        (fun H2 i σ' H' => Off1 F H2 H' ∧ ∃ (cs : List Int) (o3 o4 o5 : Option V), σ' = [some (.ref l), some (.int 3), some (.ref F), o3, o4, o5] ∧ Same H H' ∧ H' F = some (.lst (cs.map V.int)) ∧ 1 ≤ cs.length ∧ cs.length ≤ 3 ∧ (3 < ns.length → cs.length = 3))
        (fun H2 s2 => ⟨Off1.refl _ _, cs, _, _, _, rfl, s1.trans s2, s2 _ _ hF, c1, c2, c3⟩) (fun H2 i σ' H' s2 _ p => p.1) (fun H2 i x σ' H3 H4 s2 hi p y => ?_) fun H2 σ' H3 s2 p => ?_
      · obtain ⟨oB, cs, o3, o4, o5, rfl, sH, hF3, c1, c2, c3⟩ := p
        obtain ⟨s4, T', v, d, rfl, hT, hd, dv⟩ := y
        rw [HT.sIx_nat, HT.sIx_nat, List.length_map, List.length_take, List.length_drop, List.length_map] at hi
        have l3 : 3 < ns.length := by omega
        have e3 := c3 l3
        obtain ⟨n, rfl⟩ : ∃ n : Int, d = .int n := by
          have hm := List.mem_of_mem_drop (List.mem_of_mem_take (List.mem_of_getElem? hd))
          obtain ⟨n, _, e⟩ := List.mem_map.mp hm
          exact ⟨n, e.symm⟩
        refine gto_t2 (d1 := .int (i : Int)) (d2 := .int n) (DI.mk hT (.cons (DI.int _) (.cons dv .nil))) fun v1 v2 h1 h2 => ?_
        have hF4 := s4 _ _ hF3
        refine wb_cons ?_
        refine ws_set (i := 5) (r := .i ((i % 3 : Nat) : Int)) sc_l_cells.nd (PV.is (pv_mod (pv_intI T.b_int (pv_dat 3 rfl h1)) (pv_dat 1 rfl (DI.int 3)) (by decide)) (congrArg Rs.i (by omega))) fun v5 H5 s5 p5 => ?_
        have p5 := Rs.pI p5
        subst p5
        have hF5 := s5 _ _ hF4
        have hk : i % 3 < cs.length := by omega
        have hg : cs[i % 3]? = some cs[i % 3] := List.getElem?_eq_getElem hk
        refine wb_one ?_
        refine ws_setIx (l := F) (xs := cs.map V.int) (k := i % 3) (r := .i (cs[i % 3] + n * ((i : Int) + 2))) (pv_add (pv_box (pv_name 2 rfl) hF5 (pv_dat 5 rfl (DI.int _)) hg) (pv_mul (pv_dat 4 rfl (h2.same s5)) (pv_add (pv_dat 3 rfl (h1.same s5)) pv_int) (.inr ⟨by omega, by omega⟩))) (pv_name 2 rfl) (pv_dat 5 rfl (DI.int _)) hF5 (by rw [List.length_map]; exact hk) fun v6 H6 s6 p6 => ?_
        have p6 := Rs.pI p6
        subst p6
        rw [← List.map_set]
        refine ⟨(oB.trans (.of ((s4.trans s5).trans s6))).trans (Off1.up _ _), cs.set (i % 3) (cs[i % 3] + n * ((i : Int) + 2)), _, _, _, rfl, Same.updN (((sH.trans s4).trans s5).trans s6) nF, upd_same, by rw [List.length_set]; exact c1, by rw [List.length_set]; exact c2, fun z => by rw [List.length_set]; exact c3 z⟩
      · obtain ⟨oB, cs, o3, o4, o5, rfl, sH, hF3, c1, c2, c3⟩ := p
        refine wb_one (ws_ret (r := .v (.ref F)) (pv_name 2 rfl) fun v4 H4 s4 p4 => ?_)
        have p4 : v4 = .ref F := p4
        exact q v4 H4 (sH.trans s4) ⟨F, p4, cs, s4 _ _ hF3, c1, c2⟩
def spLaw (K : PySem.W.Frag) : Sp := fun vs H Q _ => ∃ (l : Addr) (ns : List Int), vs = [.ref l] ∧ SqL K H l (ns.map V.int) ∧ ns.length ≤ 63 ∧ ∀ H2, Same H H2 → Q (.bl true) H2
theorem boxA_nn (c : Int) : 0 ≤ boxA c := by
  unfold boxA
  have := absI_nn c
  split
  · omega
  · omega
theorem boxB_nn (c : Int) (k : Nat) : 0 ≤ boxB c k := by
  unfold boxB
  omega
theorem fnok_of {k : Nat} {x : Str} {st : Stmt} {N ps : List Str} {sp : Sp} {f : Addr} {fd : FuncData} (F : Fun K x x st f fd) (S : FnScope N ps (defScope st)) (len : ∀ vs H Q E, sp vs H Q E → vs.length = ps.length)
    (hbody : ∀ (f : Addr) (cdv : Value) (A : Around) (outer : List Env) (s : Shared) (H : Hp) (vs : List V) (Q : VK) (E : XK), Room k (A.deeper (envOfC x (defScope st) s.heap.objs.size f cdv)) → sp vs H Q E →
      WB (cxOf CX0 P w K mg base N x (defScope st) f cdv A outer s H E).nox (defBody st) { nx := fun _ H' => Q .non H', rt := Q } (start N vs) H) : FnOk P w K mg base CX0 (k + 1) f fd ps sp :=
  F.ok S len fun cdv A outer s H vs Q E hr h => ⟨_, pss_w, hbody f cdv A outer s H vs Q E hr h⟩
theorem ok_law (T : Txt K mg) {fa : Addr} {fd : FuncData} (F : Fun K "law" "law" st_law fa fd) : FnOk P w K mg base CX0 10 fa fd ["_law_script"] (spLaw K) := by
  refine fnok_of F sc_law (fun vs H Q E h => ?_) (fun f cdv A outer s H vs Q E hr h => ?_)
  · obtain ⟨_, _, rfl, _⟩ := h; rfl
  · obtain ⟨l, ns, rfl, hl, hn, q⟩ := h
    have hu := hr.units
    refine wb_cons ?_
    refine ws_if (k := !true) (pb_not (pb_val (PV.of (pe_dfn0 (ok_bh T) hr) fun H1 hs => ⟨rfl, fun H2 s2 => ⟨s2, DI.bl _⟩⟩))) (fun z => nomatch z) fun _ H1 s1 => wb_nil ?_
    refine wb_cons ?_
    refine ws_set (i := 1) (r := .cells) sc_law.nd (pv_cal (ok_cells T) hr (pas_cons (pv_name 0 rfl) (pas_cons pv_int pas_nil)) ns fun H0 H' vs s0 s2 pr => ?_) fun v2 H2 s2 p2 => ?_
    · obtain ⟨z1, z2, rfl, a1, a2⟩ := rsl2 pr
      have a1 : z1 = .ref l := a1
      exact ⟨l, by rw [a1, Rs.pI a2], ((s1.trans s0).trans s2).seq hl, by show ns.length ≤ 1000; omega⟩
    · obtain ⟨p, rfl, cs, hp, c1, c2⟩ := p2
      have hcs : HDs H2 (cs.map V.int) cs := ints_hd cs
      refine wb_one ?_
      refine ws_ret (r := .b (((List.range cs.length).map fun _ => true).all id)) (pv_all (nz := (List.range cs.length).map fun _ => true) rfl T.b_all (PV.is (pv_lc0 (g := gName 2) (xs := List.range cs.length) (enc := fun (k : Nat) => .int (k : Int)) (f := fun _ => .bool true) rfl sc_law.nd (PIt.weak (pit_range (n := cs.length) T.b_range (PV.is (pv_lenV T.b_len (pv_name 1 rfl) (SqL.of hp)) (congrArg Rs.i (by rw [List.length_map]))) (by omega))) (blkOk_by (own := [("_law_k", 2)]) rfl)
        (fun _ _ _ _ _ => pg_name (i := 2) sc_law.nd rfl (Or.inl rfl)) (by rw [List.length_range]; omega) (fun k v' H3 hk h3 dv => gto_name ⟨rfl, fun s0 H0 C cl fp => ?_⟩)) (by show Rs.l _ = Rs.l _; rw [List.map_map]; rfl))) fun v4 H4 s4 p4 => ?_
      · have hk : k < cs.length := List.mem_range.mp hk
        have hg : cs[k]? = some cs[k] := List.getElem?_eq_getElem hk
        refine .of (pe_dfn (ok_right T) hr pa_s) fun H5 s5 => (pas_cons (pv_cal (ok_box T) hr (pas_cons (pv_name 1 rfl) (pas_cons (pv_dat 2 rfl (dv.same s5)) pas_nil)) (cs, k, cs[k]) fun H0 H' vs s0 s6 pr => ?_) pas_nil).t (Same.refl _) fun vs H6 s6 pr => ?_
        · obtain ⟨z1, z2, rfl, a1, a2⟩ := rsl2 pr
          have a1 : z1 = .ref p := a1
          exact ⟨p, cs.map V.int, by rw [a1, Rs.pI a2], (((h3.trans s5).trans s0).trans s6) _ _ hp, ints_hd cs, hg, by show cs.length ≤ 1000; omega⟩
        · obtain ⟨z, rfl, pz⟩ := rsl1 pr
          obtain ⟨b, ws, rfl, nb, hb, hws⟩ := pz
          have e : ws = [boxA cs[k], boxB cs[k] k, 0].map V.int := dis_ints (ns := [boxA cs[k], boxB cs[k] k, 0]) hws
          subst e
          refine ⟨b, 0, rfl, by decide, ⟨_, _, _, hb, boxA_nn _, boxB_nn _ _, by decide, by decide⟩, fun H7 off => ⟨?_, DI.bl _⟩⟩
          exact Off1.sameOf s6 off nb
      · have e : ((List.range cs.length).map fun _ => true).all id = true := by rw [List.all_map]; exact List.all_eq_true.mpr fun _ _ => rfl
        rw [e] at p4
        rw [Rs.pB p4]
        exact q H4 ((s1.trans s2).trans s4)
end
end Bx
set_option Elab.async false
set_option linter.all false
set_option maxRecDepth 100000
set_option maxHeartbeats 4000000
/-! G5: the end (printed by gen/g5.py). -/
namespace Bx
open PySem PySem.Spec PyProof.Rows L2
open PySem.W (Datum DatumOrd Holds HoldAll T3 T4 Tup EachIs minOf)
/-- what the written part tells; without the tuple that is made when the top runs -/
structure Txt0 (K : PySem.W.Frag) (mg : Str → Option Value) : Prop where
  h_tupled : Here K mg "tupled" st_tupled ["thing"]
  h_rises : Here K mg "rises" st_rises ["things"]
  h_is_name : Here K mg "is_name" st_is_name ["thing"]
  h_is_place : Here K mg "is_place" st_is_place ["thing"]
  h_is_bond : Here K mg "is_bond" st_is_bond ["thing"]
  h_is_pattern : Here K mg "is_pattern" st_is_pattern ["thing"]
  h_names_of : Here K mg "names_of" st_names_of ["pattern"]
  h_check_names : Here K mg "check_names" st_check_names ["pattern", "some"]
  h_renamed : Here K mg "renamed" st_renamed ["pattern", "pairs"]
  h_other_end : Here K mg "other_end" st_other_end ["end"]
  h_turned_about : Here K mg "turned_about" st_turned_about ["pattern"]
  h_turning : Here K mg "turning" st_turning ["near", "far"]
  h_steps_of : Here K mg "steps_of" st_steps_of ["ring"]
  h_ring_names : Here K mg "ring_names" st_ring_names ["ring"]
  h_turns : Here K mg "turns" st_turns ["ring"]
  h_turning_names : Here K mg "turning_names" st_turning_names ["ring"]
  h_is_round : Here K mg "is_round" st_is_round ["bonds"]
  h_is_ring : Here K mg "is_ring" st_is_ring ["pattern", "thing"]
  h_rings : Here K mg "rings" st_rings ["pattern"]
  h_how_many_rings : Here K mg "how_many_rings" st_how_many_rings ["pattern", "many"]
  h_walks_from : Here K mg "walks_from" st_walks_from ["pattern", "first", "is_weighed"]
  h_least_walk : Here K mg "least_walk" st_least_walk ["pattern", "is_weighed"]
  h_begun_least : Here K mg "begun_least" st_begun_least ["bonds"]
  h_least_turns : Here K mg "least_turns" st_least_turns ["pattern"]
  h_least_ring : Here K mg "least_ring" st_least_ring ["pattern"]
  h_is_least_ring : Here K mg "is_least_ring" st_is_least_ring ["pattern", "thing"]
  h_on_rings : Here K mg "on_rings" st_on_rings ["pattern"]
  h_l_box : Here K mg "_law_box" st_l_box ["_law_script", "_law_k"]
  h_l_take : Here K mg "_law_take" st_l_take ["_law_box_here", "_law_below_so"]
  h_l_cells : Here K mg "_law_cells" st_l_cells ["_law_script", "_law_most_so"]
  h_l_of : Here K mg "_law_of" st_l_of ["_law_box_here", "_law_pool_so"]
  h_l_same : Here K mg "_law_same" st_l_same ["_law_got", "_law_due_so"]
  h_l_mixed : Here K mg "_law_mixed" st_l_mixed ["_law_box_here", "_law_rows_so"]
  h_l_bond : Here K mg "_law_bond" st_l_bond ["_law_box_here", "_law_names_so"]
  h_l_pattern : Here K mg "_law_pattern" st_l_pattern ["_law_box_here", "_law_many_so", "_law_bonds_so"]
  h_l_patterns_by_hand : Here K mg "_law_patterns_by_hand" st_l_patterns_by_hand []
  h_l_pattern_right : Here K mg "_law_pattern_right" st_l_pattern_right ["_law_pattern_so", "_law_new_so"]
  h_l_by_hand_right : Here K mg "_law_by_hand_right" st_l_by_hand_right []
  h_l_right : Here K mg "_law_right" st_l_right ["_law_box_here"]
  h_law : Here K mg "law" st_law ["_law_script"]
  b_len : mg "len" = none
  b_tuple : mg "tuple" = none
  b_sorted : mg "sorted" = none
  b_set : mg "set" = none
  b_zip : mg "zip" = none
  b_list : mg "list" = none
  b_isinstance : mg "isinstance" = none
  b_int : mg "int" = none
  b_sum : mg "sum" = none
  b_all : mg "all" = none
  b_abs : mg "abs" = none
  b_min : mg "min" = none
  b_range : mg "range" = none
  b_enumerate : mg "enumerate" = none
  b_dict : mg "dict" = none
  b_bool : mg "bool" = none
  b_str : mg "str" = none
  c_NAMES : ∃ t, mg "NAMES" = some (.str "abcdefgh" t)
  c_HANDED_OVER : ∃ t, mg "HANDED_OVER" = some (.str "r" t)
  c_HANDED_IN : ∃ t, mg "HANDED_IN" = some (.str "s" t)
  c_LAST : ∃ t, mg "LAST" = some (.str "r" t)
  c_FIRST : ∃ t, mg "FIRST" = some (.str "s" t)
  c_FOUR : ∃ t, mg "FOUR" = some (.int 4 t)
/-- K' tells all that K tells -/
def Ext (K K' : PySem.W.Frag) : Prop := ∀ a o, K.lookup a = some o → K'.lookup a = some o
theorem code_ext {K K' : PySem.W.Frag} (e : Ext K K') {cd : Value} {q : Str} (h : PySem.W.codeIn K cd q = true) : PySem.W.codeIn K' cd q = true := by
  unfold PySem.W.codeIn at h ⊢
  cases cd <;> try (cases h)
  rename_i c
  dsimp only at h ⊢
  cases hc : K.lookup c with
  | none => rw [hc] at h; cases h
  | some o => rw [hc] at h; rw [e _ _ hc]; exact h
theorem Fun.ext {K K' : PySem.W.Frag} (e : Ext K K') {x q : Str} {st : Stmt} {f : Addr} {fd : FuncData} (F : Fun K x q st f fd) : Fun K' x q st f fd := by
  obtain ⟨oc, od, kV, doc, pm, an, cdv, ct, osl, h1, lk, hcd⟩ := F.ex
  refine ⟨⟨oc, od, kV, doc, pm, an, cdv, ct, osl, h1, e _ _ lk, code_ext e hcd⟩, ?_⟩
  unfold PySem.W.keepIn
  dsimp only
  rw [e _ _ lk]
theorem Here.ext {K K' : PySem.W.Frag} (e : Ext K K') {mg : Str → Option Value} {x : Str} {st : Stmt} {ps : List Str} (h : Here K mg x st ps) : Here K' mg x st ps := by
  obtain ⟨f, fd, F, hm, hb⟩ := h.ex
  exact ⟨f, fd, Fun.ext e F, hm, fun s us X hl => hb s us (fun a o k => X a o (e a o k)) hl⟩
theorem here_mk {K : PySem.W.Frag} {h : Heap} {mg : Str → Option Value} {x : Str} {st : Stmt} {ps : List Str} {f : Addr} {oc : Value} {od : Option Addr} {kV doc pm : Value} {an : Option Addr} {cdv ct : Value} {osl : Array (Option Value)} (X : K.In h) (G : h.Ns mainGlobals mg)
    (a : PySem.W.nsIn K mainGlobals x = some (some (.ref f))) (l : K.lookup f = some ⟨oc, od, .func (PySem.W.fnOf x x (defArgs st) (defBody st) (defScope st) .none kV doc pm an cdv ct), osl⟩) (c : PySem.W.codeIn K cdv x = true) (k : PySem.W.keepIn K (.ref f) = true)
    (hb : ∀ (kV doc pm : Value) (an : Option Addr) (cdv ct : Value) (us : List Value), us.length = ps.length → bindArgs (PySem.W.fnOf x x (defArgs st) (defBody st) (defScope st) .none kV doc pm an cdv ct) ⟨us, []⟩ = pure (ps.zip us)) : Here K mg x st ps := by
  have F := fun_mk (st := st) l c k
  exact ⟨f, _, F, PySem.W.mg_of X G a, F.binds hb⟩
theorem const_str {K : PySem.W.Frag} {h : Heap} {mg : Str → Option Value} {x z : Str} {v : Value} (X : K.In h) (G : h.Ns mainGlobals mg) (e : PySem.W.nsIn K mainGlobals x = some (some v)) (hv : ∃ t, v = .str z t) : ∃ t, mg x = some (.str z t) := by
  obtain ⟨t, rfl⟩ := hv
  exact ⟨t, PySem.W.mg_of X G e⟩
theorem const_int {K : PySem.W.Frag} {h : Heap} {mg : Str → Option Value} {x : Str} {z : Int} {v : Value} (X : K.In h) (G : h.Ns mainGlobals mg) (e : PySem.W.nsIn K mainGlobals x = some (some v)) (hv : ∃ t, v = .int z t) : ∃ t, mg x = some (.int z t) := by
  obtain ⟨t, rfl⟩ := hv
  exact ⟨t, PySem.W.mg_of X G e⟩
theorem Txt.mkL {K : PySem.W.Frag} {mg : Str → Option Value} {h : Heap} (T : Txt0 K mg) (X : K.In h) (L : PySem.W.LooseAre [("ENDS", .tuple [.str "r", .str "s"])] mg h) : ∃ K' : PySem.W.Frag, K'.In h ∧ Ext K K' ∧ Txt K' mg := by
  obtain ⟨v, hm, hr⟩ := L.val _ List.mem_cons_self
  obtain ⟨a, o, vs, n, rfl, ho, hc, hd, hv⟩ : ∃ (a : Addr) (o : Obj) (vs : Array Value) (n : Nat), v = .ref a ∧ h.get? a = some o ∧ o.cls = .type "tuple" ∧ o.data = .seq vs n ∧ Vals [V.str "r", V.str "s"] vs.toList := by
    cases hr with
    | @tuple a o vs n xs as h1 h2 h3 h4 =>
      refine ⟨a, o, vs, n, rfl, h1, h2, h3, ?_⟩
      generalize vs.toList = us at h4
      generalize ([] : List Addr) = ax at h4
      cases h4 with
      | cons r1 r2 => cases r2 with
        | cons r3 r4 =>
          cases r4
          cases r1
          cases r3
          exact .cons ⟨_, rfl⟩ (.cons ⟨_, rfl⟩ .nil)
  have hz : vs.size ≤ sizeLine := by
    have h2 : vs.size = 2 := by have := hv.length; simpa using this.symm
    rw [h2]
    decide
  have e : Ext K ((a, o) :: K) := fun b u k => by
    rw [List.lookup_cons]
    by_cases hb : b = a
    · subst hb
      rw [X _ _ k] at ho
      cases ho
      simp
    · have : (b == a) = false := by simpa using hb
      rw [this]
      exact k
  have X' : PySem.W.Frag.In ((a, o) :: K) h := fun b u k => by
    rw [List.lookup_cons] at k
    by_cases hb : b = a
    · subst hb
      simp at k
      rw [← k]
      exact ho
    · have : (b == a) = false := by simpa using hb
      rw [this] at k
      exact X _ _ k
  refine ⟨(a, o) :: K, X', e, {
    h_tupled := T.h_tupled.ext e
    h_rises := T.h_rises.ext e
    h_is_name := T.h_is_name.ext e
    h_is_place := T.h_is_place.ext e
    h_is_bond := T.h_is_bond.ext e
    h_is_pattern := T.h_is_pattern.ext e
    h_names_of := T.h_names_of.ext e
    h_check_names := T.h_check_names.ext e
    h_renamed := T.h_renamed.ext e
    h_other_end := T.h_other_end.ext e
    h_turned_about := T.h_turned_about.ext e
    h_turning := T.h_turning.ext e
    h_steps_of := T.h_steps_of.ext e
    h_ring_names := T.h_ring_names.ext e
    h_turns := T.h_turns.ext e
    h_turning_names := T.h_turning_names.ext e
    h_is_round := T.h_is_round.ext e
    h_is_ring := T.h_is_ring.ext e
    h_rings := T.h_rings.ext e
    h_how_many_rings := T.h_how_many_rings.ext e
    h_walks_from := T.h_walks_from.ext e
    h_least_walk := T.h_least_walk.ext e
    h_begun_least := T.h_begun_least.ext e
    h_least_turns := T.h_least_turns.ext e
    h_least_ring := T.h_least_ring.ext e
    h_is_least_ring := T.h_is_least_ring.ext e
    h_on_rings := T.h_on_rings.ext e
    h_l_box := T.h_l_box.ext e
    h_l_take := T.h_l_take.ext e
    h_l_cells := T.h_l_cells.ext e
    h_l_of := T.h_l_of.ext e
    h_l_same := T.h_l_same.ext e
    h_l_mixed := T.h_l_mixed.ext e
    h_l_bond := T.h_l_bond.ext e
    h_l_pattern := T.h_l_pattern.ext e
    h_l_patterns_by_hand := T.h_l_patterns_by_hand.ext e
    h_l_pattern_right := T.h_l_pattern_right.ext e
    h_l_by_hand_right := T.h_l_by_hand_right.ext e
    h_l_right := T.h_l_right.ext e
    h_law := T.h_law.ext e
    b_len := T.b_len
    b_tuple := T.b_tuple
    b_sorted := T.b_sorted
    b_set := T.b_set
    b_zip := T.b_zip
    b_list := T.b_list
    b_isinstance := T.b_isinstance
    b_int := T.b_int
    b_sum := T.b_sum
    b_all := T.b_all
    b_abs := T.b_abs
    b_min := T.b_min
    b_range := T.b_range
    b_enumerate := T.b_enumerate
    b_dict := T.b_dict
    b_bool := T.b_bool
    b_str := T.b_str
    c_NAMES := T.c_NAMES
    c_HANDED_OVER := T.c_HANDED_OVER
    c_HANDED_IN := T.c_HANDED_IN
    c_LAST := T.c_LAST
    c_FIRST := T.c_FIRST
    c_FOUR := T.c_FOUR
    c_ENDS := ⟨a, hm, fun H => .inr ⟨o, vs, n, by rw [List.lookup_cons]; simp, hc, hd, hz, hv⟩⟩
  }⟩
/-- the goal that the head leaves, where the top has made loose things -/
theorem walk_ofL {l : PySem.W.OpenLaw} {n k : Nat} {q : Program} {loose : List Str} {lv : List (Str × PySem.W.WData)} {YP : World → Heap → Prop} {d : DefRec} {K : Params → PySem.W.Frag} {sp : PySem.W.Frag → Sp} {x : Str}
    (hn : l.most = some n) (hn2 : n ≤ sizeLine) (hdf : d.params.defaults = []) (hr : Room k callerA)
    (hY : ∀ (w : World) (h : Heap), YP w h → (K w.params).In h)
    (F : ∀ (w : World) (mg : Str → Option Value) (fa : Addr) (h : Heap), (K w.params).In h → h.Ns mainGlobals mg → mg d.name = some (.ref fa) → PySem.W.LooseAre lv mg h →
      ∃ (K' : PySem.W.Frag) (fd : FuncData), K'.In h ∧ (∀ (s : Shared) (u : Value), BindsTo s fd ⟨[u], []⟩ [(x, u)]) ∧
        ∀ base : Heap, K'.In base → base.Ns mainGlobals mg → FnOk l.prog w K' mg base CX0 k fa fd [x] (sp K'))
    (hsp : ∀ (K : PySem.W.Frag) (H : Hp) (a : Addr) (ns : List Int), ns.length ≤ n → Only H → SqL K H a (ns.map V.int) → sp K [.ref a] H (fun v _ => v = .bl true) fun _ _ _ => False) :
    PySem.W.WalkO q loose (PySem.W.XL q lv) YP l.row.toRowW d [] (fun f vs => PySem.call f vs) := by
  refine Att.attach_call hn hdf fun w s₀ s₁ mg mb fa o pm cd doc a vs ns G Y ho hd hcd hmg hobj hints hlen hg => ?_
  have KX := hY w _ Y
  obtain ⟨K', fd, KX', hb, hF⟩ := F w mg fa _ KX G.T.g hmg G.X.2
  exact law_call KX' G.T.g G.T.b G.T.builtins G.T.nolimit hg hobj hints (Nat.le_trans hlen hn2) hr hF hb (fun H hO hS => hsp K' H a ns hlen hO hS) fun H e s' h => h
theorem fin {P : Program} {w : World} {K : PySem.W.Frag} {mg : Str → Option Value} {fa : Addr} {h : Heap} (X : K.In h) (G : h.Ns mainGlobals mg) (hm : mg "law" = some (.ref fa)) (L : PySem.W.LooseAre [("ENDS", .tuple [.str "r", .str "s"])] mg h) (T : Txt0 K mg) :
    ∃ (K' : PySem.W.Frag) (fd : FuncData), K'.In h ∧ (∀ (s : Shared) (u : Value), BindsTo s fd ⟨[u], []⟩ [("_law_script", u)]) ∧
        ∀ base : Heap, K'.In base → base.Ns mainGlobals mg → FnOk P w K' mg base CX0 10 fa fd ["_law_script"] (spLaw K') := by
  obtain ⟨K', X', e, T'⟩ := Txt.mkL T X L
  obtain ⟨f, fd, F, hf, _⟩ := T'.h_law.ex
  rw [hf] at hm
  cases hm
  have F' := F
  obtain ⟨oc, od, kV, doc, pm, an, cdv, ct, osl, rfl, lk, hcd⟩ := F.ex
  exact ⟨K', _, X', fun s u => .of_eq rfl, fun base _ _ => ok_law T' F'⟩
end Bx
open PySem PySem.W PyProof.Rows
set_option Elab.async false
set_option maxRecDepth 100000
set_option maxHeartbeats 0 in
theorem PySem.Challenge.cw_barredcrossings_k16_whole_rings_holds : PySem.Challenge.rw_barredcrossings_k16_whole_rings.Holds := by
  w_on; o_law; k_head; (case hw => w_witness2)
  k_fill
  refine Bx.walk_ofL (l := PySem.Challenge.rw_barredcrossings_k16_whole_rings) (n := 63) (k := 10) (x := "_law_script") (sp := Bx.spLaw) rfl (by decide) rfl ⟨rfl, by decide, by decide⟩ (fun w h Y => PySem.W.kIn_of Y) ?F (fun K H a ns hl _ hS => ⟨a, ns, rfl, hS, hl, fun _ _ => rfl⟩)
  case F =>
    intro w mg fa h KX G hmg L
    refine Bx.fin KX G hmg L ?_
    refine' Bx.Txt0.mk
      (Bx.here_mk KX G ?a1 ?l1 ?c1 ?k1 (fun _ _ _ _ _ _ us hl => match us, hl with | [_], _ => rfl))
      (Bx.here_mk KX G ?a2 ?l2 ?c2 ?k2 (fun _ _ _ _ _ _ us hl => match us, hl with | [_], _ => rfl))
      (Bx.here_mk KX G ?a3 ?l3 ?c3 ?k3 (fun _ _ _ _ _ _ us hl => match us, hl with | [_], _ => rfl))
      (Bx.here_mk KX G ?a4 ?l4 ?c4 ?k4 (fun _ _ _ _ _ _ us hl => match us, hl with | [_], _ => rfl))
      (Bx.here_mk KX G ?a5 ?l5 ?c5 ?k5 (fun _ _ _ _ _ _ us hl => match us, hl with | [_], _ => rfl))
      (Bx.here_mk KX G ?a6 ?l6 ?c6 ?k6 (fun _ _ _ _ _ _ us hl => match us, hl with | [_], _ => rfl))
      (Bx.here_mk KX G ?a7 ?l7 ?c7 ?k7 (fun _ _ _ _ _ _ us hl => match us, hl with | [_], _ => rfl))
      (Bx.here_mk KX G ?a8 ?l8 ?c8 ?k8 (fun _ _ _ _ _ _ us hl => match us, hl with | [_, _], _ => rfl))
      (Bx.here_mk KX G ?a9 ?l9 ?c9 ?k9 (fun _ _ _ _ _ _ us hl => match us, hl with | [_, _], _ => rfl))
      (Bx.here_mk KX G ?a10 ?l10 ?c10 ?k10 (fun _ _ _ _ _ _ us hl => match us, hl with | [_], _ => rfl))
      (Bx.here_mk KX G ?a11 ?l11 ?c11 ?k11 (fun _ _ _ _ _ _ us hl => match us, hl with | [_], _ => rfl))
      (Bx.here_mk KX G ?a12 ?l12 ?c12 ?k12 (fun _ _ _ _ _ _ us hl => match us, hl with | [_, _], _ => rfl))
      (Bx.here_mk KX G ?a13 ?l13 ?c13 ?k13 (fun _ _ _ _ _ _ us hl => match us, hl with | [_], _ => rfl))
      (Bx.here_mk KX G ?a14 ?l14 ?c14 ?k14 (fun _ _ _ _ _ _ us hl => match us, hl with | [_], _ => rfl))
      (Bx.here_mk KX G ?a15 ?l15 ?c15 ?k15 (fun _ _ _ _ _ _ us hl => match us, hl with | [_], _ => rfl))
      (Bx.here_mk KX G ?a16 ?l16 ?c16 ?k16 (fun _ _ _ _ _ _ us hl => match us, hl with | [_], _ => rfl))
      (Bx.here_mk KX G ?a17 ?l17 ?c17 ?k17 (fun _ _ _ _ _ _ us hl => match us, hl with | [_], _ => rfl))
      (Bx.here_mk KX G ?a18 ?l18 ?c18 ?k18 (fun _ _ _ _ _ _ us hl => match us, hl with | [_, _], _ => rfl))
      (Bx.here_mk KX G ?a19 ?l19 ?c19 ?k19 (fun _ _ _ _ _ _ us hl => match us, hl with | [_], _ => rfl))
      (Bx.here_mk KX G ?a20 ?l20 ?c20 ?k20 (fun _ _ _ _ _ _ us hl => match us, hl with | [_, _], _ => rfl))
      (Bx.here_mk KX G ?a21 ?l21 ?c21 ?k21 (fun _ _ _ _ _ _ us hl => match us, hl with | [_, _, _], _ => rfl))
      (Bx.here_mk KX G ?a22 ?l22 ?c22 ?k22 (fun _ _ _ _ _ _ us hl => match us, hl with | [_, _], _ => rfl))
      (Bx.here_mk KX G ?a23 ?l23 ?c23 ?k23 (fun _ _ _ _ _ _ us hl => match us, hl with | [_], _ => rfl))
      (Bx.here_mk KX G ?a24 ?l24 ?c24 ?k24 (fun _ _ _ _ _ _ us hl => match us, hl with | [_], _ => rfl))
      (Bx.here_mk KX G ?a25 ?l25 ?c25 ?k25 (fun _ _ _ _ _ _ us hl => match us, hl with | [_], _ => rfl))
      (Bx.here_mk KX G ?a26 ?l26 ?c26 ?k26 (fun _ _ _ _ _ _ us hl => match us, hl with | [_, _], _ => rfl))
      (Bx.here_mk KX G ?a27 ?l27 ?c27 ?k27 (fun _ _ _ _ _ _ us hl => match us, hl with | [_], _ => rfl))
      (Bx.here_mk KX G ?a28 ?l28 ?c28 ?k28 (fun _ _ _ _ _ _ us hl => match us, hl with | [_, _], _ => rfl))
      (Bx.here_mk KX G ?a29 ?l29 ?c29 ?k29 (fun _ _ _ _ _ _ us hl => match us, hl with | [_, _], _ => rfl))
      (Bx.here_mk KX G ?a30 ?l30 ?c30 ?k30 (fun _ _ _ _ _ _ us hl => match us, hl with | [_, _], _ => rfl))
      (Bx.here_mk KX G ?a31 ?l31 ?c31 ?k31 (fun _ _ _ _ _ _ us hl => match us, hl with | [_, _], _ => rfl))
      (Bx.here_mk KX G ?a32 ?l32 ?c32 ?k32 (fun _ _ _ _ _ _ us hl => match us, hl with | [_, _], _ => rfl))
      (Bx.here_mk KX G ?a33 ?l33 ?c33 ?k33 (fun _ _ _ _ _ _ us hl => match us, hl with | [_, _], _ => rfl))
      (Bx.here_mk KX G ?a34 ?l34 ?c34 ?k34 (fun _ _ _ _ _ _ us hl => match us, hl with | [_, _], _ => rfl))
      (Bx.here_mk KX G ?a35 ?l35 ?c35 ?k35 (fun _ _ _ _ _ _ us hl => match us, hl with | [_, _, _], _ => rfl))
      (Bx.here_mk KX G ?a36 ?l36 ?c36 ?k36 (fun _ _ _ _ _ _ us hl => match us, hl with | [], _ => rfl))
      (Bx.here_mk KX G ?a37 ?l37 ?c37 ?k37 (fun _ _ _ _ _ _ us hl => match us, hl with | [_, _], _ => rfl))
      (Bx.here_mk KX G ?a38 ?l38 ?c38 ?k38 (fun _ _ _ _ _ _ us hl => match us, hl with | [], _ => rfl))
      (Bx.here_mk KX G ?a39 ?l39 ?c39 ?k39 (fun _ _ _ _ _ _ us hl => match us, hl with | [_], _ => rfl))
      (Bx.here_mk KX G ?a40 ?l40 ?c40 ?k40 (fun _ _ _ _ _ _ us hl => match us, hl with | [_], _ => rfl))
      (PySem.W.mg_none_of KX G ?z41)
      (PySem.W.mg_none_of KX G ?z42)
      (PySem.W.mg_none_of KX G ?z43)
      (PySem.W.mg_none_of KX G ?z44)
      (PySem.W.mg_none_of KX G ?z45)
      (PySem.W.mg_none_of KX G ?z46)
      (PySem.W.mg_none_of KX G ?z47)
      (PySem.W.mg_none_of KX G ?z48)
      (PySem.W.mg_none_of KX G ?z49)
      (PySem.W.mg_none_of KX G ?z50)
      (PySem.W.mg_none_of KX G ?z51)
      (PySem.W.mg_none_of KX G ?z52)
      (PySem.W.mg_none_of KX G ?z53)
      (PySem.W.mg_none_of KX G ?z54)
      (PySem.W.mg_none_of KX G ?z55)
      (PySem.W.mg_none_of KX G ?z56)
      (PySem.W.mg_none_of KX G ?z57)
      (Bx.const_str KX G ?v58 ?w58)
      (Bx.const_str KX G ?v59 ?w59)
      (Bx.const_str KX G ?v60 ?w60)
      (Bx.const_str KX G ?v61 ?w61)
      (Bx.const_str KX G ?v62 ?w62)
      (Bx.const_int KX G ?v63 ?w63)
    (case a1 => k_is); (case l1 => k_is); (case c1 => k_is); (case k1 => k_is)
    (case a2 => k_is); (case l2 => k_is); (case c2 => k_is); (case k2 => k_is)
    (case a3 => k_is); (case l3 => k_is); (case c3 => k_is); (case k3 => k_is)
    (case a4 => k_is); (case l4 => k_is); (case c4 => k_is); (case k4 => k_is)
    (case a5 => k_is); (case l5 => k_is); (case c5 => k_is); (case k5 => k_is)
    (case a6 => k_is); (case l6 => k_is); (case c6 => k_is); (case k6 => k_is)
    (case a7 => k_is); (case l7 => k_is); (case c7 => k_is); (case k7 => k_is)
    (case a8 => k_is); (case l8 => k_is); (case c8 => k_is); (case k8 => k_is)
    (case a9 => k_is); (case l9 => k_is); (case c9 => k_is); (case k9 => k_is)
    (case a10 => k_is); (case l10 => k_is); (case c10 => k_is); (case k10 => k_is)
    (case a11 => k_is); (case l11 => k_is); (case c11 => k_is); (case k11 => k_is)
    (case a12 => k_is); (case l12 => k_is); (case c12 => k_is); (case k12 => k_is)
    (case a13 => k_is); (case l13 => k_is); (case c13 => k_is); (case k13 => k_is)
    (case a14 => k_is); (case l14 => k_is); (case c14 => k_is); (case k14 => k_is)
    (case a15 => k_is); (case l15 => k_is); (case c15 => k_is); (case k15 => k_is)
    (case a16 => k_is); (case l16 => k_is); (case c16 => k_is); (case k16 => k_is)
    (case a17 => k_is); (case l17 => k_is); (case c17 => k_is); (case k17 => k_is)
    (case a18 => k_is); (case l18 => k_is); (case c18 => k_is); (case k18 => k_is)
    (case a19 => k_is); (case l19 => k_is); (case c19 => k_is); (case k19 => k_is)
    (case a20 => k_is); (case l20 => k_is); (case c20 => k_is); (case k20 => k_is)
    (case a21 => k_is); (case l21 => k_is); (case c21 => k_is); (case k21 => k_is)
    (case a22 => k_is); (case l22 => k_is); (case c22 => k_is); (case k22 => k_is)
    (case a23 => k_is); (case l23 => k_is); (case c23 => k_is); (case k23 => k_is)
    (case a24 => k_is); (case l24 => k_is); (case c24 => k_is); (case k24 => k_is)
    (case a25 => k_is); (case l25 => k_is); (case c25 => k_is); (case k25 => k_is)
    (case a26 => k_is); (case l26 => k_is); (case c26 => k_is); (case k26 => k_is)
    (case a27 => k_is); (case l27 => k_is); (case c27 => k_is); (case k27 => k_is)
    (case a28 => k_is); (case l28 => k_is); (case c28 => k_is); (case k28 => k_is)
    (case a29 => k_is); (case l29 => k_is); (case c29 => k_is); (case k29 => k_is)
    (case a30 => k_is); (case l30 => k_is); (case c30 => k_is); (case k30 => k_is)
    (case a31 => k_is); (case l31 => k_is); (case c31 => k_is); (case k31 => k_is)
    (case a32 => k_is); (case l32 => k_is); (case c32 => k_is); (case k32 => k_is)
    (case a33 => k_is); (case l33 => k_is); (case c33 => k_is); (case k33 => k_is)
    (case a34 => k_is); (case l34 => k_is); (case c34 => k_is); (case k34 => k_is)
    (case a35 => k_is); (case l35 => k_is); (case c35 => k_is); (case k35 => k_is)
    (case a36 => k_is); (case l36 => k_is); (case c36 => k_is); (case k36 => k_is)
    (case a37 => k_is); (case l37 => k_is); (case c37 => k_is); (case k37 => k_is)
    (case a38 => k_is); (case l38 => k_is); (case c38 => k_is); (case k38 => k_is)
    (case a39 => k_is); (case l39 => k_is); (case c39 => k_is); (case k39 => k_is)
    (case a40 => k_is); (case l40 => k_is); (case c40 => k_is); (case k40 => k_is)
    (case z41 => k_is)
    (case z42 => k_is)
    (case z43 => k_is)
    (case z44 => k_is)
    (case z45 => k_is)
    (case z46 => k_is)
    (case z47 => k_is)
    (case z48 => k_is)
    (case z49 => k_is)
    (case z50 => k_is)
    (case z51 => k_is)
    (case z52 => k_is)
    (case z53 => k_is)
    (case z54 => k_is)
    (case z55 => k_is)
    (case z56 => k_is)
    (case z57 => k_is)
    (case v58 => k_is); (case w58 => exact ⟨_, rfl⟩)
    (case v59 => k_is); (case w59 => exact ⟨_, rfl⟩)
    (case v60 => k_is); (case w60 => exact ⟨_, rfl⟩)
    (case v61 => k_is); (case w61 => exact ⟨_, rfl⟩)
    (case v62 => k_is); (case w62 => exact ⟨_, rfl⟩)
    (case v63 => k_is); (case w63 => exact ⟨_, rfl⟩)
