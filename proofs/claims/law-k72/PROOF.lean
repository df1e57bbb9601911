import PyProof.Rows.All
import Wide.All
import OpenK.AllK
import Wide.FinOn
import HandS.ForMost
import HandS.TupAny
import HandS.TupMul
import HandS.Zip
import HandS.IsInst
import HandS.Flow
import HandS.Style
import HandS.Codes
import HandS.Head0
import HandS.Head1
import HandS.Head2
import HandS.HeadEnd
import HandS.HeadHook1
import HandS.HeadHook2
import HandS.HeadHook3
import HandS.HeadHook4
import HandS.SetFor
import HandS.Strs
import HandS.SetBool
import KE.SortData
import KE.GoesEnum
import KE.KRevSl
import HandS.Keys
import HandS.SortInts
import HandS.Conv
import HandS.DictComp
import PySem.Challenge.RW_hintring_k72_whole_moves_behind_one_anot
set_option Elab.async false
set_option linter.all false
set_option maxRecDepth 100000
set_option maxHeartbeats 1000000
/-! Layer of my own over HandS: judgements on plain data (PyData), heaps hidden. -/
namespace DL
open PySem PySem.Spec PyProof.Rows L2

/-! ### data at a value -/
mutual
inductive Rp (K : PySem.W.Frag) (F : Hp) : V → PyData → Prop
  | non : Rp K F .non .none
  | bl (b : Bool) : Rp K F (.bl b) (.bool b)
  | int (i : Int) : Rp K F (.int i) (.int i)
  | str (x : Str) : Rp K F (.str x) (.str x)
  | lst {a : Addr} {xs : List V} {ds : List PyData} : F a = some (.lst xs) → RpA K F xs ds → Rp K F (.ref a) (.list ds)
  | tup {a : Addr} {xs : List V} {ds : List PyData} : SqT K F a xs → RpA K F xs ds → Rp K F (.ref a) (.tuple ds)
  /-- a list of ints that is only read (the script): written as a dict, which is nothing else here -/
  | scr {a : Addr} {ks : List (PyData × PyData)} {ns : List Int} : ks = ns.map (fun i => (.int i, .none)) → SqL K F a (ns.map V.int) → Rp K F (.ref a) (.dict ks)
inductive RpA (K : PySem.W.Frag) (F : Hp) : List V → List PyData → Prop
  | nil : RpA K F [] []
  | cons {v : V} {vs : List V} {d : PyData} {ds : List PyData} : Rp K F v d → RpA K F vs ds → RpA K F (v :: vs) (d :: ds)
end
section
variable {K : PySem.W.Frag} {F F' H H' : Hp}
theorem sqt_mono (e : Same F F') {a : Addr} {xs : List V} (h : SqT K F a xs) : SqT K F' a xs := by
  rcases h with (h | ⟨o, h⟩) | h
  · exact .inl (.inl (e _ _ h))
  · exact .inl (.inr ⟨o, e _ _ h⟩)
  · exact .inr h
theorem sql_mono (e : Same F F') {a : Addr} {xs : List V} (h : SqL K F a xs) : SqL K F' a xs := by
  rcases h with (h | ⟨o, h⟩) | h
  · exact .inl (.inl (e _ _ h))
  · exact .inl (.inr ⟨o, e _ _ h⟩)
  · exact .inr h
mutual
theorem Rp.mono (e : Same F F') : ∀ {d : PyData} {v : V}, Rp K F v d → Rp K F' v d
  | .none, v, h => by cases h; exact .non
  | .bool b, v, h => by cases h; exact .bl b
  | .int i, v, h => by cases h; exact .int i
  | .str x, v, h => by cases h; exact .str x
  | .list ds, v, h => by
    cases h with
    | lst h1 h2 => exact .lst (e _ _ h1) (RpA.mono e h2)
  | .tuple ds, v, h => by
    cases h with
    | tup h1 h2 => exact .tup (sqt_mono e h1) (RpA.mono e h2)
  | .dict _, v, h => by
    cases h with
    | scr e1 h1 => exact .scr e1 (sql_mono e h1)
theorem RpA.mono (e : Same F F') : ∀ {ds : List PyData} {vs : List V}, RpA K F vs ds → RpA K F' vs ds
  | [], vs, h => by cases h; exact .nil
  | d :: ds, vs, h => by
    cases h with
    | cons h1 h2 => exact .cons (Rp.mono e h1) (RpA.mono e h2)
end
mutual
theorem Rp.dp : ∀ {d : PyData} {v : V}, d.canLay0 = true → Rp K F v d → Dp K F v d
  | .none, v, _, h => by cases h; exact .non
  | .bool b, v, _, h => by cases h; exact .bl b
  | .int i, v, _, h => by cases h; exact .int i
  | .str x, v, _, h => by cases h; exact .str x
  | .list ds, v, c, h => by
    rw [PyData.canLay0] at c
    cases h with
    | lst h1 h2 => exact .lst (SqL.of h1) (RpA.dp c h2)
  | .tuple ds, v, c, h => by
    rw [PyData.canLay0] at c
    cases h with
    | tup h1 h2 => exact .tup h1 (RpA.dp c h2)
  | .dict _, v, c, h => by
    rw [PyData.canLay0] at c
    cases c
theorem RpA.dp : ∀ {ds : List PyData} {vs : List V}, PyData.canLayAll0 ds = true → RpA K F vs ds → DpAll K F vs ds
  | [], vs, _, h => by cases h; exact .nil
  | d :: ds, vs, c, h => by
    rw [PyData.canLayAll0, Bool.and_eq_true] at c
    cases h with
    | cons h1 h2 => exact .cons (Rp.dp c.1 h1) (RpA.dp c.2 h2)
end
theorem RpA.length : ∀ {ds : List PyData} {vs : List V}, RpA K F vs ds → vs.length = ds.length
  | [], vs, h => by cases h; rfl
  | d :: ds, vs, h => by
    cases h with
    | cons h1 h2 => exact congrArg (· + 1) (RpA.length h2)
theorem RpA.get : ∀ {ds : List PyData} {vs : List V} {i : Nat} {d : PyData}, RpA K F vs ds → ds[i]? = some d → ∃ v, vs[i]? = some v ∧ Rp K F v d
  | [], vs, i, d, h, e => by simp at e
  | x :: ds, vs, 0, d, h, e => by
    cases h with
    | cons h1 h2 =>
      cases (show x = d from Option.some.inj e)
      exact ⟨_, rfl, h1⟩
  | x :: ds, vs, i + 1, d, h, e => by
    cases h with
    | cons h1 h2 =>
      obtain ⟨v, e1, e2⟩ := RpA.get (i := i) h2 e
      exact ⟨v, e1, e2⟩
theorem RpA.getV : ∀ {ds : List PyData} {vs : List V} {i : Nat} {v : V}, RpA K F vs ds → vs[i]? = some v → ∃ d, ds[i]? = some d ∧ Rp K F v d
  | [], vs, i, d, h, e => by cases h; simp at e
  | x :: ds, vs, 0, v, h, e => by
    cases h with
    | cons h1 h2 =>
      cases (show _ = v from Option.some.inj e)
      exact ⟨_, rfl, h1⟩
  | x :: ds, vs, i + 1, v, h, e => by
    cases h with
    | cons h1 h2 =>
      obtain ⟨d, e1, e2⟩ := RpA.getV (i := i) h2 e
      exact ⟨d, e1, e2⟩
theorem RpA.append : ∀ {ds es : List PyData} {vs ws : List V}, RpA K F vs ds → RpA K F ws es → RpA K F (vs ++ ws) (ds ++ es)
  | [], es, vs, ws, h, k => by cases h; exact k
  | d :: ds, es, vs, ws, h, k => by
    cases h with
    | cons h1 h2 => exact .cons h1 (RpA.append h2 k)
theorem RpA.set : ∀ {ds : List PyData} {vs : List V} {v : V} {d : PyData} (i : Nat), RpA K F vs ds → Rp K F v d → RpA K F (vs.set i v) (ds.set i d)
  | [], vs, v, d, i, h, k => by cases h; exact .nil
  | x :: ds, vs, v, d, 0, h, k => by
    cases h with
    | cons h1 h2 => exact .cons k h2
  | x :: ds, vs, v, d, i + 1, h, k => by
    cases h with
    | cons h1 h2 => exact .cons h1 (RpA.set i h2 k)
theorem RpA.take : ∀ {ds : List PyData} {vs : List V} (n : Nat), RpA K F vs ds → RpA K F (vs.take n) (ds.take n)
  | ds, vs, 0, h => .nil
  | [], vs, n + 1, h => by cases h; exact .nil
  | x :: ds, vs, n + 1, h => by
    cases h with
    | cons h1 h2 => exact .cons h1 (RpA.take n h2)
theorem RpA.drop : ∀ {ds : List PyData} {vs : List V} (n : Nat), RpA K F vs ds → RpA K F (vs.drop n) (ds.drop n)
  | ds, vs, 0, h => h
  | [], vs, n + 1, h => by cases h; exact .nil
  | x :: ds, vs, n + 1, h => by
    cases h with
    | cons h1 h2 => exact RpA.drop n h2
theorem RpA.rev : ∀ {ds : List PyData} {vs : List V}, RpA K F vs ds → RpA K F vs.reverse ds.reverse
  | [], vs, h => by cases h; exact .nil
  | x :: ds, vs, h => by
    cases h with
    | cons h1 h2 =>
      rw [List.reverse_cons, List.reverse_cons]
      exact RpA.append (RpA.rev h2) (.cons h1 .nil)
theorem RpA.ints : ∀ {ns : List Int} {vs : List V}, RpA K F vs (ns.map PyData.int) → vs = ns.map V.int
  | [], vs, h => by cases h; rfl
  | n :: ns, vs, h => by
    cases h with
    | cons h1 h2 =>
      cases h1
      rw [RpA.ints h2]
      rfl
theorem RpA.of_ints : ∀ (ns : List Int), RpA K F (ns.map V.int) (ns.map PyData.int)
  | [] => .nil
  | n :: ns => .cons (.int n) (RpA.of_ints ns)
theorem RpA.bls : ∀ {ns : List Bool} {vs : List V}, RpA K F vs (ns.map PyData.bool) → vs = ns.map V.bl
  | [], vs, h => by cases h; rfl
  | n :: ns, vs, h => by
    cases h with
    | cons h1 h2 =>
      cases h1
      rw [RpA.bls h2]
      rfl
theorem RpA.of_bls : ∀ (ns : List Bool), RpA K F (ns.map V.bl) (ns.map PyData.bool)
  | [] => .nil
  | n :: ns => .cons (.bl n) (RpA.of_bls ns)
end

/-! ### worlds: F the frozen part of H -/
structure Grow (F H F' H' : Hp) : Prop where
  ff : Same F F'
  hh : Same H H'
  sub : Same F' H'
  nw : ∀ a o, F' a = some o → F a = some o ∨ H a = none
section
variable {F H F' H' F1 H1 : Hp}
theorem Grow.refl (s : Same F H) : Grow F H F H := ⟨Same.refl F, Same.refl H, s, fun _ _ h => .inl h⟩
theorem Grow.trans (a : Grow F H F1 H1) (b : Grow F1 H1 F' H') : Grow F H F' H' :=
  ⟨a.ff.trans b.ff, a.hh.trans b.hh, b.sub, fun x o h => by
    rcases b.nw x o h with h1 | h1
    · exact a.nw x o h1
    · exact .inr (a.hh.free h1)⟩
theorem same_new {p : Addr} {o : HO} (h : H p = none) : Same H (upd H p o) := fun b x e => by
  rw [upd_ne (ne_of_none e h)]
  exact e
theorem same_upd2 {p : Addr} {o : HO} (s : Same F H) : Same (upd F p o) (upd H p o) := fun b x e => by
  by_cases hb : b = p
  · subst hb
    rw [upd_same] at e ⊢
    exact e
  · rw [upd_ne hb] at e ⊢
    exact s b x e
/-- a new object, frozen at once -/
theorem Grow.new {p : Addr} {o : HO} (s : Same F H) (h : H p = none) : Grow F H (upd F p o) (upd H p o) :=
  ⟨same_new (s.free h), same_new h, same_upd2 s, fun a x e => by
    by_cases ha : a = p
    · exact .inr (by rw [ha]; exact h)
    · rw [upd_ne ha] at e
      exact .inl e⟩
/-- a new object that may still change -/
theorem Grow.newN {p : Addr} {o : HO} (s : Same F H) (h : H p = none) : Grow F H F (upd H p o) :=
  ⟨Same.refl F, same_new h, fun b x e => (same_new h) b x (s b x e), fun a x e => .inl e⟩
/-- freezing what has come since -/
theorem Grow.freeze {p : Addr} {o : HO} (s : Same F H) (g : Grow F H F' H') (h : H p = none) (h' : H' p = some o) : Grow F H (upd F' p o) H' :=
  ⟨fun b x e => by
      rw [upd_ne (ne_of_none e (s.free h))]
      exact g.ff b x e, g.hh, fun b x e => by
      by_cases hb : b = p
      · subst hb
        rw [upd_same] at e
        rw [h']
        exact e
      · rw [upd_ne hb] at e
        exact g.sub b x e, fun a x e => by
      by_cases ha : a = p
      · exact .inr (by rw [ha]; exact h)
      · rw [upd_ne ha] at e
        exact g.nw a x e⟩
/-- an unfrozen object changes -/
theorem Grow.change {p : Addr} {o : HO} (g : Grow F H F' H') (h : H p = none) (hf : F' p = none) : Grow F H F' (upd H' p o) :=
  ⟨g.ff, fun b x e => by
      rw [upd_ne (ne_of_none e h)]
      exact g.hh b x e, fun b x e => by
      rw [upd_ne (ne_of_none e hf)]
      exact g.sub b x e, g.nw⟩
end

/-! ### slots of data -/
/-- an object that is one's own: a list, a dict of int keys -/
inductive Obd where
  | l (ds : List PyData)
  | d (ks : List (Int × PyData))
inductive Sl where
  | un
  | va (d : PyData)
  | ow (ds : List PyData)
  | ob (p : Addr) (o : Obd)
abbrev Sto := List Sl
/-- dict rows at data -/
def KvR (K : PySem.W.Frag) (F : Hp) (xs : List (Key × V)) (ks : List (Int × PyData)) : Prop := xs.map (·.1) = ks.map (fun q => Sum.inl q.1) ∧ RpA K F (xs.map (·.2)) (ks.map (·.2))
def ObR (K : PySem.W.Frag) (F H : Hp) (p : Addr) : Obd → Prop
  | .l ds => ∃ xs, H p = some (.lst xs) ∧ RpA K F xs ds
  | .d ks => ∃ xs, H p = some (.dK xs) ∧ KvR K F xs ks
theorem ObR.mono {K : PySem.W.Frag} {F F' H : Hp} {p : Addr} {o : Obd} (s : Same F F') (h : ObR K F H p o) : ObR K F' H p o := by
  cases o with
  | l ds => exact let ⟨xs, a, b⟩ := h; ⟨xs, a, b.mono s⟩
  | d ks => exact let ⟨xs, a, b, c⟩ := h; ⟨xs, a, b, c.mono s⟩
theorem ObR.heap {K : PySem.W.Frag} {F H H' : Hp} {p : Addr} {o : Obd} (s : H' p = H p) (h : ObR K F H p o) : ObR K F H' p o := by
  cases o with
  | l ds => exact let ⟨xs, a, b⟩ := h; ⟨xs, s.trans a, b⟩
  | d ks => exact let ⟨xs, a, b⟩ := h; ⟨xs, s.trans a, b⟩
theorem ObR.some {K : PySem.W.Frag} {F H : Hp} {p : Addr} {o : Obd} (h : ObR K F H p o) : ∃ x, H p = Option.some x := by
  cases o with
  | l ds => exact let ⟨xs, a, b⟩ := h; ⟨_, a⟩
  | d ks => exact let ⟨xs, a, b⟩ := h; ⟨_, a⟩
structure Stt (K : PySem.W.Frag) (F0 H0 F H : Hp) (σ : L2.St) (δ : Sto) : Prop where
  s0 : Same F0 H0
  gr : Grow F0 H0 F H
  len : σ.length = δ.length
  va : ∀ (i : Nat) d, δ[i]? = some (.va d) → ∃ v, σ[i]? = some (some v) ∧ Rp K F v d
  ow : ∀ (i : Nat) ds, δ[i]? = some (.ow ds) → ∃ p xs, σ[i]? = some (some (.ref p)) ∧ H p = some (.lst xs) ∧ F p = none ∧ H0 p = none ∧ RpA K F xs ds
  ap : ∀ (i j : Nat) ds es p, i ≠ j → δ[i]? = some (.ow ds) → δ[j]? = some (.ow es) → σ[i]? = some (some (.ref p)) → σ[j]? ≠ some (some (.ref p))
  ob : ∀ (i : Nat) p o, δ[i]? = some (.ob p o) → σ[i]? = some (some (.ref p)) ∧ ObR K F H p o ∧ F p = none ∧ H0 p = none
  op : ∀ (i j : Nat) p q o u, i ≠ j → δ[i]? = some (.ob p o) → δ[j]? = some (.ob q u) → p ≠ q
  oq : ∀ (i j : Nat) p o ds, δ[i]? = some (.ob p o) → δ[j]? = some (.ow ds) → σ[j]? ≠ some (some (.ref p))
section
variable {K : PySem.W.Frag} {F0 H0 F H F' H' : Hp} {σ : L2.St} {δ : Sto}
theorem Stt.sub (S : Stt K F0 H0 F H σ δ) : Same F H := S.gr.sub
theorem grow_none {p : Addr} {o : HO} (g : Grow F H F' H') (h1 : H p = some o) (h2 : F p = none) : F' p = none := by
  cases q : F' p with
  | none => rfl
  | some o' =>
    rcases g.nw p o' q with z | z
    · rw [h2] at z; cases z
    · rw [h1] at z; cases z
theorem Stt.grow (S : Stt K F0 H0 F H σ δ) (g : Grow F H F' H') : Stt K F0 H0 F' H' σ δ where
  s0 := S.s0
  gr := S.gr.trans g
  len := S.len
  va := fun i d h => let ⟨v, e, r⟩ := S.va i d h; ⟨v, e, r.mono g.ff⟩
  ow := fun i ds h => by
    obtain ⟨p, xs, e, h1, h2, h3, r⟩ := S.ow i ds h
    exact ⟨p, xs, e, g.hh _ _ h1, grow_none g h1 h2, h3, r.mono g.ff⟩
  ap := S.ap
  ob := fun i p o h => by
    obtain ⟨e, r, h2, h3⟩ := S.ob i p o h
    obtain ⟨x, hx⟩ := r.some
    exact ⟨e, (r.mono g.ff).heap (by rw [hx, g.hh _ _ hx]), grow_none g hx h2, h3⟩
  op := S.op
  oq := S.oq
theorem get_set_eq {α : Type} {l : List α} {i : Nat} {x y : α} (h : (l.set i x)[i]? = some y) : y = x := by
  rw [List.getElem?_set] at h
  rw [if_pos rfl] at h
  split at h
  · exact (Option.some.inj h).symm
  · cases h
theorem get_set_at {α : Type} {l : List α} {i : Nat} {x : α} (h : i < l.length) : (l.set i x)[i]? = some x := List.getElem?_set_self h
theorem get_set_ne {α : Type} {l : List α} {i j : Nat} {x : α} (h : i ≠ j) : (l.set i x)[j]? = l[j]? := List.getElem?_set_ne h
theorem lt_of_get {α : Type} {l : List α} {i : Nat} {y : α} (h : l[i]? = some y) : i < l.length := (List.getElem?_eq_some_iff.mp h).1
theorem lt_of_get_set {α : Type} {l : List α} {i j : Nat} {x y : α} (h : (l.set i x)[j]? = some y) : j < l.length := by
  have := lt_of_get h
  rwa [List.length_set] at this
theorem get_set_two {α : Type} {l : List α} {i j : Nat} {x y : α} (h : (l.set i x)[j]? = some y) : (i = j ∧ y = x ∧ j < l.length) ∨ (i ≠ j ∧ l[j]? = some y) := by
  by_cases hj : i = j
  · subst hj
    exact .inl ⟨rfl, get_set_eq h, lt_of_get_set h⟩
  · rw [get_set_ne hj] at h
    exact .inr ⟨hj, h⟩
/-- a slot that gets nothing of one's own -/
theorem Stt.put (S : Stt K F0 H0 F H σ δ) {ov : Option V} {sl : Sl} (i : Nat) (hv : ∀ d, sl = .va d → ∃ v, ov = some v ∧ Rp K F v d) (h1 : ∀ ds, sl ≠ .ow ds) (h2 : ∀ p o, sl ≠ .ob p o) : Stt K F0 H0 F H (σ.set i ov) (δ.set i sl) where
  s0 := S.s0
  gr := S.gr
  len := by rw [List.length_set, List.length_set]; exact S.len
  va := fun j e h => by
    rcases get_set_two h with ⟨rfl, e2, hl⟩ | ⟨hj, h⟩
    · obtain ⟨v, e3, r⟩ := hv e e2.symm
      subst e3
      exact ⟨v, get_set_at (by rw [S.len]; exact hl), r⟩
    · rw [get_set_ne hj]
      exact S.va j e h
  ow := fun j ds h => by
    rcases get_set_two h with ⟨rfl, e2, hl⟩ | ⟨hj, h⟩
    · exact absurd e2.symm (h1 ds)
    · rw [get_set_ne hj]
      exact S.ow j ds h
  ap := fun j k ds es p hjk a1 a2 a3 => by
    rcases get_set_two a1 with ⟨rfl, e2, hl⟩ | ⟨hj, a1⟩
    · exact absurd e2.symm (h1 ds)
    · rcases get_set_two a2 with ⟨rfl, e2, hl⟩ | ⟨hk, a2⟩
      · exact absurd e2.symm (h1 es)
      · rw [get_set_ne hj] at a3
        rw [get_set_ne hk]
        exact S.ap j k ds es p hjk a1 a2 a3
  ob := fun j p o h => by
    rcases get_set_two h with ⟨rfl, e2, hl⟩ | ⟨hj, h⟩
    · exact absurd e2.symm (h2 p o)
    · rw [get_set_ne hj]
      exact S.ob j p o h
  op := fun j k p q o u hjk a1 a2 => by
    rcases get_set_two a1 with ⟨rfl, e2, hl⟩ | ⟨hj, a1⟩
    · exact absurd e2.symm (h2 p o)
    · rcases get_set_two a2 with ⟨rfl, e2, hl⟩ | ⟨hk, a2⟩
      · exact absurd e2.symm (h2 q u)
      · exact S.op j k p q o u hjk a1 a2
  oq := fun j k p o ds a1 a2 => by
    rcases get_set_two a1 with ⟨rfl, e2, hl⟩ | ⟨hj, a1⟩
    · exact absurd e2.symm (h2 p o)
    · rcases get_set_two a2 with ⟨rfl, e2, hl⟩ | ⟨hk, a2⟩
      · exact absurd e2.symm (h1 ds)
      · rw [get_set_ne hk]
        exact S.oq j k p o ds a1 a2
/-- a slot gets frozen data -/
theorem Stt.set (S : Stt K F0 H0 F H σ δ) {v : V} {d : PyData} (i : Nat) (r : Rp K F v d) : Stt K F0 H0 F H (σ.set i (some v)) (δ.set i (.va d)) :=
  S.put i (fun e q => by cases q; exact ⟨v, rfl, r⟩) (fun _ q => by cases q) (fun _ _ q => by cases q)
theorem Stt.unset (S : Stt K F0 H0 F H σ δ) (i : Nat) : Stt K F0 H0 F H (σ.set i none) (δ.set i .un) :=
  S.put i (fun e q => by cases q) (fun _ q => by cases q) (fun _ _ q => by cases q)
/-- a slot gets a new list of its own -/
theorem Stt.setN (S : Stt K F0 H0 F H σ δ) {p : Addr} {xs : List V} {ds : List PyData} (i : Nat) (h1 : H p = some (.lst xs)) (h2 : F p = none) (h3 : H0 p = none) (r : RpA K F xs ds)
    (hn : ∀ (j : Nat) es, δ[j]? = some (.ow es) → σ[j]? ≠ some (some (.ref p))) (hm : ∀ (j : Nat) q o, δ[j]? = some (.ob q o) → q ≠ p) : Stt K F0 H0 F H (σ.set i (some (.ref p))) (δ.set i (.ow ds)) where
  s0 := S.s0
  gr := S.gr
  len := by rw [List.length_set, List.length_set]; exact S.len
  va := fun j e h => by
    rcases get_set_two h with ⟨rfl, e2, hl⟩ | ⟨hj, h⟩
    · cases e2
    · rw [get_set_ne hj]
      exact S.va j e h
  ow := fun j es h => by
    rcases get_set_two h with ⟨rfl, e2, hl⟩ | ⟨hj, h⟩
    · cases e2
      exact ⟨p, xs, get_set_at (by rw [S.len]; exact hl), h1, h2, h3, r⟩
    · rw [get_set_ne hj]
      exact S.ow j es h
  ap := fun j k ds' es q hjk a1 a2 a3 => by
    rcases get_set_two a1 with ⟨rfl, e2, hl⟩ | ⟨hj, a1⟩
    · rw [get_set_at (by rw [S.len]; exact hl)] at a3
      cases a3
      rw [get_set_ne hjk] at a2 ⊢
      exact hn k es a2
    · rw [get_set_ne hj] at a3
      rcases get_set_two a2 with ⟨rfl, e2, hl⟩ | ⟨hk, a2⟩
      · rw [get_set_at (by rw [S.len]; exact hl)]
        intro z
        cases z
        exact hn j _ a1 a3
      · rw [get_set_ne hk]
        exact S.ap j k ds' es q hjk a1 a2 a3
  ob := fun j q o h => by
    rcases get_set_two h with ⟨rfl, e2, hl⟩ | ⟨hj, h⟩
    · cases e2
    · rw [get_set_ne hj]
      exact S.ob j q o h
  op := fun j k q q2 o u hjk a1 a2 => by
    rcases get_set_two a1 with ⟨rfl, e2, hl⟩ | ⟨hj, a1⟩
    · cases e2
    · rcases get_set_two a2 with ⟨rfl, e2, hl⟩ | ⟨hk, a2⟩
      · cases e2
      · exact S.op j k q q2 o u hjk a1 a2
  oq := fun j k q o es a1 a2 => by
    rcases get_set_two a1 with ⟨rfl, e2, hl⟩ | ⟨hj, a1⟩
    · cases e2
    · rcases get_set_two a2 with ⟨rfl, e2, hl⟩ | ⟨hk, a2⟩
      · rw [get_set_at (by rw [S.len]; exact hl)]
        intro z
        cases z
        exact hm j p o a1 rfl
      · rw [get_set_ne hk]
        exact S.oq j k q o es a1 a2
/-- a slot gets a new object of its own, its place known -/
theorem Stt.setO (S : Stt K F0 H0 F H σ δ) {p : Addr} {w : Obd} (i : Nat) (h2 : F p = none) (h3 : H0 p = none) (r : ObR K F H p w)
    (hn : ∀ (j : Nat) es, δ[j]? = some (.ow es) → σ[j]? ≠ some (some (.ref p))) (hm : ∀ (j : Nat) q o, δ[j]? = some (.ob q o) → q ≠ p) : Stt K F0 H0 F H (σ.set i (some (.ref p))) (δ.set i (.ob p w)) where
  s0 := S.s0
  gr := S.gr
  len := by rw [List.length_set, List.length_set]; exact S.len
  va := fun j e h => by
    rcases get_set_two h with ⟨rfl, e2, hl⟩ | ⟨hj, h⟩
    · cases e2
    · rw [get_set_ne hj]
      exact S.va j e h
  ow := fun j es h => by
    rcases get_set_two h with ⟨rfl, e2, hl⟩ | ⟨hj, h⟩
    · cases e2
    · rw [get_set_ne hj]
      exact S.ow j es h
  ap := fun j k ds' es q hjk a1 a2 a3 => by
    rcases get_set_two a1 with ⟨rfl, e2, hl⟩ | ⟨hj, a1⟩
    · cases e2
    · rw [get_set_ne hj] at a3
      rcases get_set_two a2 with ⟨rfl, e2, hl⟩ | ⟨hk, a2⟩
      · cases e2
      · rw [get_set_ne hk]
        exact S.ap j k ds' es q hjk a1 a2 a3
  ob := fun j q o h => by
    rcases get_set_two h with ⟨rfl, e2, hl⟩ | ⟨hj, h⟩
    · cases e2
      exact ⟨get_set_at (by rw [S.len]; exact hl), r, h2, h3⟩
    · rw [get_set_ne hj]
      exact S.ob j q o h
  op := fun j k q q2 o u hjk a1 a2 => by
    rcases get_set_two a1 with ⟨rfl, e2, hl⟩ | ⟨hj, a1⟩
    · cases e2
      rcases get_set_two a2 with ⟨rfl, e3, hl⟩ | ⟨hk, a2⟩
      · exact absurd rfl hjk
      · exact (hm k q2 u a2).symm
    · rcases get_set_two a2 with ⟨rfl, e2, hl⟩ | ⟨hk, a2⟩
      · cases e2
        exact hm j q o a1
      · exact S.op j k q q2 o u hjk a1 a2
  oq := fun j k q o es a1 a2 => by
    rcases get_set_two a2 with ⟨rfl, e2, hl⟩ | ⟨hk, a2⟩
    · cases e2
    · rw [get_set_ne hk]
      rcases get_set_two a1 with ⟨rfl, e2, hl⟩ | ⟨hj, a1⟩
      · cases e2
        exact hn k es a2
      · exact S.oq j k q o es a1 a2
/-- a slot's own list changes -/
theorem Stt.chg (S : Stt K F0 H0 F H σ δ) {p : Addr} {xs : List V} {ds es : List PyData} {i : Nat} (hi : δ[i]? = some (.ow es)) (hp : σ[i]? = some (some (.ref p))) (h2 : F p = none) (h3 : H0 p = none) (r : RpA K F xs ds) :
    Stt K F0 H0 F (upd H p (.lst xs)) σ (δ.set i (.ow ds)) where
  s0 := S.s0
  gr := S.gr.change h3 h2
  len := by rw [List.length_set]; exact S.len
  va := fun j e h => by
    rcases get_set_two h with ⟨rfl, e2, hl⟩ | ⟨hj, h⟩
    · cases e2
    · exact S.va j e h
  ow := fun j es' h => by
    rcases get_set_two h with ⟨rfl, e2, hl⟩ | ⟨hj, h⟩
    · cases e2
      exact ⟨p, xs, hp, upd_same, h2, h3, r⟩
    · obtain ⟨q, ys, a1, a2, a3, a4, a5⟩ := S.ow j es' h
      refine ⟨q, ys, a1, ?_, a3, a4, a5⟩
      rw [upd_ne]
      · exact a2
      · intro z
        subst z
        exact S.ap j i es' es q (Ne.symm hj) h hi a1 hp
  ap := fun j k ds' es' q hjk a1 a2 a3 => by
    have g1 : ∃ es1, δ[j]? = some (.ow es1) := by
      rcases get_set_two a1 with ⟨rfl, e2, hl⟩ | ⟨hj, h⟩
      · exact ⟨es, hi⟩
      · exact ⟨_, h⟩
    have g2 : ∃ es1, δ[k]? = some (.ow es1) := by
      rcases get_set_two a2 with ⟨rfl, e2, hl⟩ | ⟨hj, h⟩
      · exact ⟨es, hi⟩
      · exact ⟨_, h⟩
    obtain ⟨e1, g1⟩ := g1
    obtain ⟨e2, g2⟩ := g2
    exact S.ap j k e1 e2 q hjk g1 g2 a3
  ob := fun j q o h => by
    rcases get_set_two h with ⟨rfl, e2, hl⟩ | ⟨hj, h⟩
    · cases e2
    · obtain ⟨a1, a2, a3, a4⟩ := S.ob j q o h
      refine ⟨a1, a2.heap (upd_ne fun z => ?_), a3, a4⟩
      subst z
      exact S.oq j i q o es h hi hp
  op := fun j k q q2 o u hjk a1 a2 => by
    rcases get_set_two a1 with ⟨rfl, e2, hl⟩ | ⟨hj, a1⟩
    · cases e2
    · rcases get_set_two a2 with ⟨rfl, e2, hl⟩ | ⟨hk, a2⟩
      · cases e2
      · exact S.op j k q q2 o u hjk a1 a2
  oq := fun j k q o es' a1 a2 => by
    rcases get_set_two a1 with ⟨rfl, e2, hl⟩ | ⟨hj, a1⟩
    · cases e2
    · rcases get_set_two a2 with ⟨rfl, e2, hl⟩ | ⟨hk, a2⟩
      · exact S.oq j i q o es a1 hi
      · exact S.oq j k q o es' a1 a2
/-- objects of one's own, known by place, change -/
theorem Stt.chgM (S : Stt K F0 H0 F H σ δ) {δ' : Sto} {H2 : Hp} (P : List Addr) (hl : δ'.length = δ.length) (hd : ∀ i : Nat, (δ'[i]? = δ[i]? ∧ ∀ p o, δ[i]? = some (.ob p o) → p ∉ P) ∨ ∃ p o o', δ[i]? = some (.ob p o) ∧ δ'[i]? = some (.ob p o') ∧ ObR K F' H2 p o')
    (hp : ∀ p ∈ P, ∀ (j : Nat) (ds : List PyData), δ[j]? = some (.ow ds) → σ[j]? ≠ some (some (.ref p))) (gg : Grow F0 H0 F' H2) (sF : Same F F') (hs : ∀ b x, b ∉ P → H b = some x → H2 b = some x) (hf : ∀ b x, H b = some x → F b = none → F' b = none) :
    Stt K F0 H0 F' H2 σ δ' where
  s0 := S.s0
  gr := gg
  len := by rw [hl]; exact S.len
  va := fun j e h => by
    rcases hd j with ⟨e1, _⟩ | ⟨p, o, o', e1, e2, _⟩
    · rw [e1] at h
      exact let ⟨v, a, b⟩ := S.va j e h; ⟨v, a, b.mono sF⟩
    · rw [h] at e2
      cases e2
  ow := fun j es' h => by
    rcases hd j with ⟨e1, _⟩ | ⟨p, o, o', e1, e2, _⟩
    · rw [e1] at h
      obtain ⟨q, ys, a1, a2, a3, a4, a5⟩ := S.ow j es' h
      refine ⟨q, ys, a1, hs _ _ (fun z => ?_) a2, hf _ _ a2 a3, a4, a5.mono sF⟩
      exact hp q z j es' h a1
    · rw [h] at e2
      cases e2
  ap := fun j k ds' es' q hjk a1 a2 a3 => by
    rcases hd j with ⟨e1, _⟩ | ⟨p, o, o', e1, e2, _⟩
    · rcases hd k with ⟨e3, _⟩ | ⟨p, o, o', e3, e4, _⟩
      · rw [e1] at a1
        rw [e3] at a2
        exact S.ap j k ds' es' q hjk a1 a2 a3
      · rw [a2] at e4
        cases e4
    · rw [a1] at e2
      cases e2
  ob := fun j q o2 h => by
    rcases hd j with ⟨e1, e2⟩ | ⟨p, o, o', e1, e2, e3⟩
    · rw [e1] at h
      obtain ⟨a1, a2, a3, a4⟩ := S.ob j q o2 h
      obtain ⟨x, hx⟩ := a2.some
      exact ⟨a1, (a2.mono sF).heap (by rw [hx, hs _ _ (e2 _ _ h) hx]), hf _ _ hx a3, a4⟩
    · rw [h] at e2
      cases e2
      obtain ⟨a1, a2, a3, a4⟩ := S.ob j q o e1
      obtain ⟨x, hx⟩ := a2.some
      exact ⟨a1, e3, hf _ _ hx a3, a4⟩
  op := fun j k q q2 o3 u hjk a1 a2 => by
    have g : ∀ (j : Nat) q o, δ'[j]? = some (.ob q o) → ∃ u, δ[j]? = some (.ob q u) := fun j q o h => by
      rcases hd j with ⟨e1, e2⟩ | ⟨p, o, o', e1, e2, e3⟩
      · exact ⟨_, e1 ▸ h⟩
      · rw [h] at e2
        cases e2
        exact ⟨_, e1⟩
    obtain ⟨e1, g1⟩ := g j q o3 a1
    obtain ⟨e2, g2⟩ := g k q2 u a2
    exact S.op j k q q2 e1 e2 hjk g1 g2
  oq := fun j k q o3 es' a1 a2 => by
    rcases hd k with ⟨e3, _⟩ | ⟨p, o, o', e3, e4, _⟩
    · rw [e3] at a2
      rcases hd j with ⟨e1, e2⟩ | ⟨p, o, o', e1, e2, e3⟩
      · exact S.oq j k q o3 es' (e1 ▸ a1) a2
      · rw [a1] at e2
        cases e2
        exact S.oq j k q o es' e1 a2
    · rw [a2] at e4
      cases e4
/-- one object of one's own, known by place, changes -/
theorem Stt.chgO (S : Stt K F0 H0 F H σ δ) {p : Addr} {o o' : Obd} {x : HO} {i : Nat} (hi : δ[i]? = some (.ob p o)) (r : ObR K F (upd H p x) p o') : Stt K F0 H0 F (upd H p x) σ (δ.set i (.ob p o')) := by
  obtain ⟨a1, a2, a3, a4⟩ := S.ob i p o hi
  refine S.chgM [p] (List.length_set ..) (fun j => ?_) (fun q hq => ?_) (S.gr.change a4 a3) (Same.refl F) (fun b x hb h => ?_) (fun b x h1 h2 => h2)
  · by_cases hj : i = j
    · subst hj
      exact .inr ⟨p, o, o', hi, get_set_at (lt_of_get hi), r⟩
    · exact .inl ⟨get_set_ne hj, fun q u hq z => S.op i j p q o u hj hi hq (List.mem_singleton.mp z).symm⟩
  · cases List.mem_singleton.mp hq
    exact fun j ds h => S.oq i j p o ds hi h
  · rw [upd_ne (fun z => hb (by rw [z]; exact List.mem_singleton_self _))]
    exact h
/-- the slot's own list is frozen -/
theorem Stt.frz (S : Stt K F0 H0 F H σ δ) {i : Nat} {ds : List PyData} (hi : δ[i]? = some (.ow ds)) : ∃ F', Same F F' ∧ Stt K F0 H0 F' H σ (δ.set i (.va (.list ds))) := by
  obtain ⟨p, xs, e, h1, h2, h3, r⟩ := S.ow i ds hi
  have g : Grow F0 H0 (upd F p (.lst xs)) H := S.gr.freeze S.s0 h3 h1
  have ff : Same F (upd F p (.lst xs)) := same_new h2
  refine ⟨_, ff, S.s0, g, by rw [List.length_set]; exact S.len, fun j d h => ?_, fun j es h => ?_, fun j k ds' es' q hjk a1 a2 a3 => ?_, fun j q o h => ?_, fun j k q q2 o u hjk a1 a2 => ?_, fun j k q o es a1 a2 => ?_⟩
  · rcases get_set_two h with ⟨rfl, e2, hl⟩ | ⟨hj, h⟩
    · cases e2
      exact ⟨.ref p, e, .lst upd_same (r.mono ff)⟩
    · obtain ⟨v, a1, a2⟩ := S.va j d h
      exact ⟨v, a1, a2.mono ff⟩
  · rcases get_set_two h with ⟨rfl, e2, hl⟩ | ⟨hj, h⟩
    · cases e2
    · obtain ⟨q, ys, a1, a2, a3, a4, a5⟩ := S.ow j es h
      refine ⟨q, ys, a1, a2, ?_, a4, a5.mono ff⟩
      rw [upd_ne]
      · exact a3
      · intro z
        subst z
        exact S.ap j i es ds q (Ne.symm hj) h hi a1 e
  · rcases get_set_two a1 with ⟨rfl, e2, hl⟩ | ⟨hj, a1⟩
    · cases e2
    · rcases get_set_two a2 with ⟨rfl, e2, hl⟩ | ⟨hk, a2⟩
      · cases e2
      · exact S.ap j k ds' es' q hjk a1 a2 a3
  · rcases get_set_two h with ⟨rfl, e2, hl⟩ | ⟨hj, h⟩
    · cases e2
    · obtain ⟨a1, a2, a3, a4⟩ := S.ob j q o h
      refine ⟨a1, a2.mono ff, ?_, a4⟩
      rw [upd_ne]
      · exact a3
      · intro z
        subst z
        exact S.oq j i q o ds h hi e
  · rcases get_set_two a1 with ⟨rfl, e2, hl⟩ | ⟨hj, a1⟩
    · cases e2
    · rcases get_set_two a2 with ⟨rfl, e2, hl⟩ | ⟨hk, a2⟩
      · cases e2
      · exact S.op j k q q2 o u hjk a1 a2
  · rcases get_set_two a1 with ⟨rfl, e2, hl⟩ | ⟨hj, a1⟩
    · cases e2
    · rcases get_set_two a2 with ⟨rfl, e2, hl⟩ | ⟨hk, a2⟩
      · cases e2
      · exact S.oq j k q o es a1 a2
end
end DL
set_option Elab.async false
set_option linter.all false
set_option maxRecDepth 100000
set_option maxHeartbeats 1000000
namespace DL
open PySem PySem.Spec PyProof.Rows L2

/-! ### readings on data -/
def RpC (K : PySem.W.Frag) (F H : Hp) (v : V) (d : PyData) : Prop := Rp K F v d ∨ ∃ p xs ds, v = .ref p ∧ d = .list ds ∧ H p = some (.lst xs) ∧ RpA K F xs ds
def RpN (K : PySem.W.Frag) (H F' H' : Hp) (v : V) (ds : List PyData) : Prop := ∃ p xs, v = .ref p ∧ H p = none ∧ H' p = some (.lst xs) ∧ F' p = none ∧ RpA K F' xs ds
section
variable {K : PySem.W.Frag} {F H F' H' F1 H1 : Hp} {v : V} {d : PyData} {ds : List PyData}
theorem RpC.grow (g : Grow F H F' H') (h : RpC K F H v d) : RpC K F' H' v d := by
  rcases h with h | ⟨p, xs, ds, e1, e2, h1, h2⟩
  · exact .inl (h.mono g.ff)
  · exact .inr ⟨p, xs, ds, e1, e2, g.hh _ _ h1, h2.mono g.ff⟩
theorem RpC.dp (s : Same F H) (c : d.canLay0 = true) (h : RpC K F H v d) : Dp K H v d := by
  rcases h with h | ⟨p, xs, ds, e1, e2, h1, h2⟩
  · exact Rp.dp c (h.mono s)
  · subst e1 e2
    rw [PyData.canLay0] at c
    exact .lst (SqL.of h1) (RpA.dp c (h2.mono s))
theorem RpC.inList (s : Same F H) (h : RpC K F H v (.list ds)) : ∃ p xs, v = .ref p ∧ H p = some (.lst xs) ∧ RpA K F xs ds := by
  rcases h with h | ⟨p, xs, ds, e1, e2, h1, h2⟩
  · cases h with
    | lst h1 h2 => exact ⟨_, _, rfl, s _ _ h1, h2⟩
  · cases e2
    exact ⟨p, xs, e1, h1, h2⟩
theorem RpC.inTup (h : RpC K F H v (.tuple ds)) : ∃ p xs, v = .ref p ∧ SqT K F p xs ∧ RpA K F xs ds := by
  rcases h with h | ⟨p, xs, ds, e1, e2, h1, h2⟩
  · cases h with
    | tup h1 h2 => exact ⟨_, _, rfl, h1, h2⟩
  · cases e2
theorem RpC.inInt {i : Int} (h : RpC K F H v (.int i)) : v = .int i := by
  rcases h with h | ⟨p, xs, ds, e1, e2, h1, h2⟩
  · cases h; rfl
  · cases e2
theorem RpC.inBool {i : Bool} (h : RpC K F H v (.bool i)) : v = .bl i := by
  rcases h with h | ⟨p, xs, ds, e1, e2, h1, h2⟩
  · cases h; rfl
  · cases e2
theorem RpC.inStr {i : Str} (h : RpC K F H v (.str i)) : v = .str i := by
  rcases h with h | ⟨p, xs, ds, e1, e2, h1, h2⟩
  · cases h; rfl
  · cases e2
theorem RpC.inNon (h : RpC K F H v .none) : v = .non := by
  rcases h with h | ⟨p, xs, ds, e1, e2, h1, h2⟩
  · cases h; rfl
  · cases e2
theorem RpN.grow (g : Grow F1 H1 F' H') (h : RpN K H F1 H1 v ds) : RpN K H F' H' v ds := by
  obtain ⟨p, xs, e, h1, h2, h3, r⟩ := h
  refine ⟨p, xs, e, h1, g.hh _ _ h2, ?_, r.mono g.ff⟩
  cases q : F' p with
  | none => rfl
  | some o =>
    rcases g.nw p o q with z | z
    · rw [h3] at z; cases z
    · rw [h2] at z; cases z
theorem RpN.back (s : Same H H1) (h : RpN K H1 F' H' v ds) : RpN K H F' H' v ds := by
  obtain ⟨p, xs, e, h1, h2⟩ := h
  exact ⟨p, xs, e, s.free h1, h2⟩
theorem RpN.c (h : RpN K H F' H' v ds) : RpC K F' H' v (.list ds) := by
  obtain ⟨p, xs, e, h1, h2, h3, r⟩ := h
  exact .inr ⟨p, xs, ds, e, rfl, h2, r⟩
/-- a new list may be frozen -/
theorem RpN.frz (s : Same F H) (g : Grow F H F' H') (h : RpN K H F' H' v ds) : ∃ F2, Grow F H F2 H' ∧ Rp K F2 v (.list ds) := by
  obtain ⟨p, xs, e, h1, h2, h3, r⟩ := h
  subst e
  exact ⟨_, g.freeze s h1 h2, .lst upd_same (r.mono (same_new h3))⟩
end

/-- a result's relation: the heap ahead, the frozen part and the heap behind, the value -/
abbrev Res := Hp → Hp → Hp → V → Prop
def rE (K : PySem.W.Frag) (d : PyData) : Res := fun _ F' _ v => Rp K F' v d
def rC (K : PySem.W.Frag) (d : PyData) : Res := fun _ F' H' v => RpC K F' H' v d
def rN (K : PySem.W.Frag) (ds : List PyData) : Res := fun H F' H' v => RpN K H F' H' v ds
def EvP (K : PySem.W.Frag) (te : TE) (δ : Sto) (R : Res) : Prop := ∀ F0 H0 F H σ, Stt K F0 H0 F H σ δ → ∀ Q : VK, (∀ v F' H', Grow F H F' H' → R H F' H' v → Q v H') → te σ H Q
def EvT (K : PySem.W.Frag) (tt : TT) (δ : Sto) (b : Bool) : Prop := ∀ F0 H0 F H σ, Stt K F0 H0 F H σ δ → ∀ Q : Bool → Hp → Prop, (∀ F' H', Grow F H F' H' → Q b H') → tt σ H Q
def EvA (K : PySem.W.Frag) (ta : TA) (δ : Sto) (ds : List PyData) : Prop := ∀ F0 H0 F H σ, Stt K F0 H0 F H σ δ → ∀ Q : List V → Hp → Prop, (∀ vs F' H', Grow F H F' H' → RpA K F' vs ds → Q vs H') → ta σ H Q
section
variable {K : PySem.W.Frag} {ta tb tc te : TE} {δ : Sto} {d e : PyData} {R : Res}
theorem EvP.imp {R' : Res} (h : EvP K te δ R) (k : ∀ H F' H' v, R H F' H' v → R' H F' H' v) : EvP K te δ R' := fun F0 H0 F H σ S Q q => h F0 H0 F H σ S Q fun v F' H' g r => q v F' H' g (k _ _ _ _ r)
theorem ev_c (h : EvP K te δ (rE K d)) : EvP K te δ (rC K d) := h.imp fun _ _ _ _ r => .inl r
theorem ev_nc {ds : List PyData} (h : EvP K te δ (rN K ds)) : EvP K te δ (rC K (.list ds)) := h.imp fun _ _ _ _ r => RpN.c r
theorem ev_ne {ds : List PyData} (h : EvP K te δ (rN K ds)) : EvP K te δ (rE K (.list ds)) := fun F0 H0 F H σ S Q q => h F0 H0 F H σ S Q fun v F' H' g r => by
  obtain ⟨F2, g2, r2⟩ := RpN.frz S.sub g r
  exact q v F2 H' g2 r2
def Back (R : Res) : Prop := ∀ H H1 F' H' v, Same H H1 → R H1 F' H' v → R H F' H' v
theorem back_E : Back (rE K d) := fun _ _ _ _ _ _ r => r
theorem back_C : Back (rC K d) := fun _ _ _ _ _ _ r => r
theorem back_N {ds : List PyData} : Back (rN K ds) := fun _ _ _ _ _ s r => RpN.back s r
/-- two operands, then what stands behind them -/
theorem evp_2 {k : V → V → Hp → VK → Prop} (ha : EvP K ta δ (rC K d)) (hb : EvP K tb δ (rC K e)) (bk : Back R)
    (hr : ∀ F H v u (Q : VK), Same F H → RpC K F H v d → RpC K F H u e → (∀ v F' H', Grow F H F' H' → R H F' H' v → Q v H') → k v u H Q) :
    EvP K (fun σ H Q => ta σ H fun x H1 => tb σ H1 fun y H2 => k x y H2 Q) δ R := fun F0 H0 F H σ S Q q =>
  ha F0 H0 F H σ S _ fun v F1 H1 g1 r1 => hb F0 H0 F1 H1 σ (S.grow g1) _ fun u F2 H2 g2 r2 => hr F2 H2 v u Q g2.sub (r1.grow g2) r2 fun x F3 H3 g3 r3 =>
    q x F3 H3 ((g1.trans g2).trans g3) (bk _ _ _ _ _ (g1.hh.trans g2.hh) r3)
theorem evp_1 {k : V → Hp → VK → Prop} (ha : EvP K ta δ (rC K d)) (bk : Back R)
    (hr : ∀ F H v (Q : VK), Same F H → RpC K F H v d → (∀ v F' H', Grow F H F' H' → R H F' H' v → Q v H') → k v H Q) :
    EvP K (fun σ H Q => ta σ H fun x H1 => k x H1 Q) δ R := fun F0 H0 F H σ S Q q =>
  ha F0 H0 F H σ S _ fun v F1 H1 g1 r1 => hr F1 H1 v Q g1.sub r1 fun x F3 H3 g3 r3 => q x F3 H3 (g1.trans g3) (bk _ _ _ _ _ g1.hh r3)
theorem evp_un {k : V → Hp → VK → Prop} (ha : EvP K ta δ (rC K d)) (bk : Back R)
    (hr : ∀ F H v (Q : VK), Same F H → RpC K F H v d → (∀ v F' H', Grow F H F' H' → R H F' H' v → Q v H') → k v H Q) :
    EvP K (tUn k ta) δ R := evp_1 (ta := ta) (k := k) ha bk hr
/-- a test -/
theorem evt_of (h : EvP K te δ (rC K (.bool b))) : EvT K (tTest te) δ b := fun F0 H0 F H σ S Q q => h F0 H0 F H σ S _ fun v F' H' g r => ⟨b, r.inBool, q F' H' g⟩
theorem evt_B (h : EvP K te δ (rC K (.bool b))) : EvT K (tB te) δ b := fun F0 H0 F H σ S Q q => h F0 H0 F H σ S _ fun v F' H' g r => ⟨b, r.inBool, q F' H' g⟩
theorem evt_not {t : TT} (h : EvT K t δ b) : EvT K (tNot t) δ (!b) := fun F0 H0 F H σ S Q q => h F0 H0 F H σ S _ fun F' H' g => q F' H' g
theorem evt_and {t u : TT} {a b : Bool} (h : EvT K t δ a) (k : a = true → EvT K u δ b) : EvT K (tAnd t u) δ (a && b) := fun F0 H0 F H σ S Q q => h F0 H0 F H σ S _ fun F' H' g => by
  cases a with
  | true => exact k rfl F0 H0 F' H' σ (S.grow g) Q fun F2 H2 g2 => q F2 H2 (g.trans g2)
  | false => exact q F' H' g
theorem evt_or {t u : TT} {a b : Bool} (h : EvT K t δ a) (k : a = false → EvT K u δ b) : EvT K (tOr t u) δ (a || b) := fun F0 H0 F H σ S Q q => h F0 H0 F H σ S _ fun F' H' g => by
  cases a with
  | false => exact k rfl F0 H0 F' H' σ (S.grow g) Q fun F2 H2 g2 => q F2 H2 (g.trans g2)
  | true => exact q F' H' g
theorem evp_if {t : TT} {b : Bool} (h : EvT K t δ b) (bk : Back R) (h1 : b = true → EvP K ta δ R) (h2 : b = false → EvP K tb δ R) : EvP K (tIf t ta tb) δ R := fun F0 H0 F H σ S Q q => h F0 H0 F H σ S _ fun F' H' g => by
  cases b with
  | true => exact h1 rfl F0 H0 F' H' σ (S.grow g) Q fun v F2 H2 g2 r => q v F2 H2 (g.trans g2) (bk _ _ _ _ _ g.hh r)
  | false => exact h2 rfl F0 H0 F' H' σ (S.grow g) Q fun v F2 H2 g2 r => q v F2 H2 (g.trans g2) (bk _ _ _ _ _ g.hh r)
theorem evp_andV {a b : Bool} (h : EvP K ta δ (rC K (.bool a))) (k : a = true → EvP K tb δ (rE K (.bool b))) : EvP K (tAndV ta tb) δ (rE K (.bool (a && b))) := fun F0 H0 F H σ S Q q => h F0 H0 F H σ S _ fun v F' H' g r => ⟨a, r.inBool, by
  cases a with
  | true => exact k rfl F0 H0 F' H' σ (S.grow g) Q fun v F2 H2 g2 r => q v F2 H2 (g.trans g2) r
  | false => exact q _ F' H' g (.bl _)⟩
theorem evp_orV {a b : Bool} (h : EvP K ta δ (rC K (.bool a))) (k : a = false → EvP K tb δ (rE K (.bool b))) : EvP K (tOrV ta tb) δ (rE K (.bool (a || b))) := fun F0 H0 F H σ S Q q => h F0 H0 F H σ S _ fun v F' H' g r => ⟨a, r.inBool, by
  cases a with
  | false => exact k rfl F0 H0 F' H' σ (S.grow g) Q fun v F2 H2 g2 r => q v F2 H2 (g.trans g2) r
  | true => exact q _ F' H' g (.bl _)⟩
theorem evp_notV {a : Bool} (h : EvP K ta δ (rC K (.bool a))) : EvP K (tNotV ta) δ (rE K (.bool (!a))) := fun F0 H0 F H σ S Q q => h F0 H0 F H σ S _ fun v F' H' g r => ⟨a, r.inBool, q _ F' H' g (.bl _)⟩
theorem eva_nil : EvA K tNil δ [] := fun F0 H0 F H σ S Q q => q [] F H (Grow.refl S.sub) .nil
theorem eva_cons {tr : TA} {ds : List PyData} (h : EvP K te δ (rE K d)) (hr : EvA K tr δ ds) : EvA K (tCons te tr) δ (d :: ds) := fun F0 H0 F H σ S Q q =>
  h F0 H0 F H σ S _ fun v F1 H1 g1 r1 => hr F0 H0 F1 H1 σ (S.grow g1) _ fun vs F2 H2 g2 r2 => q (v :: vs) F2 H2 (g1.trans g2) (.cons (r1.mono g2.ff) r2)
end

/-! ### the module, the static context -/
def BI : List Str := ["abs", "all", "any", "bool", "enumerate", "int", "isinstance", "len", "list", "max", "min", "range", "set", "sorted", "str", "tuple", "zip"]
def CI : List (Str × Int) := [("MANY", 0), ("DEEDS", 2), ("WORD", 0), ("PAIR", 2), ("VERSION_AT", 2), ("FAMILY_AT", 4)]
structure Md where
  P : Program
  w : World
  K : PySem.W.Frag
  mg : Str → Option Value
  base : Heap
  bi : ∀ x ∈ BI, mg x = none
  ci : ∀ p ∈ CI, ∃ t, mg p.1 = some (.int p.2 t)
  wr : ∃ a, mg "WRITES" = some (.ref a) ∧ ∀ H, SqT K H a [.str "put", .str "strike"]
structure Gm where
  m : Md
  N : List Str
  sc : Scope
  fn : Str → Bool
  k : Nat
structure XOk (G : Gm) (X : Cx) : Prop where
  prog : X.prog = G.m.P
  w : X.w = G.m.w
  K : X.K = G.m.K
  mg : X.mg = G.m.mg
  base : X.base = G.m.base
  N : X.N = G.N
  sc : X.env.scope = G.sc
  fn : X.fn = G.fn
  room : Room G.k X.A
  calm : X.calm = true
  xe : X.xe = fun _ _ => False
  nd : X.N.Nodup
def tmE (X : Cx) (e : Expr) : TE := fun σ H Q => ∀ pins s, Inv X pins σ H s → wpAny (model X.prog X.w) X.A (eval e X.env) (EP X pins σ Q) X.xe s
def tmT (X : Cx) (e : Expr) : TT := fun σ H Q => ∀ pins s, Inv X pins σ H s → wpAny (model X.prog X.w) X.A (isTrue e X.env (eval e X.env)) (TP X pins σ Q) X.xe s
def tmW (X : Cx) (e : Expr) : TT := fun σ H Q => ∀ (whole : Sem Value) pins s, Inv X pins σ H s → wpAny (model X.prog X.w) X.A (isTrue e X.env whole) (TP X pins σ Q) X.xe s
def tmA (X : Cx) (es : List Expr) : TA := fun σ H Q => ∀ (pos : Pos) pins s, Inv X pins σ H s → wpAny (model X.prog X.w) X.A (spliced (backTo pos (starEach es X.env))) (AP X pins σ Q) X.xe s
section
variable {X : Cx} {e : Expr} {es : List Expr}
theorem pe_m : PE X e (tmE X e) := ⟨fun pins s σ H Q I h => h pins s I⟩
theorem pt_m : PT X e (tmT X e) := ⟨fun pins s σ H Q I h => h pins s I⟩
theorem pw_m : PW X e (tmW X e) := ⟨fun wh pins s σ H Q I h => h wh pins s I⟩
theorem pa_m : PA X es (tmA X es) := ⟨fun pos pins s σ H Q I h => h pos pins s I⟩
end
/-- an expression's value is such, in this static context, with this store -/
def DP (G : Gm) (e : Expr) (δ : Sto) (R : Res) : Prop := ∀ X, XOk G X → EvP G.m.K (tmE X e) δ R
abbrev DE (G : Gm) (e : Expr) (δ : Sto) (d : PyData) : Prop := DP G e δ (rE G.m.K d)
abbrev DC (G : Gm) (e : Expr) (δ : Sto) (d : PyData) : Prop := DP G e δ (rC G.m.K d)
abbrev DN (G : Gm) (e : Expr) (δ : Sto) (ds : List PyData) : Prop := DP G e δ (rN G.m.K ds)
def DT (G : Gm) (e : Expr) (δ : Sto) (b : Bool) : Prop := ∀ X, XOk G X → EvT G.m.K (tmT X e) δ b
def DW (G : Gm) (e : Expr) (δ : Sto) (b : Bool) : Prop := ∀ X, XOk G X → EvT G.m.K (tmW X e) δ b
def DA (G : Gm) (es : List Expr) (δ : Sto) (ds : List PyData) : Prop := ∀ X, XOk G X → EvA G.m.K (tmA X es) δ ds
section
variable {G : Gm} {a b c e : Expr} {es : List Expr} {δ : Sto} {d d1 d2 : PyData} {R : Res} {pos p p2 : Pos} {x : Str}
theorem dp_of (h : ∀ X, XOk G X → ∃ t, PE X e t ∧ EvP G.m.K t δ R) : DP G e δ R := fun X hX F0 H0 F H σ S Q q pins s I => by
  obtain ⟨t, h1, h2⟩ := h X hX
  exact h1.run pins s σ H Q I (h2 F0 H0 F H σ S Q q)
theorem dt_of (h : ∀ X, XOk G X → ∃ t, PT X e t ∧ EvT G.m.K t δ k) : DT G e δ k := fun X hX F0 H0 F H σ S Q q pins s I => by
  obtain ⟨t, h1, h2⟩ := h X hX
  exact h1.run pins s σ H Q I (h2 F0 H0 F H σ S Q q)
theorem dw_of (h : ∀ X, XOk G X → ∃ t, PW X e t ∧ EvT G.m.K t δ k) : DW G e δ k := fun X hX F0 H0 F H σ S Q q wh pins s I => by
  obtain ⟨t, h1, h2⟩ := h X hX
  exact h1.run wh pins s σ H Q I (h2 F0 H0 F H σ S Q q)
theorem da_of (h : ∀ X, XOk G X → ∃ t, PA X es t ∧ EvA G.m.K t δ ds) : DA G es δ ds := fun X hX F0 H0 F H σ S Q q pos pins s I => by
  obtain ⟨t, h1, h2⟩ := h X hX
  exact h1.run pos pins s σ H Q I (h2 F0 H0 F H σ S Q q)
theorem dc (h : DE G e δ d) : DC G e δ d := fun X hX => ev_c (h X hX)
theorem dnc {ds : List PyData} (h : DN G e δ ds) : DC G e δ (.list ds) := fun X hX => ev_nc (h X hX)
theorem dne {ds : List PyData} (h : DN G e δ ds) : DE G e δ (.list ds) := fun X hX => ev_ne (h X hX)
theorem DP.cast (h : DE G e δ d) (q : d = d1) : DE G e δ d1 := q ▸ h
theorem DN.cast {ds es : List PyData} (h : DN G e δ ds) (q : ds = es) : DN G e δ es := q ▸ h
theorem DT.cast {k k' : Bool} (h : DT G e δ k) (q : k = k') : DT G e δ k' := q ▸ h
theorem DC.cast (h : DC G e δ d) (q : d = d1) : DC G e δ d1 := q ▸ h

/-! names, constants -/
theorem va (i : Nat) (hN : G.N[i]? = some x := by rfl) (hs : δ[i]? = some (.va d) := by rfl) (hv : Vis G.sc x := by first | exact Or.inl rfl | exact Or.inr (Or.inl rfl) | exact Or.inr (Or.inr rfl)) (hd : (x == ("__debug__" : Str)) = false := by decide) (hcd : (x == ("__classdict__" : Str)) = false := by decide) :
    DE G (.Name x pos) δ d := dp_of fun X hX => ⟨tVar i, pe_var (by rw [hX.N]; exact hN) (by rw [hX.sc]; exact hv) hd hcd, fun F0 H0 F H σ S Q q => by
  obtain ⟨v, e, r⟩ := S.va i d hs
  exact ⟨v, e, q v F H (Grow.refl S.sub) r⟩⟩
/-- the slot's own list, as it stands -/
theorem vo {ds : List PyData} (i : Nat) (hN : G.N[i]? = some x := by rfl) (hs : δ[i]? = some (.ow ds) := by rfl) (hv : Vis G.sc x := by first | exact Or.inl rfl | exact Or.inr (Or.inl rfl) | exact Or.inr (Or.inr rfl)) (hd : (x == ("__debug__" : Str)) = false := by decide) (hcd : (x == ("__classdict__" : Str)) = false := by decide) :
    DC G (.Name x pos) δ (.list ds) := dp_of fun X hX => ⟨tVar i, pe_var (by rw [hX.N]; exact hN) (by rw [hX.sc]; exact hv) hd hcd, fun F0 H0 F H σ S Q q => by
  obtain ⟨p, xs, e, h1, h2, h3, r⟩ := S.ow i ds hs
  exact ⟨.ref p, e, q _ F H (Grow.refl S.sub) (.inr ⟨p, xs, ds, rfl, rfl, h1, r⟩)⟩⟩
theorem evp_tC {K : PySem.W.Frag} {v : V} (h : ∀ F, Rp K F v d) : EvP K (tC v) δ (rE K d) := fun F0 H0 F H σ S Q q => q v F H (Grow.refl S.sub) (h F)
theorem cI {i : Int} {j : Nat} : DE G (.Constant (.int i) j pos) δ (.int i) := dp_of fun X hX => ⟨_, pe_int, evp_tC fun _ => .int i⟩
theorem cS {i : Str} {j : Nat} : DE G (.Constant (.str i) j pos) δ (.str i) := dp_of fun X hX => ⟨_, pe_str, evp_tC fun _ => .str i⟩
theorem cB {i : Bool} {j : Nat} : DE G (.Constant (.bool i) j pos) δ (.bool i) := dp_of fun X hX => ⟨_, pe_bl, evp_tC fun _ => .bl i⟩
theorem cN {j : Nat} : DE G (.Constant .none j pos) δ .none := dp_of fun X hX => ⟨_, pe_non, evp_tC fun _ => .non⟩
theorem gI {i : Int} (hm : (x, i) ∈ CI := by decide) (hg : G.sc.names.lookup x = some .globalImplicit := by rfl) (hd : (x == ("__debug__" : Str)) = false := by decide) : DE G (.Name x pos) δ (.int i) := dp_of fun X hX => by
  obtain ⟨t, e⟩ := G.m.ci _ hm
  exact ⟨_, pe_glob (v := .int i) (by unfold Gl Env.kindOf; rw [hX.sc]; exact hg) (by rw [hX.mg]; exact e) ⟨t, rfl⟩ hd, evp_tC fun _ => .int i⟩
theorem gW (hg : G.sc.names.lookup ("WRITES" : Str) = some .globalImplicit := by rfl) : DE G (.Name "WRITES" pos) δ (.tuple [.str "put", .str "strike"]) := dp_of fun X hX => by
  obtain ⟨a, e, h⟩ := G.m.wr
  exact ⟨_, pe_glob (v := .ref a) (by unfold Gl Env.kindOf; rw [hX.sc]; exact hg) (by rw [hX.mg]; exact e) rfl, evp_tC fun F => .tup (h F) (.cons (.str _) (.cons (.str _) .nil))⟩

/-! operators -/
theorem op2 {op : Operator} {r : R2} (ho : ∀ X, XOk G X → OpR X (binaryOp op) r) (ha : DC G a δ d1) (hb : DC G b δ d2) (bk : Back R)
    (hr : ∀ F H v u (Q : VK), Same F H → RpC G.m.K F H v d1 → RpC G.m.K F H u d2 → (∀ v F' H', Grow F H F' H' → R H F' H' v → Q v H') → r v u H Q) : DP G (.BinOp a op b pos) δ R :=
  dp_of fun X hX => ⟨_, pe_op (ho X hX) pe_m pe_m, evp_2 (ha X hX) (hb X hX) bk hr⟩
theorem addI {i j : Int} (ha : DC G a δ (.int i)) (hb : DC G b δ (.int j)) : DE G (.BinOp a .Add b pos) δ (.int (i + j)) :=
  op2 (fun X _ => op_add) ha hb back_E fun F H v u Q s r1 r2 q => ⟨i, j, r1.inInt, r2.inInt, q _ F H (Grow.refl s) (.int _)⟩
theorem subI {i j : Int} (ha : DC G a δ (.int i)) (hb : DC G b δ (.int j)) : DE G (.BinOp a .Sub b pos) δ (.int (i - j)) :=
  op2 (fun X _ => op_sub) ha hb back_E fun F H v u Q s r1 r2 q => ⟨i, j, r1.inInt, r2.inInt, q _ F H (Grow.refl s) (.int _)⟩
theorem mulI {i j : Int} (ha : DC G a δ (.int i)) (hb : DC G b δ (.int j)) (hc : CMul i j) : DE G (.BinOp a .Mult b pos) δ (.int (i * j)) :=
  op2 (fun X _ => op_mul) ha hb back_E fun F H v u Q s r1 r2 q => ⟨i, j, r1.inInt, r2.inInt, hc, q _ F H (Grow.refl s) (.int _)⟩
theorem divI {i j : Int} (ha : DC G a δ (.int i)) (hb : DC G b δ (.int j)) (hc : CDivN i j) : DE G (.BinOp a .FloorDiv b pos) δ (.int (i.fdiv j)) :=
  op2 (fun X _ => op_fdivN) ha hb back_E fun F H v u Q s r1 r2 q => ⟨i, j, r1.inInt, r2.inInt, hc, q _ F H (Grow.refl s) (.int _)⟩
theorem modI {i j : Int} (ha : DC G a δ (.int i)) (hb : DC G b δ (.int j)) (hc : j ≠ 0) : DE G (.BinOp a .Mod b pos) δ (.int (i.fmod j)) :=
  op2 (fun X _ => op_modN) ha hb back_E fun F H v u Q s r1 r2 q => ⟨i, j, r1.inInt, r2.inInt, hc, q _ F H (Grow.refl s) (.int _)⟩
theorem powI {i j : Int} (ha : DC G a δ (.int i)) (hb : DC G b δ (.int j)) (hc : CPow i j) : DE G (.BinOp a .Pow b pos) δ (.int (i ^ j.toNat)) :=
  op2 (fun X _ => op_pow) ha hb back_E fun F H v u Q s r1 r2 q => ⟨i, j, r1.inInt, r2.inInt, hc, q _ F H (Grow.refl s) (.int _)⟩
theorem negI {i : Int} (ha : DC G a δ (.int i)) : DE G (.UnaryOp .USub a pos) δ (.int (-i)) := dp_of fun X hX => ⟨_, pe_un un_neg pe_m, evp_un (ha X hX) back_E fun F H v Q s r q => ⟨i, r.inInt, q _ F H (Grow.refl s) (.int _)⟩⟩
/-- list + list: a new one -/
theorem catL {ds es : List PyData} (ha : DC G a δ (.list ds)) (hb : DC G b δ (.list es)) (hz : ds.length + es.length ≤ 100000) : DN G (.BinOp a .Add b pos) δ (ds ++ es) :=
  op2 (fun X _ => op_cat) ha hb back_N fun F H v u Q s r1 r2 q => by
    obtain ⟨p, xs, e1, h1, k1⟩ := r1.inList s
    obtain ⟨p2, ys, e2, h2, k2⟩ := r2.inList s
    refine ⟨p, p2, xs, ys, e1, e2, h1, h2, by rw [k1.length, k2.length, sizeLine_eq]; omega, fun z hz => q _ F _ (Grow.newN s hz) ⟨z, xs ++ ys, rfl, hz, upd_same, s.free hz, k1.append k2⟩⟩
theorem repL {ds : List PyData} {k : Int} (ha : DC G a δ (.list ds)) (hb : DC G b δ (.int k)) (h0 : 0 ≤ k) (h1 : k ≤ 1000) (hz : ds.length ≤ 100) : DN G (.BinOp a .Mult b pos) δ (List.replicate k.toNat ds).flatten :=
  op2 (fun X _ => op_rep) ha hb back_N fun F H v u Q s r1 r2 q => by
    obtain ⟨p, xs, e1, a1, k1⟩ := r1.inList s
    have rep : ∀ n, RpA G.m.K F (List.replicate n xs).flatten (List.replicate n ds).flatten := fun n => by
      induction n with
      | zero => exact .nil
      | succ n ih => exact k1.append ih
    refine ⟨p, k, xs, e1, r2.inInt, a1, by omega, by omega, ?_, fun z hz => q _ F _ (Grow.newN s hz) ⟨z, _, rfl, hz, upd_same, s.free hz, rep _⟩⟩
    rw [k1.length, sizeLine_eq]
    calc ds.length * k.toNat ≤ 100 * 1000 := Nat.mul_le_mul hz (by omega)
      _ ≤ 16777216 := by decide
/-- tuple + tuple -/
theorem catT {ds es : List PyData} (ha : DC G a δ (.tuple ds)) (hb : DC G b δ (.tuple es)) (hz : ds.length + es.length ≤ 100000) : DE G (.BinOp a .Add b pos) δ (.tuple (ds ++ es)) :=
  op2 (r := rCatA G.m.K) (fun X hX => hX.K ▸ op_catA) ha hb back_E fun F H v u Q s r1 r2 q => by
    obtain ⟨p, xs, e1, h1, k1⟩ := r1.inTup
    obtain ⟨p2, ys, e2, h2, k2⟩ := r2.inTup
    subst e1 e2
    refine ⟨p, p2, xs, ys, rfl, rfl, sqt_mono s h1, sqt_mono s h2, by rw [k1.length, k2.length, sizeLine_eq]; omega, fun z => ?_, fun z1 z2 => ?_, fun z1 z2 z hz => ?_⟩
    · subst z
      cases k1
      exact q _ F H (Grow.refl s) (.tup h2 k2)
    · subst z2
      cases k2
      rw [List.append_nil] at q
      exact q _ F H (Grow.refl s) (.tup h1 k1)
    · exact q _ _ _ (Grow.new s hz) (.tup (SqT.of upd_same) ((k1.append k2).mono (same_new (s.free hz))))
theorem repT {ds : List PyData} {k : Int} (ha : DC G a δ (.tuple ds)) (hb : DC G b δ (.int k)) (hne : ds ≠ []) (h0 : 2 ≤ k) (h1 : k ≤ 1000) (hz : ds.length ≤ 1000) : DE G (.BinOp a .Mult b pos) δ (.tuple (List.replicate k.toNat ds).flatten) :=
  op2 (r := rRepT G.m.K) (fun X hX => hX.K ▸ op_repT) ha hb back_E fun F H v u Q s r1 r2 q => by
    obtain ⟨p, xs, e1, a1, k1⟩ := r1.inTup
    have rep : ∀ n, RpA G.m.K F (List.replicate n xs).flatten (List.replicate n ds).flatten := fun n => by
      induction n with
      | zero => exact .nil
      | succ n ih => exact k1.append ih
    refine ⟨p, k, xs, e1, r2.inInt, sqt_mono s a1, fun z => hne (by subst z; cases k1; rfl), h0, h1, by rw [k1.length]; exact hz, fun z hz => q _ _ _ (Grow.new s hz) (.tup (SqT.of upd_same) ((rep _).mono (same_new (s.free hz))))⟩
end
end DL
set_option Elab.async false
set_option linter.all false
set_option maxRecDepth 100000
set_option maxHeartbeats 1000000
namespace DL
open PySem PySem.Spec PyProof.Rows L2
section
variable {G : Gm} {a b c e : Expr} {es rest : List Expr} {δ : Sto} {d d1 d2 : PyData} {ds : List PyData} {R : Res} {pos p p2 : Pos} {x : Str} {k k1 k2 : Bool} {i j : Int}
/-! ### comparisons -/
def tmC (X : Cx) (op : CmpOp) (a b : Expr) : TE := fun σ H Q => ∀ pins s, Inv X pins σ H s →
    wpAny (model X.prog X.w) X.A (eval a X.env) (fun v s₁ => wpAny (model X.prog X.w) X.A (eval b X.env) (fun u s₂ => wpAny (model X.prog X.w) X.A (compareOp op v u) (EP X pins σ Q) X.xe s₂) X.xe s₁) X.xe s
theorem pc_m {X : Cx} {op : CmpOp} : PC X op a b (tmC X op a b) := ⟨fun pins s σ H Q I h => h pins s I⟩
theorem pc_of {X : Cx} {op : CmpOp} {r : R2} {ta tb : TE} (ho : OpR X (compareOp op) r) (ha : PE X a ta) (hb : PE X b tb) : PC X op a b (tOp r ta tb) :=
  ⟨fun pins s σ H Q I h => binT ha hb I h fun v u s2 x y H2 I2 rx ry q => ho pins s2 σ H2 x y v u Q I2 rx ry q⟩
/-- a op b gives k -/
def DK (G : Gm) (op : CmpOp) (a b : Expr) (δ : Sto) (k : Bool) : Prop := ∀ X, XOk G X → EvP G.m.K (tmC X op a b) δ (rE G.m.K (.bool k))
theorem dk_of {op : CmpOp} (h : ∀ X, XOk G X → ∃ t, PC X op a b t ∧ EvP G.m.K t δ (rE G.m.K (.bool k))) : DK G op a b δ k := fun X hX F0 H0 F H σ S Q q pins s I => by
  obtain ⟨t, h1, h2⟩ := h X hX
  exact h1.run pins s σ H Q I (h2 F0 H0 F H σ S Q q)
theorem DK.cast {op : CmpOp} (h : DK G op a b δ k) (q : k = k1) : DK G op a b δ k1 := q ▸ h
theorem dk2 {op : CmpOp} {r : R2} (ho : ∀ X, XOk G X → OpR X (compareOp op) r) (ha : DC G a δ d1) (hb : DC G b δ d2)
    (hr : ∀ F H v u (Q : VK), Same F H → RpC G.m.K F H v d1 → RpC G.m.K F H u d2 → Q (.bl k) H → r v u H Q) : DK G op a b δ k :=
  dk_of fun X hX => ⟨_, pc_of (ho X hX) pe_m pe_m, evp_2 (ha X hX) (hb X hX) back_E fun F H v u Q s r1 r2 q => hr F H v u Q s r1 r2 (q _ F H (Grow.refl s) (.bl _))⟩
theorem cmpE {op : CmpOp} (h : DK G op a b δ k) (hm : behindInMarks op b = false := by first | exact nomark _ | rfl) : DE G (.Compare a [op] [b] pos) δ (.bool k) := dp_of fun X hX => ⟨_, pe_cmp pc_m hm, h X hX⟩
theorem cmpT {op : CmpOp} (h : DK G op a b δ k) (hm : behindInMarks op b = false := by first | exact nomark _ | rfl) : DT G (.Compare a [op] [b] pos) δ k := dt_of fun X hX => ⟨_, pt_cmp pc_m hm, evt_B (ev_c (h X hX))⟩
theorem ltI (ha : DC G a δ (.int i)) (hb : DC G b δ (.int j)) : DK G .Lt a b δ (decide (i < j)) := dk2 (fun X _ => op_lt) ha hb fun F H v u Q s r1 r2 q => ⟨i, j, r1.inInt, r2.inInt, q⟩
theorem leI (ha : DC G a δ (.int i)) (hb : DC G b δ (.int j)) : DK G .LtE a b δ (decide (i ≤ j)) := dk2 (fun X _ => op_le) ha hb fun F H v u Q s r1 r2 q => ⟨i, j, r1.inInt, r2.inInt, q⟩
theorem gtI (ha : DC G a δ (.int i)) (hb : DC G b δ (.int j)) : DK G .Gt a b δ (decide (j < i)) := dk2 (fun X _ => op_gt) ha hb fun F H v u Q s r1 r2 q => ⟨i, j, r1.inInt, r2.inInt, q⟩
theorem geI (ha : DC G a δ (.int i)) (hb : DC G b δ (.int j)) : DK G .GtE a b δ (decide (j ≤ i)) := dk2 (fun X _ => op_ge) ha hb fun F H v u Q s r1 r2 q => ⟨i, j, r1.inInt, r2.inInt, q⟩
theorem eqI (ha : DC G a δ (.int i)) (hb : DC G b δ (.int j)) : DK G .Eq a b δ (decide (i = j)) := dk2 (fun X _ => op_eq) ha hb fun F H v u Q s r1 r2 q => by
  rw [r1.inInt, r2.inInt]
  exact ⟨rfl, by rw [show decide (V.int i = V.int j) = decide (i = j) from decide_eq_decide.mpr ⟨fun h => V.int.inj h, fun h => by rw [h]⟩]; exact q⟩
theorem neI (ha : DC G a δ (.int i)) (hb : DC G b δ (.int j)) : DK G .NotEq a b δ (!decide (i = j)) := dk2 (fun X _ => op_ne) ha hb fun F H v u Q s r1 r2 q => by
  rw [r1.inInt, r2.inInt]
  exact ⟨rfl, by rw [show decide (V.int i = V.int j) = decide (i = j) from decide_eq_decide.mpr ⟨fun h => V.int.inj h, fun h => by rw [h]⟩]; exact q⟩
theorem eqB {i j : Bool} (ha : DC G a δ (.bool i)) (hb : DC G b δ (.bool j)) : DK G .Eq a b δ (i == j) := dk2 (fun X _ => op_eq) ha hb fun F H v u Q s r1 r2 q => by
  rw [r1.inBool, r2.inBool]
  exact ⟨rfl, by rw [dec_bl]; exact q⟩
theorem neB {i j : Bool} (ha : DC G a δ (.bool i)) (hb : DC G b δ (.bool j)) : DK G .NotEq a b δ (!(i == j)) := dk2 (fun X _ => op_ne) ha hb fun F H v u Q s r1 r2 q => by
  rw [r1.inBool, r2.inBool]
  exact ⟨rfl, by rw [dec_bl]; exact q⟩
theorem eqS {i j : Str} (ha : DC G a δ (.str i)) (hb : DC G b δ (.str j)) : DK G .Eq a b δ (i == j) := dk2 (fun X _ => op_eq) ha hb fun F H v u Q s r1 r2 q => by
  rw [r1.inStr, r2.inStr]
  exact ⟨rfl, by rw [dec_str]; exact q⟩
theorem eqD (ha : DC G a δ d1) (hb : DC G b δ d2) (s1 : SeqAt.shaped d1 = true) (s2 : SeqAt.shaped d2 = true) : DK G .Eq a b δ (PyData.eqv d1 d2) :=
  dk2 (r := rEqD G.m.K) (fun X hX => hX.K ▸ op_eqD hX.room.units) ha hb fun F H v u Q s r1 r2 q => ⟨d1, d2, r1.dp s (Bool.and_eq_true_iff.mp s1).1, r2.dp s (Bool.and_eq_true_iff.mp s2).1, s1, s2, q⟩
theorem neD (ha : DC G a δ d1) (hb : DC G b δ d2) (s1 : SeqAt.shaped d1 = true) (s2 : SeqAt.shaped d2 = true) : DK G .NotEq a b δ (!PyData.eqv d1 d2) :=
  dk2 (r := rNeD G.m.K) (fun X hX => hX.K ▸ op_neD hX.room.units) ha hb fun F H v u Q s r1 r2 q => ⟨d1, d2, r1.dp s (Bool.and_eq_true_iff.mp s1).1, r2.dp s (Bool.and_eq_true_iff.mp s2).1, s1, s2, q⟩
def isNon : PyData → Bool
  | .none => true
  | _ => false
theorem RpC.dnon {K : PySem.W.Frag} {F H : Hp} {v : V} (h : RpC K F H v d) : decide (v = .non) = isNon d := by
  rcases h with h | ⟨p, xs, ds, e1, e2, h1, h2⟩
  · cases h <;> rfl
  · subst e1 e2; rfl
theorem isN (ha : DC G a δ d) (hb : DC G b δ .none) : DK G .Is a b δ (isNon d) := dk2 (fun X _ => op_isN) ha hb fun F H v u Q s r1 r2 q => ⟨r2.inNon, by rw [r1.dnon]; exact q⟩
theorem isNotN (ha : DC G a δ d) (hb : DC G b δ .none) : DK G .IsNot a b δ (!isNon d) := dk2 (fun X _ => op_notN) ha hb fun F H v u Q s r1 r2 q => ⟨r2.inNon, by rw [r1.dnon]; exact q⟩
theorem isNotB {i j : Bool} (ha : DC G a δ (.bool i)) (hb : DC G b δ (.bool j)) : DK G .IsNot a b δ (!decide (i = j)) := dk2 (fun X _ => op_notBl) ha hb fun F H v u Q s r1 r2 q => ⟨i, j, r1.inBool, r2.inBool, q⟩
/-! in, not in -/
theorem inV_int (i : Int) : ∀ ns : List Int, inV (.int i) (ns.map V.int) = decide (i ∈ ns)
  | [] => rfl
  | n :: ns => by
    have ih := inV_int i ns
    show (eqV (.int n) (.int i) || inV (.int i) (ns.map V.int)) = _
    rw [ih]
    show (decide (n = i) || decide (i ∈ ns)) = _
    by_cases h : n = i
    · simp [h]
    · simp [h, Ne.symm h]
theorem flat_int : ∀ ns : List Int, (ns.map V.int).all flatV = true
  | [] => rfl
  | n :: ns => flat_int ns
theorem inV_str (i : Str) : ∀ ns : List Str, inV (.str i) (ns.map V.str) = decide (i ∈ ns)
  | [] => rfl
  | n :: ns => by
    have ih := inV_str i ns
    show (eqV (.str n) (.str i) || inV (.str i) (ns.map V.str)) = _
    rw [ih]
    show (decide (n = i) || decide (i ∈ ns)) = _
    by_cases h : n = i
    · simp [h]
    · simp [h, Ne.symm h]
theorem flat_str : ∀ ns : List Str, (ns.map V.str).all flatV = true
  | [] => rfl
  | n :: ns => flat_str ns
theorem inV_bl (i : Bool) : ∀ ns : List Bool, inV (.bl i) (ns.map V.bl) = decide (i ∈ ns)
  | [] => rfl
  | n :: ns => by
    have ih := inV_bl i ns
    show (eqV (.bl n) (.bl i) || inV (.bl i) (ns.map V.bl)) = _
    rw [ih]
    show (decide (n = i) || decide (i ∈ ns)) = _
    by_cases h : n = i
    · simp [h]
    · simp [h, Ne.symm h]
theorem flat_bl : ∀ ns : List Bool, (ns.map V.bl).all flatV = true
  | [] => rfl
  | n :: ns => flat_bl ns
/-- a sequence of data, list or tuple -/
theorem RpC.inSeq {K : PySem.W.Frag} {F H : Hp} {v : V} (s : Same F H) (h : RpC K F H v d) (hd : d = .list ds ∨ d = .tuple ds) : ∃ p xs, v = .ref p ∧ (SqL K H p xs ∨ SqT K H p xs) ∧ RpA K F xs ds := by
  rcases hd with rfl | rfl
  · obtain ⟨p, xs, e, h1, h2⟩ := h.inList s
    exact ⟨p, xs, e, .inl (SqL.of h1), h2⟩
  · obtain ⟨p, xs, e, h1, h2⟩ := h.inTup
    exact ⟨p, xs, e, .inr (sqt_mono s h1), h2⟩
theorem inI_ {ns : List Int} (ha : DC G a δ (.int i)) (hb : DC G b δ d) (hd : d = .list (ns.map .int) ∨ d = .tuple (ns.map .int)) : DK G .In a b δ (decide (i ∈ ns)) :=
  dk2 (r := rIn G.m.K false) (fun X hX => hX.K ▸ op_in_seq) ha hb fun F H v u Q s r1 r2 q => by
    obtain ⟨p, xs, e, h1, h2⟩ := r2.inSeq s hd
    rw [h2.ints] at h1
    rw [r1.inInt]
    exact ⟨p, _, e, h1, rfl, flat_int _, by rw [inV_int]; exact q⟩
theorem niI_ {ns : List Int} (ha : DC G a δ (.int i)) (hb : DC G b δ d) (hd : d = .list (ns.map .int) ∨ d = .tuple (ns.map .int)) : DK G .NotIn a b δ (!decide (i ∈ ns)) :=
  dk2 (r := rIn G.m.K true) (fun X hX => hX.K ▸ op_notIn_seq) ha hb fun F H v u Q s r1 r2 q => by
    obtain ⟨p, xs, e, h1, h2⟩ := r2.inSeq s hd
    rw [h2.ints] at h1
    rw [r1.inInt]
    exact ⟨p, _, e, h1, rfl, flat_int _, by rw [inV_int]; exact q⟩
theorem inT {ns : List Int} (ha : DC G a δ (.int i)) (hb : DC G b δ (.tuple (ns.map .int))) : DK G .In a b δ (decide (i ∈ ns)) := inI_ ha hb (.inr rfl)
theorem inL {ns : List Int} (ha : DC G a δ (.int i)) (hb : DC G b δ (.list (ns.map .int))) : DK G .In a b δ (decide (i ∈ ns)) := inI_ ha hb (.inl rfl)
theorem niT {ns : List Int} (ha : DC G a δ (.int i)) (hb : DC G b δ (.tuple (ns.map .int))) : DK G .NotIn a b δ (!decide (i ∈ ns)) := niI_ ha hb (.inr rfl)
theorem niL {ns : List Int} (ha : DC G a δ (.int i)) (hb : DC G b δ (.list (ns.map .int))) : DK G .NotIn a b δ (!decide (i ∈ ns)) := niI_ ha hb (.inl rfl)
theorem RpA.strs {K : PySem.W.Frag} {F : Hp} : ∀ {ns : List Str} {vs : List V}, RpA K F vs (ns.map PyData.str) → vs = ns.map V.str
  | [], vs, h => by cases h; rfl
  | n :: ns, vs, h => by
    cases h with
    | cons h1 h2 =>
      cases h1
      rw [RpA.strs h2]
      rfl
theorem inS {s : Str} {ns : List Str} (ha : DC G a δ (.str s)) (hb : DC G b δ (.tuple (ns.map .str))) : DK G .In a b δ (decide (s ∈ ns)) :=
  dk2 (r := rIn G.m.K false) (fun X hX => hX.K ▸ op_in_seq) ha hb fun F H v u Q s r1 r2 q => by
    obtain ⟨p, xs, e, h1, h2⟩ := r2.inTup
    rw [h2.strs] at h1
    rw [r1.inStr]
    exact ⟨p, _, e, .inr (sqt_mono s h1), rfl, flat_str _, by rw [inV_str]; exact q⟩
theorem niB {i : Bool} {ns : List Bool} (ha : DC G a δ (.bool i)) (hb : DC G b δ (.list (ns.map .bool))) : DK G .NotIn a b δ (!decide (i ∈ ns)) :=
  dk2 (r := rIn G.m.K true) (fun X hX => hX.K ▸ op_notIn_seq) ha hb fun F H v u Q s r1 r2 q => by
    obtain ⟨p, xs, e, h1, h2⟩ := r2.inList s
    rw [h2.bls] at h1
    rw [r1.inBool]
    exact ⟨p, _, e, .inl (SqL.of h1), rfl, flat_bl _, by rw [inV_bl]; exact q⟩
/-! chains of two -/
theorem chT {o1 o2 : CmpOp} {l m n : Int} (g1 g2 : Int → Int → Bool) (h1 : ∀ X, XOk G X → OpR X (compareOp o1) (rI0 fun i j => .bl (g1 i j))) (h2 : ∀ X, XOk G X → OpR X (compareOp o2) (rI0 fun i j => .bl (g2 i j)))
    (ha : DC G a δ (.int l)) (hb : DC G b δ (.int m)) (hc : DC G c δ (.int n)) (hm : lastMarks [o1, o2] [b, c] = false := by first | rfl | exact nomark _) : DT G (.Compare a [o1, o2] [b, c] pos) δ (g1 l m && g2 m n) :=
  dt_of fun X hX => ⟨_, pt_chain (h1 X hX) (h2 X hX) pe_m pe_m pe_m hm, fun F0 H0 F H σ S Q q => ha X hX F0 H0 F H σ S _ fun v F1 H1 g1' r1 => hb X hX F0 H0 F1 H1 σ (S.grow g1') _ fun u F2 H2 g2' r2 => by
    refine ⟨l, m, (r1.grow g2').inInt, r2.inInt, g1 l m, rfl, ?_⟩
    cases hk : g1 l m with
    | false => exact ⟨false, rfl, by have := q F2 H2 (g1'.trans g2'); rwa [hk] at this⟩
    | true =>
      refine hc X hX F0 H0 F2 H2 σ (S.grow (g1'.trans g2')) _ fun w F3 H3 g3 r3 => ?_
      exact ⟨m, n, r2.inInt, r3.inInt, g2 m n, rfl, by have := q F3 H3 ((g1'.trans g2').trans g3); rwa [hk] at this⟩⟩
/-! ### tests -/
theorem tV (h : DC G e δ (.bool k)) (he : ∀ env whole, isTrue e env whole = (do let v ← whole; standAt e.pos; holding [v] (truthy v)) := by intros; rfl) : DT G e δ k := dt_of fun X hX => ⟨_, pt_val pe_m (he X.env), evt_B (h X hX)⟩
theorem tNot (h : DT G a δ k) : DT G (.UnaryOp .Not a pos) δ (!k) := dt_of fun X hX => ⟨_, pt_not pt_m, evt_not (h X hX)⟩
theorem wA1 (h : DT G a δ k) : DW G (.BoolOp .And [a] pos) δ k := dw_of fun X hX => ⟨_, pw_and1 pt_m, h X hX⟩
theorem wO1 (h : DT G a δ k) : DW G (.BoolOp .Or [a] pos) δ k := dw_of fun X hX => ⟨_, pw_or1 pt_m, h X hX⟩
theorem wA (h : DT G a δ k1) (h2 : k1 = true → DW G (.BoolOp .And (b :: rest) pos) δ k2) : DW G (.BoolOp .And (a :: b :: rest) pos) δ (k1 && k2) := dw_of fun X hX => ⟨_, pw_and pt_m pw_m, evt_and (h X hX) fun q => h2 q X hX⟩
theorem wO (h : DT G a δ k1) (h2 : k1 = false → DW G (.BoolOp .Or (b :: rest) pos) δ k2) : DW G (.BoolOp .Or (a :: b :: rest) pos) δ (k1 || k2) := dw_of fun X hX => ⟨_, pw_or pt_m pw_m, evt_or (h X hX) fun q => h2 q X hX⟩
theorem tW (h : DW G e δ k) : DT G e δ k := dt_of fun X hX => ⟨_, pw_m.pt, h X hX⟩
/-! as values -/
theorem vNot (h : DC G a δ (.bool k)) : DE G (.UnaryOp .Not a pos) δ (.bool (!k)) := dp_of fun X hX => ⟨_, pe_not pe_m, evp_notV (h X hX)⟩
theorem v1 {op : BoolOp} (h : DP G a δ R) : DP G (.BoolOp op [a] pos) δ R := dp_of fun X hX => ⟨_, pe_one pe_m, h X hX⟩
theorem vA (h : DC G a δ (.bool k1)) (h2 : k1 = true → DE G (.BoolOp .And (b :: rest) pos) δ (.bool k2)) : DE G (.BoolOp .And (a :: b :: rest) pos) δ (.bool (k1 && k2)) := dp_of fun X hX => ⟨_, pe_and pe_m pe_m, evp_andV (h X hX) fun q => h2 q X hX⟩
theorem vO (h : DC G a δ (.bool k1)) (h2 : k1 = false → DE G (.BoolOp .Or (b :: rest) pos) δ (.bool k2)) : DE G (.BoolOp .Or (a :: b :: rest) pos) δ (.bool (k1 || k2)) := dp_of fun X hX => ⟨_, pe_or pe_m pe_m, evp_orV (h X hX) fun q => h2 q X hX⟩
theorem vIf (h : DT G c δ k) (h1 : k = true → DE G a δ d) (h2 : k = false → DE G b δ d) : DE G (.IfExp c a b pos) δ d := dp_of fun X hX => ⟨_, pe_ifExp pt_m pe_m pe_m, evp_if (h X hX) back_E (fun q => h1 q X hX) fun q => h2 q X hX⟩
theorem vIfN (h : DT G c δ k) (h1 : k = true → DN G a δ ds) (h2 : k = false → DN G b δ ds) : DN G (.IfExp c a b pos) δ ds := dp_of fun X hX => ⟨_, pe_ifExp pt_m pe_m pe_m, evp_if (h X hX) back_N (fun q => h1 q X hX) fun q => h2 q X hX⟩
/-! ### subscripts -/
theorem RpA.atI {K : PySem.W.Frag} {F : Hp} {vs : List V} (h : RpA K F vs ds) (e : atI ds i = some d) : ∃ v, atI vs i = some v ∧ Rp K F v d := by
  unfold L2.atI at e ⊢
  rw [h.length]
  cases q : ixN ds.length i with
  | none => rw [q] at e; cases e
  | some n =>
    rw [q] at e
    exact h.get e
theorem ixT (ha : DC G a δ (.tuple ds)) (hb : DC G b δ (.int i)) (hi : atI ds i = some d) (hs : PlainIx b := by intro _ _; rfl) : DE G (.Subscript a b pos) δ d :=
  dp_of fun X hX => ⟨tOp (rIxT G.m.K) _ _, pe_ix (hX.K ▸ ix_tup) pe_m pe_m hs, evp_2 (ha X hX) (hb X hX) back_E fun F H v u Q s r1 r2 q => by
    obtain ⟨p, xs, e, h1, h2⟩ := r1.inTup
    obtain ⟨w, e2, r⟩ := h2.atI hi
    exact ⟨p, xs, i, w, e, r2.inInt, sqt_mono s h1, e2, q w F H (Grow.refl s) r⟩⟩
theorem ixL (ha : DC G a δ (.list ds)) (hb : DC G b δ (.int i)) (hi : atI ds i = some d) (hs : PlainIx b := by intro _ _; rfl) : DE G (.Subscript a b pos) δ d :=
  dp_of fun X hX => ⟨tOp (rIxL G.m.K) _ _, pe_ix (hX.K ▸ ix_list) pe_m pe_m hs, evp_2 (ha X hX) (hb X hX) back_E fun F H v u Q s r1 r2 q => by
    obtain ⟨p, xs, e, h1, h2⟩ := r1.inList s
    obtain ⟨w, e2, r⟩ := h2.atI hi
    exact ⟨p, xs, i, w, e, r2.inInt, SqL.of h1, e2, q w F H (Grow.refl s) r⟩⟩
/-! ### displays -/
theorem dTup {n : Nat} (h : DA G es δ ds) (hz : ds.length ≤ 100000 := by first | decide | (simp; done)) : DE G (.Tuple es n pos) δ (.tuple ds) := dp_of fun X hX => ⟨_, pe_tup pa_m, fun F0 H0 F H σ S Q q => h X hX F0 H0 F H σ S _ fun vs F1 H1 g r =>
  ⟨by rw [r.length, sizeLine_eq]; omega, fun p hp => q _ _ _ (g.trans (Grow.new g.sub hp)) (.tup (SqT.of upd_same) (r.mono (same_new (g.sub.free hp))))⟩⟩
theorem dLst (h : DA G es δ ds) (hz : ds.length ≤ 100000 := by first | decide | (simp; done)) : DN G (.List es pos) δ ds := dp_of fun X hX => ⟨_, pe_lst pa_m, fun F0 H0 F H σ S Q q => h X hX F0 H0 F H σ S _ fun vs F1 H1 g r =>
  ⟨by rw [r.length, sizeLine_eq]; omega, fun p hp => q _ _ _ (g.trans (Grow.newN g.sub hp)) ⟨p, vs, rfl, g.hh.free hp, upd_same, g.sub.free hp, r⟩⟩⟩
theorem aN : DA G [] δ [] := da_of fun X hX => ⟨_, pa_nil, eva_nil⟩
theorem aC (h : DE G e δ d) (hr : DA G es δ ds) (hs : ∀ env, starEach (e :: es) env = (false, eval e env) :: starEach es env := by intro _; rfl) : DA G (e :: es) δ (d :: ds) := da_of fun X hX => ⟨_, pa_cons pe_m pa_m (hs X.env), eva_cons (h X hX) (hr X hX)⟩
/-! ### built-ins -/
theorem bi_glob (hx : x ∈ BI) {X : Cx} (hX : XOk G X) : X.mg x = none := by rw [hX.mg]; exact G.m.bi x hx
theorem b1 {id : String} {r : List V → Hp → VK → Prop} (hc : ∀ X, XOk G X → CallR X (.builtin id) r) (hx : x ∈ BI) (hg : G.sc.names.lookup x = some .globalImplicit) (hv : bootBuiltins x = some (.builtin id)) (ha : DC G a δ d) (bk : Back R)
    (hr : ∀ F H v (Q : VK), Same F H → RpC G.m.K F H v d → (∀ v F' H', Grow F H F' H' → R H F' H' v → Q v H') → r [v] H Q) (hs : ∀ env, starEach [a] env = [(false, eval a env)])
    (hn : x ≠ "__name__") (hdb : (x == ("__debug__" : Str)) = false) : DP G (.Call (.Name x p) [a] [] pos) δ R :=
  dp_of fun X hX => ⟨_, pe_callB (hc X hX) (by unfold Gl Env.kindOf; rw [hX.sc]; exact hg) (bi_glob hx hX) hv (pa_cons pe_m pa_nil (hs X.env)) hn hdb (hs X.env) rfl, evp_1 (k := fun v H Q => r [v] H Q) (ha X hX) bk hr⟩
theorem b1ty {T : String} {r : List V → Hp → VK → Prop} (hc : ∀ X, XOk G X → CallR X (.type T) r) (hx : x ∈ BI) (hg : G.sc.names.lookup x = some .globalImplicit) (hv : bootBuiltins x = some (.type T)) (ha : DC G a δ d) (bk : Back R)
    (hr : ∀ F H v (Q : VK), Same F H → RpC G.m.K F H v d → (∀ v F' H', Grow F H F' H' → R H F' H' v → Q v H') → r [v] H Q) (hs : ∀ env, starEach [a] env = [(false, eval a env)])
    (hn : x ≠ "__name__") (hdb : (x == ("__debug__" : Str)) = false) : DP G (.Call (.Name x p) [a] [] pos) δ R :=
  dp_of fun X hX => ⟨_, pe_callTy (hc X hX) (by unfold Gl Env.kindOf; rw [hX.sc]; exact hg) (bi_glob hx hX) hv (pa_cons pe_m pa_nil (hs X.env)) hn hdb (hs X.env) rfl, evp_1 (k := fun v H Q => r [v] H Q) (ha X hX) bk hr⟩
theorem b2 {id : String} {r : List V → Hp → VK → Prop} (hc : ∀ X, XOk G X → CallR X (.builtin id) r) (hx : x ∈ BI) (hg : G.sc.names.lookup x = some .globalImplicit) (hv : bootBuiltins x = some (.builtin id)) (ha : DC G a δ d1) (hb : DC G b δ d2) (bk : Back R)
    (hr : ∀ F H v u (Q : VK), Same F H → RpC G.m.K F H v d1 → RpC G.m.K F H u d2 → (∀ v F' H', Grow F H F' H' → R H F' H' v → Q v H') → r [v, u] H Q) (hs : ∀ env, starEach [a, b] env = [(false, eval a env), (false, eval b env)]) (hs2 : ∀ env, starEach [b] env = [(false, eval b env)])
    (hn : x ≠ "__name__") (hdb : (x == ("__debug__" : Str)) = false) : DP G (.Call (.Name x p) [a, b] [] pos) δ R :=
  dp_of fun X hX => ⟨_, pe_callB (hc X hX) (by unfold Gl Env.kindOf; rw [hX.sc]; exact hg) (bi_glob hx hX) hv (pa_cons pe_m (pa_cons pe_m pa_nil (hs2 X.env)) (by rw [hs, hs2])) hn hdb (by rw [hs, hs2]) (by rw [hs2]; rfl), evp_2 (k := fun v u H Q => r [v, u] H Q) (ha X hX) (hb X hX) bk hr⟩
theorem bLen (ha : DC G a δ d) (hd : d = .list ds ∨ d = .tuple ds) (hg : G.sc.names.lookup ("len" : Str) = some .globalImplicit) (hs : ∀ env, starEach [a] env = [(false, eval a env)]) : DE G (.Call (.Name "len" p) [a] [] pos) δ (.int ds.length) :=
  b1 (r := fun xs H Q => ∃ p ys, xs = [.ref p] ∧ (SqL G.m.K H p ys ∨ SqT G.m.K H p ys) ∧ Q (.int ys.length) H) (fun X hX => hX.K ▸ call_len_seq) (by decide) hg PySem.boot_len ha back_E (fun F H v Q s r q => by
    obtain ⟨p, xs, e, h1, h2⟩ := r.inSeq s hd
    refine ⟨p, xs, by rw [e], h1, ?_⟩
    rw [h2.length]
    exact q _ F H (Grow.refl s) (.int _)) hs (by decide) (by decide)
theorem lenT (ha : DC G a δ (.tuple ds)) (hg : G.sc.names.lookup ("len" : Str) = some .globalImplicit := by rfl) (hs : ∀ env, starEach [a] env = [(false, eval a env)] := by intro _; rfl) : DE G (.Call (.Name "len" p) [a] [] pos) δ (.int ds.length) := bLen ha (.inr rfl) hg hs
theorem lenL (ha : DC G a δ (.list ds)) (hg : G.sc.names.lookup ("len" : Str) = some .globalImplicit := by rfl) (hs : ∀ env, starEach [a] env = [(false, eval a env)] := by intro _; rfl) : DE G (.Call (.Name "len" p) [a] [] pos) δ (.int ds.length) := bLen ha (.inl rfl) hg hs
theorem bList (ha : DC G a δ d) (hd : d = .list ds ∨ d = .tuple ds) (hg : G.sc.names.lookup ("list" : Str) = some .globalImplicit) (hs : ∀ env, starEach [a] env = [(false, eval a env)]) : DN G (.Call (.Name "list" p) [a] [] pos) δ ds :=
  b1ty (r := fun xs H Q => ∃ p ys, xs = [.ref p] ∧ (SqL G.m.K H p ys ∨ SqT G.m.K H p ys) ∧ ∀ l, H l = none → Q (.ref l) (upd H l (.lst ys))) (fun X hX => hX.K ▸ call_list_of) (by decide) hg (by decide +kernel) ha back_N (fun F H v Q s r q => by
    obtain ⟨p, xs, e, h1, h2⟩ := r.inSeq s hd
    exact ⟨p, xs, by rw [e], h1, fun l hl => q _ F _ (Grow.newN s hl) ⟨l, xs, rfl, hl, upd_same, s.free hl, h2⟩⟩) hs (by decide) (by decide)
theorem listT (ha : DC G a δ (.tuple ds)) (hg : G.sc.names.lookup ("list" : Str) = some .globalImplicit := by rfl) (hs : ∀ env, starEach [a] env = [(false, eval a env)] := by intro _; rfl) : DN G (.Call (.Name "list" p) [a] [] pos) δ ds := bList ha (.inr rfl) hg hs
theorem listL (ha : DC G a δ (.list ds)) (hg : G.sc.names.lookup ("list" : Str) = some .globalImplicit := by rfl) (hs : ∀ env, starEach [a] env = [(false, eval a env)] := by intro _; rfl) : DN G (.Call (.Name "list" p) [a] [] pos) δ ds := bList ha (.inl rfl) hg hs
theorem bTup (ha : DC G a δ d) (hd : d = .list ds ∨ d = .tuple ds) (hg : G.sc.names.lookup ("tuple" : Str) = some .globalImplicit) (hs : ∀ env, starEach [a] env = [(false, eval a env)]) : DE G (.Call (.Name "tuple" p) [a] [] pos) δ (.tuple ds) :=
  b1ty (r := fun xs H Q => ∃ p ys, xs = [.ref p] ∧ ((SqL G.m.K H p ys ∧ ∀ l, H l = none → Q (.ref l) (upd H l (.tup ys))) ∨ (SqT G.m.K H p ys ∧ Q (.ref p) H))) (fun X hX => hX.K ▸ call_tuple_of) (by decide) hg (by decide +kernel) ha back_E (fun F H v Q s r q => by
    rcases hd with rfl | rfl
    · obtain ⟨p, xs, e, h1, h2⟩ := r.inList s
      exact ⟨p, xs, by rw [e], .inl ⟨SqL.of h1, fun l hl => q _ _ _ (Grow.new s hl) (.tup (SqT.of upd_same) (h2.mono (same_new (s.free hl))))⟩⟩
    · obtain ⟨p, xs, e, h1, h2⟩ := r.inTup
      exact ⟨p, xs, by rw [e], .inr ⟨sqt_mono s h1, q _ F H (Grow.refl s) (.tup h1 h2)⟩⟩) hs (by decide) (by decide)
theorem tupT (ha : DC G a δ (.tuple ds)) (hg : G.sc.names.lookup ("tuple" : Str) = some .globalImplicit := by rfl) (hs : ∀ env, starEach [a] env = [(false, eval a env)] := by intro _; rfl) : DE G (.Call (.Name "tuple" p) [a] [] pos) δ (.tuple ds) := bTup ha (.inr rfl) hg hs
theorem tupL (ha : DC G a δ (.list ds)) (hg : G.sc.names.lookup ("tuple" : Str) = some .globalImplicit := by rfl) (hs : ∀ env, starEach [a] env = [(false, eval a env)] := by intro _; rfl) : DE G (.Call (.Name "tuple" p) [a] [] pos) δ (.tuple ds) := bTup ha (.inl rfl) hg hs
theorem anyL {bs : List Bool} (ha : DC G a δ (.list (bs.map .bool))) (hg : G.sc.names.lookup ("any" : Str) = some .globalImplicit := by rfl) (hs : ∀ env, starEach [a] env = [(false, eval a env)] := by intro _; rfl) : DE G (.Call (.Name "any" p) [a] [] pos) δ (.bool (bs.any id)) :=
  b1 (r := rAny G.m.K) (fun X hX => hX.K ▸ cr_any hX.calm) (by decide) hg (by decide +kernel) ha back_E (fun F H v Q s r q => by
    obtain ⟨p, xs, e, h1, h2⟩ := r.inList s
    rw [h2.bls] at h1
    exact ⟨p, bs, by rw [e], SqL.of h1, q _ F H (Grow.refl s) (.bl _)⟩) hs (by decide) (by decide)
theorem allL {bs : List Bool} (ha : DC G a δ (.list (bs.map .bool))) (hg : G.sc.names.lookup ("all" : Str) = some .globalImplicit := by rfl) (hs : ∀ env, starEach [a] env = [(false, eval a env)] := by intro _; rfl) : DE G (.Call (.Name "all" p) [a] [] pos) δ (.bool (bs.all id)) :=
  b1 (r := rAll G.m.K) (fun X hX => hX.K ▸ cr_all hX.calm) (by decide) hg (by decide +kernel) ha back_E (fun F H v Q s r q => by
    obtain ⟨p, xs, e, h1, h2⟩ := r.inList s
    rw [h2.bls] at h1
    exact ⟨p, bs, by rw [e], SqL.of h1, q _ F H (Grow.refl s) (.bl _)⟩) hs (by decide) (by decide)
theorem absI (ha : DC G a δ (.int i)) (hg : G.sc.names.lookup ("abs" : Str) = some .globalImplicit := by rfl) (hs : ∀ env, starEach [a] env = [(false, eval a env)] := by intro _; rfl) : DE G (.Call (.Name "abs" p) [a] [] pos) δ (.int (if i < 0 then -i else i)) :=
  b1 (fun X hX => call_abs) (by decide) hg (by decide +kernel) ha back_E (fun F H v Q s r q => ⟨i, by rw [r.inInt], q _ F H (Grow.refl s) (.int _)⟩) hs (by decide) (by decide)
theorem intI (ha : DC G a δ (.int i)) (hg : G.sc.names.lookup ("int" : Str) = some .globalImplicit := by rfl) (hs : ∀ env, starEach [a] env = [(false, eval a env)] := by intro _; rfl) : DE G (.Call (.Name "int" p) [a] [] pos) δ (.int i) :=
  b1ty (fun X hX => call_int1) (by decide) hg (by decide +kernel) ha back_E (fun F H v Q s r q => .inl ⟨i, by rw [r.inInt], q _ F H (Grow.refl s) (.int _)⟩) hs (by decide) (by decide)
theorem intB (ha : DC G a δ (.bool k)) (hg : G.sc.names.lookup ("int" : Str) = some .globalImplicit := by rfl) (hs : ∀ env, starEach [a] env = [(false, eval a env)] := by intro _; rfl) : DE G (.Call (.Name "int" p) [a] [] pos) δ (.int (if k then 1 else 0)) :=
  b1ty (fun X hX => call_int1) (by decide) hg (by decide +kernel) ha back_E (fun F H v Q s r q => .inr ⟨k, by rw [r.inBool], q _ F H (Grow.refl s) (.int _)⟩) hs (by decide) (by decide)
theorem max2 (ha : DC G a δ (.int i)) (hb : DC G b δ (.int j)) (hg : G.sc.names.lookup ("max" : Str) = some .globalImplicit := by rfl) (hs : ∀ env, starEach [a, b] env = [(false, eval a env), (false, eval b env)] := by intro _; rfl) (hs2 : ∀ env, starEach [b] env = [(false, eval b env)] := by intro _; rfl) :
    DE G (.Call (.Name "max" p) [a, b] [] pos) δ (.int (if j > i then j else i)) :=
  b2 (fun X hX => call_max2 hX.calm) (by decide) hg (by decide +kernel) ha hb back_E (fun F H v u Q s r1 r2 q => ⟨i, j, by rw [r1.inInt, r2.inInt], q _ F H (Grow.refl s) (.int _)⟩) hs hs2 (by decide) (by decide)
theorem min2 (ha : DC G a δ (.int i)) (hb : DC G b δ (.int j)) (hg : G.sc.names.lookup ("min" : Str) = some .globalImplicit := by rfl) (hs : ∀ env, starEach [a, b] env = [(false, eval a env), (false, eval b env)] := by intro _; rfl) (hs2 : ∀ env, starEach [b] env = [(false, eval b env)] := by intro _; rfl) :
    DE G (.Call (.Name "min" p) [a, b] [] pos) δ (.int (if j < i then j else i)) :=
  b2 (fun X hX => call_min2 hX.calm) (by decide) hg (by decide +kernel) ha hb back_E (fun F H v u Q s r1 r2 q => ⟨i, j, by rw [r1.inInt, r2.inInt], q _ F H (Grow.refl s) (.int _)⟩) hs hs2 (by decide) (by decide)
def lmax : List Int → Int
  | [] => 0
  | [x] => x
  | x :: y :: r => max x (lmax (y :: r))
def lmin : List Int → Int
  | [] => 0
  | [x] => x
  | x :: y :: r => min x (lmin (y :: r))
theorem lmax_spec : ∀ l : List Int, l ≠ [] → lmax l ∈ l ∧ ∀ y ∈ l, y ≤ lmax l
  | [], h => absurd rfl h
  | [x], _ => ⟨by simp [lmax], by simp [lmax]⟩
  | x :: y :: r, _ => by
    obtain ⟨h1, h2⟩ := lmax_spec (y :: r) (by simp)
    show max x (lmax (y :: r)) ∈ x :: y :: r ∧ ∀ z ∈ x :: y :: r, z ≤ max x (lmax (y :: r))
    refine ⟨?_, fun z hz => ?_⟩
    · by_cases h : x ≤ lmax (y :: r)
      · rw [Int.max_eq_right h]; exact List.mem_cons_of_mem _ h1
      · rw [Int.max_eq_left (by omega)]; exact List.mem_cons_self
    · rcases List.mem_cons.mp hz with rfl | hz
      · exact Int.le_max_left ..
      · exact Int.le_trans (h2 z hz) (Int.le_max_right ..)
theorem lmin_spec : ∀ l : List Int, l ≠ [] → lmin l ∈ l ∧ ∀ y ∈ l, lmin l ≤ y
  | [], h => absurd rfl h
  | [x], _ => ⟨by simp [lmin], by simp [lmin]⟩
  | x :: y :: r, _ => by
    obtain ⟨h1, h2⟩ := lmin_spec (y :: r) (by simp)
    show min x (lmin (y :: r)) ∈ x :: y :: r ∧ ∀ z ∈ x :: y :: r, min x (lmin (y :: r)) ≤ z
    refine ⟨?_, fun z hz => ?_⟩
    · by_cases h : x ≤ lmin (y :: r)
      · rw [Int.min_eq_left h]; exact List.mem_cons_self
      · rw [Int.min_eq_right (by omega)]; exact List.mem_cons_of_mem _ h1
    · rcases List.mem_cons.mp hz with rfl | hz
      · exact Int.min_le_left ..
      · exact Int.le_trans (Int.min_le_right ..) (h2 z hz)
theorem maxL {ns : List Int} (ha : DC G a δ (.list (ns.map .int))) (hne : ns ≠ []) (hg : G.sc.names.lookup ("max" : Str) = some .globalImplicit := by rfl) (hs : ∀ env, starEach [a] env = [(false, eval a env)] := by intro _; rfl) : DE G (.Call (.Name "max" p) [a] [] pos) δ (.int (lmax ns)) :=
  b1 (r := rMax G.m.K) (fun X hX => hX.K ▸ cr_max hX.calm) (by decide) hg (by decide +kernel) ha back_E (fun F H v Q s r q => by
    obtain ⟨p, xs, e, h1, h2⟩ := r.inList s
    rw [h2.ints] at h1
    refine ⟨p, ns, by rw [e], SqL.of h1, List.length_pos_iff.mpr hne, fun m hm hle => ?_⟩
    obtain ⟨a1, a2⟩ := lmax_spec ns hne
    have em : m = lmax ns := Int.le_antisymm (a2 m hm) (hle _ a1)
    rw [em]
    exact q _ F H (Grow.refl s) (.int _)) hs (by decide) (by decide)
theorem minL {ns : List Int} (ha : DC G a δ (.list (ns.map .int))) (hne : ns ≠ []) (hg : G.sc.names.lookup ("min" : Str) = some .globalImplicit := by rfl) (hs : ∀ env, starEach [a] env = [(false, eval a env)] := by intro _; rfl) : DE G (.Call (.Name "min" p) [a] [] pos) δ (.int (lmin ns)) :=
  b1 (r := rMin G.m.K) (fun X hX => hX.K ▸ cr_min hX.calm) (by decide) hg (by decide +kernel) ha back_E (fun F H v Q s r q => by
    obtain ⟨p, xs, e, h1, h2⟩ := r.inList s
    rw [h2.ints] at h1
    refine ⟨p, ns, by rw [e], SqL.of h1, List.length_pos_iff.mpr hne, fun m hm hle => ?_⟩
    obtain ⟨a1, a2⟩ := lmin_spec ns hne
    have em : m = lmin ns := Int.le_antisymm (hle _ a1) (a2 m hm)
    rw [em]
    exact q _ F H (Grow.refl s) (.int _)) hs (by decide) (by decide)
/-- list[::-1] -/
theorem revL {n : Nat} {p1 p2 p3 : Pos} (ha : DC G a δ (.list ds)) : DN G (.Subscript a (.Slice none none (some (.UnaryOp .USub (.Constant (.int 1) n p1) p2)) p3) pos) δ ds.reverse :=
  dp_of fun X hX => ⟨tRevL G.m.K (tmE X a), hX.K ▸ pe_revL pe_m, evp_1 (ta := tmE X a) (k := fun x H1 Q => ∃ a xs, x = .ref a ∧ SqL G.m.K H1 a xs ∧ ∀ p, H1 p = none → Q (.ref p) (upd H1 p (.lst xs.reverse))) (ha X hX) back_N fun F H v Q s r q => by
    obtain ⟨p, xs, e, h1, h2⟩ := r.inList s
    exact ⟨p, xs, e, SqL.of h1, fun l hl => q _ F _ (Grow.newN s hl) ⟨l, _, rfl, hl, upd_same, s.free hl, h2.rev⟩⟩⟩
end

/-! ### defs -/
/-- what a def of data promises -/
def spD (K : PySem.W.Frag) (n : Nat) (R : List PyData → PyData → Prop) : Sp := fun vs H Q _ => ∃ F ds d, Same F H ∧ RpA K F vs ds ∧ ds.length = n ∧ R ds d ∧ ∀ v F' H', Grow F H F' H' → Rp K F' v d → Q v H'
structure Cal (m : Md) (k : Nat) (x : Str) (n : Nat) (R : List PyData → PyData → Prop) : Prop where
  ex : ∃ (f : Addr) (fd : FuncData) (ps : List Str), FnOk m.P m.w m.K m.mg m.base CX0 k f fd ps (spD m.K n R) ∧ m.mg x = some (.ref f) ∧ PySem.W.keepIn m.K (.ref f) = true ∧ Binds m.K fd ps []
section
variable {G : Gm} {e : Expr} {es : List Expr} {δ : Sto} {d : PyData} {ds : List PyData} {pos p : Pos} {x : Str} {k n : Nat} {Rl : List PyData → PyData → Prop}
theorem call (c : Cal G.m k x n Rl) (ha : DA G (e :: es) δ ds) (hR : Rl ds d) (hk : k ≤ G.k := by exact Nat.le_of_ble_eq_true rfl) (hg : G.sc.names.lookup x = some .globalImplicit := by rfl) (hn : ds.length = n := by rfl) (hdb : (x == ("__debug__" : Str)) = false := by decide)
    (he : ∀ env, starEach (e :: es) env = (false, eval e env) :: starEach es env := by intro _; rfl) (hpl : ∀ env, (backTo pos (starEach es env)).any (·.1) = false := by intro _; rfl) : DE G (.Call (.Name x p) (e :: es) [] pos) δ d :=
  dp_of fun X hX => by
    obtain ⟨f, fd, ps, F, hm, kp, b⟩ := c.ex
    refine ⟨tCall (spD G.m.K n Rl) [] E0 (tmA X (e :: es)), pe_call (k := k) (f := f) (fd := fd) (ps := ps) ?_ (hX.room.mono hk) (by unfold Gl Env.kindOf; rw [hX.sc]; exact hg) (by rw [hX.mg]; exact hm) (by rw [hX.K]; exact kp) (by rw [hX.K]; exact b) .nil pass0 pa_m hdb (he X.env) (hpl X.env), ?_⟩
    · rw [hX.prog, hX.w, hX.K, hX.mg, hX.base]; exact F
    · intro F0 H0 F1 H1 σ S Q q
      refine ha X hX F0 H0 F1 H1 σ S _ fun vs F' H' g r => ?_
      rw [List.append_nil]
      exact ⟨F', ds, d, g.sub, r, hn, hR, fun v F2 H2 g2 r2 => q v F2 H2 (g.trans g2) r2⟩
theorem call0 (c : Cal G.m k x 0 Rl) (hR : Rl [] d) (hk : k ≤ G.k := by exact Nat.le_of_ble_eq_true rfl) (hg : G.sc.names.lookup x = some .globalImplicit := by rfl) (hdb : (x == ("__debug__" : Str)) = false := by decide) : DE G (.Call (.Name x p) [] [] pos) δ d :=
  dp_of fun X hX => by
    obtain ⟨f, fd, ps, F, hm, kp, b⟩ := c.ex
    refine ⟨tCall (spD G.m.K 0 Rl) [] E0 tNil, pe_call0 (k := k) (f := f) (fd := fd) (ps := ps) ?_ (hX.room.mono hk) (by unfold Gl Env.kindOf; rw [hX.sc]; exact hg) (by rw [hX.mg]; exact hm) (by rw [hX.K]; exact kp) (by rw [hX.K]; exact b) .nil pass0 hdb, ?_⟩
    · rw [hX.prog, hX.w, hX.K, hX.mg, hX.base]; exact F
    · intro F0 H0 F1 H1 σ S Q q
      exact ⟨F1, [], d, S.sub, .nil, rfl, hR, fun v F2 H2 g2 r2 => q v F2 H2 g2 r2⟩
end
end DL
set_option Elab.async false
set_option linter.all false
set_option maxRecDepth 100000
set_option maxHeartbeats 1000000
namespace DL
open PySem PySem.Spec PyProof.Rows L2

/-! ### targets, sources -/
def gmE (G : Gm) (e : Expr) : TE := fun σ H Q => ∀ X, XOk G X → tmE X e σ H Q
theorem pe_g {G : Gm} {e : Expr} {X : Cx} (hX : XOk G X) : PE X e (gmE G e) := ⟨fun pins s σ H Q I h => h X hX pins s I⟩
theorem gm_of {G : Gm} {e : Expr} {δ : Sto} {R : Res} (h : DP G e δ R) : EvP G.m.K (gmE G e) δ R := fun F0 H0 F H σ S Q q X hX => h X hX F0 H0 F H σ S Q q
def gmT (G : Gm) (e : Expr) : TT := fun σ H Q => ∀ X, XOk G X → tmT X e σ H Q
theorem pt_g {G : Gm} {e : Expr} {X : Cx} (hX : XOk G X) : PT X e (gmT G e) := ⟨fun pins s σ H Q I h => h X hX pins s I⟩
def tmG (X : Cx) (tg : Expr) : TG := fun v σ H Q => ∀ pins s u, Inv X pins σ H s → RelV v u → wpAny (model X.prog X.w) X.A (assign tg X.env u) (fun _ s' => ∃ σ' H', Inv X pins σ' H' s' ∧ Q σ' H') X.xe s
def gmG (G : Gm) (tg : Expr) : TG := fun v σ H Q => ∀ X, XOk G X → tmG X tg v σ H Q
theorem pg_g {G : Gm} {tg : Expr} {X : Cx} (hX : XOk G X) : PG X tg (gmG G tg) := ⟨fun pins s σ H v u Q I r h => h X hX pins s u I r⟩
/-- only the slots at js are written -/
structure Wr (js : List Nat) (σ σ' : L2.St) : Prop where
  len : σ'.length = σ.length
  out : ∀ j, j ∉ js → σ'[j]? = σ[j]?
theorem Wr.refl {js : List Nat} {σ : L2.St} : Wr js σ σ := ⟨rfl, fun _ _ => rfl⟩
theorem Wr.trans {js : List Nat} {σ σ1 σ2 : L2.St} (a : Wr js σ σ1) (b : Wr js σ1 σ2) : Wr js σ σ2 := ⟨b.len.trans a.len, fun j h => (b.out j h).trans (a.out j h)⟩
theorem Wr.mono {js ks : List Nat} {σ σ1 : L2.St} (a : Wr js σ σ1) (h : ∀ j ∈ js, j ∈ ks) : Wr ks σ σ1 := ⟨a.len, fun j n => a.out j fun m => n (h j m)⟩
theorem wipe_get (σ : L2.St) : ∀ (vs : List Nat) (j : Nat), (wipe σ vs)[j]? = if j ∈ vs then (σ[j]?).map (fun _ => none) else σ[j]?
  | [], j => by simp [wipe]
  | v :: vs, j => by
    unfold wipe
    rw [List.getElem?_set, wipe_length, wipe_get σ vs j]
    by_cases h : v = j
    · subst h
      rw [if_pos rfl, if_pos List.mem_cons_self]
      by_cases hl : v < σ.length
      · rw [if_pos hl, List.getElem?_eq_getElem hl]; rfl
      · rw [if_neg hl, List.getElem?_eq_none (by omega)]; rfl
    · rw [if_neg h]
      by_cases hm : j ∈ vs
      · rw [if_pos hm, if_pos (List.mem_cons_of_mem _ hm)]
      · rw [if_neg hm, if_neg (by simp only [List.mem_cons, not_or]; exact ⟨Ne.symm h, hm⟩)]
theorem Wr.wipe {vs : List Nat} {σ σ' : L2.St} (w : Wr vs (wipe σ vs) σ') : wipe σ' vs = wipe σ vs := by
  apply List.ext_getElem?
  intro j
  rw [wipe_get, wipe_get]
  by_cases h : j ∈ vs
  · rw [if_pos h, if_pos h]
    have l := w.len
    rw [wipe_length] at l
    by_cases hl : j < σ.length
    · rw [List.getElem?_eq_getElem hl, List.getElem?_eq_getElem (by omega)]; rfl
    · rw [List.getElem?_eq_none (by omega), List.getElem?_eq_none (by omega)]
  · rw [if_neg h, if_neg h, w.out j h, wipe_get, if_neg h]
/-- the target takes d: the store becomes δ' -/
def GvP (K : PySem.W.Frag) (g : TG) (js : List Nat) (δ : Sto) (d : PyData) (δ' : Sto) : Prop := ∀ F0 H0 F H σ v, Stt K F0 H0 F H σ δ → Rp K F v d → ∀ Q : L2.St → Hp → Prop, (∀ σ', Stt K F0 H0 F H σ' δ' → Wr js σ σ' → Q σ' H) → g v σ H Q
def DG (G : Gm) (tg : Expr) (js : List Nat) (δ : Sto) (d : PyData) (δ' : Sto) : Prop := ∀ X, XOk G X → GvP G.m.K (tmG X tg) js δ d δ'
theorem dg_of {G : Gm} {tg : Expr} {js : List Nat} {δ δ' : Sto} {d : PyData} (h : ∀ X, XOk G X → ∃ g, PG X tg g ∧ GvP G.m.K g js δ d δ') : DG G tg js δ d δ' := fun X hX F0 H0 F H σ v S r Q q pins s u I ru => by
  obtain ⟨g, h1, h2⟩ := h X hX
  exact h1.run pins s σ H v u Q I ru (h2 F0 H0 F H σ v S r Q q)
theorem gmg_of {G : Gm} {tg : Expr} {js : List Nat} {δ δ' : Sto} {d : PyData} (h : DG G tg js δ d δ') : GvP G.m.K (gmG G tg) js δ d δ' := fun F0 H0 F H σ v S r Q q X hX => h X hX F0 H0 F H σ v S r Q q
section
variable {G : Gm} {δ δ' δ1 δ2 δ3 : Sto} {d d1 d2 d3 : PyData} {x : Str} {pos : Pos} {e1 e2 e3 : Expr} {js j1 j2 j3 : List Nat}
theorem gN (i : Nat) (hi : G.N[i]? = some x := by rfl) (hx : Loc G.sc x := by first | exact Or.inl rfl | exact Or.inr rfl) (hf : G.fn x = true ∨ G.sc.names.lookup x = some .local := by first | exact .inr rfl | exact .inl rfl) : DG G (.Name x pos) [i] δ d (δ.set i (.va d)) :=
  dg_of fun X hX => ⟨gName i, pg_name hX.nd (by rw [hX.N]; exact hi) (by rw [hX.sc]; exact hx) (by rw [hX.fn, hX.sc]; exact hf), fun F0 H0 F H σ v S r Q q => q _ (S.set i r) ⟨List.length_set .., fun j hj => List.getElem?_set_ne (by simpa using Ne.symm (by simpa using hj))⟩⟩
theorem rpa2 {K : PySem.W.Frag} {F : Hp} {vs : List V} (h : RpA K F vs [d1, d2]) : ∃ v1 v2, vs = [v1, v2] ∧ Rp K F v1 d1 ∧ Rp K F v2 d2 := by
  cases h with
  | cons h1 h2 =>
    cases h2 with
    | cons h2 h3 =>
      cases h3
      exact ⟨_, _, rfl, h1, h2⟩
theorem rpa3 {K : PySem.W.Frag} {F : Hp} {vs : List V} (h : RpA K F vs [d1, d2, d3]) : ∃ v1 v2 v3, vs = [v1, v2, v3] ∧ Rp K F v1 d1 ∧ Rp K F v2 d2 ∧ Rp K F v3 d3 := by
  cases h with
  | cons h1 h2 =>
    obtain ⟨v2, v3, e, k2, k3⟩ := rpa2 h2
    subst e
    exact ⟨_, _, _, rfl, h1, k2, k3⟩
theorem gT2 {n : Nat} (h1 : DG G e1 j1 δ d1 δ1) (h2 : DG G e2 j2 δ1 d2 δ2) (hn : ∀ env, (assignEach [e1, e2] env) = [(false, assign e1 env), (false, assign e2 env)] := by intro _; rfl) (hn2 : ∀ env, (assignEach [e2] env) = [(false, assign e2 env)] := by intro _; rfl) :
    DG G (.Tuple [e1, e2] n pos) (j1 ++ j2) δ (.tuple [d1, d2]) δ2 :=
  dg_of fun X hX => ⟨gTup G.m.K 2 (gCons (tmG X e1) (gCons (tmG X e2) gNil)), hX.K ▸ pg_tup hX.calm (pgs_cons ⟨fun pins s σ H v u Q I r h => h pins s u I r⟩ (pgs_cons ⟨fun pins s σ H v u Q I r h => h pins s u I r⟩ pgs_nil (by rw [hn2] <;> rfl)) (by rw [hn, hn2] <;> rfl)) (by rw [hn] <;> rfl) (by rw [hn] <;> rfl), fun F0 H0 F H σ v S r Q q => by
    cases r with
    | tup h3 h4 =>
      obtain ⟨v1, v2, e, r1, r2⟩ := rpa2 h4
      subst e
      refine ⟨_, _, rfl, sqt_mono S.sub h3, rfl, v1, [v2], rfl, h1 X hX F0 H0 F H σ v1 S r1 _ fun σ1 S1 w1 => ⟨v2, [], rfl, h2 X hX F0 H0 F H σ1 v2 S1 r2 _ fun σ2 S2 w2 => ⟨rfl, ?_⟩⟩⟩
      exact q σ2 S2 ((w1.mono fun j h => List.mem_append_left _ h).trans (w2.mono fun j h => List.mem_append_right _ h))⟩
theorem gT3 {n : Nat} (h1 : DG G e1 j1 δ d1 δ1) (h2 : DG G e2 j2 δ1 d2 δ2) (h3 : DG G e3 j3 δ2 d3 δ3) (hn : ∀ env, (assignEach [e1, e2, e3] env) = [(false, assign e1 env), (false, assign e2 env), (false, assign e3 env)] := by intro _; rfl)
    (hn2 : ∀ env, (assignEach [e2, e3] env) = [(false, assign e2 env), (false, assign e3 env)] := by intro _; rfl) (hn3 : ∀ env, (assignEach [e3] env) = [(false, assign e3 env)] := by intro _; rfl) :
    DG G (.Tuple [e1, e2, e3] n pos) (j1 ++ (j2 ++ j3)) δ (.tuple [d1, d2, d3]) δ3 :=
  dg_of fun X hX => ⟨gTup G.m.K 3 (gCons (tmG X e1) (gCons (tmG X e2) (gCons (tmG X e3) gNil))), hX.K ▸ pg_tup hX.calm (pgs_cons ⟨fun pins s σ H v u Q I r h => h pins s u I r⟩ (pgs_cons ⟨fun pins s σ H v u Q I r h => h pins s u I r⟩ (pgs_cons ⟨fun pins s σ H v u Q I r h => h pins s u I r⟩ pgs_nil (by rw [hn3] <;> rfl)) (by rw [hn2, hn3] <;> rfl)) (by rw [hn, hn2] <;> rfl)) (by rw [hn] <;> rfl) (by rw [hn] <;> rfl), fun F0 H0 F H σ v S r Q q => by
    cases r with
    | tup k3 k4 =>
      obtain ⟨v1, v2, v3, e, r1, r2, r3⟩ := rpa3 k4
      subst e
      refine ⟨_, _, rfl, sqt_mono S.sub k3, rfl, v1, [v2, v3], rfl, h1 X hX F0 H0 F H σ v1 S r1 _ fun σ1 S1 w1 => ⟨v2, [v3], rfl, h2 X hX F0 H0 F H σ1 v2 S1 r2 _ fun σ2 S2 w2 => ⟨v3, [], rfl, h3 X hX F0 H0 F H σ2 v3 S2 r3 _ fun σ3 S3 w3 => ⟨rfl, ?_⟩⟩⟩⟩
      exact q σ3 S3 ((w1.mono fun j h => List.mem_append_left _ h).trans ((w2.mono fun j h => List.mem_append_right _ (List.mem_append_left _ h)).trans (w3.mono fun j h => List.mem_append_right _ (List.mem_append_right _ h))))⟩
end

/-! ### what is walked -/
structure Walk (K : PySem.W.Frag) (J : It) (F1 : Hp) (ds : List PyData) : Prop where
  go : ∀ i F H, Same F1 F → Same F H → i < ds.length → J.go i H
  yld : ∀ i F H x H', Same F1 F → Same F H → J.yld i H x H' → i < ds.length → ∃ F' d, Grow F H F' H' ∧ ds[i]? = some d ∧ Rp K F' x d
  stop : ∀ i F H, Same F1 F → Same F H → ds.length ≤ i → J.stop i H
def IvP (K : PySem.W.Frag) (wi : TI) (δ : Sto) (ds : List PyData) : Prop := ∀ F0 H0 F H σ, Stt K F0 H0 F H σ δ → ∀ R : It → Hp → Prop, (∀ J F' H', Grow F H F' H' → Walk K J F' ds → R J H') → wi σ H R
def tmI (X : Cx) (tg iter : Expr) : TI := fun σ H R => ∀ pins s, Inv X pins σ H s → wpAny (model X.prog X.w) X.A (eval iter X.env) (fun v s1 => wpAny (model X.prog X.w) X.A (pyIter v) (PIE X pins σ tg R) X.xe s1) X.xe s
def gmI (G : Gm) (tg iter : Expr) : TI := fun σ H R => ∀ X, XOk G X → tmI X tg iter σ H R
theorem pi_g {G : Gm} {tg iter : Expr} {X : Cx} (hX : XOk G X) : PI X tg iter (gmI G tg iter) := ⟨fun pins s σ H R I h => h X hX pins s I⟩
def DI (G : Gm) (tg iter : Expr) (δ : Sto) (ds : List PyData) : Prop := ∀ X, XOk G X → IvP G.m.K (tmI X tg iter) δ ds
theorem gmi_of {G : Gm} {tg iter : Expr} {δ : Sto} {ds : List PyData} (h : DI G tg iter δ ds) : IvP G.m.K (gmI G tg iter) δ ds := fun F0 H0 F H σ S R q X hX => h X hX F0 H0 F H σ S R q
theorem di_of {G : Gm} {tg iter : Expr} {δ : Sto} {ds : List PyData} (h : ∀ X, XOk G X → ∃ wi, PI X tg iter wi ∧ IvP G.m.K wi δ ds) : DI G tg iter δ ds := fun X hX F0 H0 F H σ S R q pins s I => by
  obtain ⟨t, h1, h2⟩ := h X hX
  exact h1.run pins s σ H R I (h2 F0 H0 F H σ S R q)
section
variable {G : Gm} {tg e e2 : Expr} {δ : Sto} {ds es : List PyData} {p pos : Pos} {i j : Int}
theorem iT (h : DE G e δ (.tuple ds)) : DI G tg e δ ds := di_of fun X hX => ⟨iTup G.m.K (tmE X e), hX.K ▸ pi_tup pe_m, fun F0 H0 F H σ S R q => h X hX F0 H0 F H σ S _ fun v F1 H1 g r => by
  cases r with
  | tup h1 h2 =>
    refine ⟨_, rfl, ⟨_, sqt_mono g.sub h1⟩, q _ F1 H1 g ⟨fun i F H sF sH hi => ?_, fun i F H x H' sF sH hy hi => ?_, fun i F H sF sH hi => ?_⟩⟩
    · obtain ⟨v, e1, _⟩ := h2.get (List.getElem?_eq_getElem hi)
      exact ⟨_, v, sqt_mono sH (sqt_mono sF h1), e1⟩
    · obtain ⟨rfl, hy⟩ := hy
      have e1 := hy _ (sqt_mono sH (sqt_mono sF h1))
      obtain ⟨d, e2, r2⟩ := h2.getV e1
      exact ⟨F, d, Grow.refl sH, e2, r2.mono sF⟩
    · exact ⟨_, sqt_mono sH (sqt_mono sF h1), by rw [h2.length]; exact hi⟩⟩
theorem iL (h : DE G e δ (.list ds)) : DI G tg e δ ds := di_of fun X hX => ⟨iList G.m.K (tmE X e), hX.K ▸ pi_list pe_m, fun F0 H0 F H σ S R q => h X hX F0 H0 F H σ S _ fun v F1 H1 g r => by
  cases r with
  | lst h1 h2 =>
    refine ⟨_, rfl, ⟨_, SqL.of (g.sub _ _ h1)⟩, q _ F1 H1 g ⟨fun i F H sF sH hi => ?_, fun i F H x H' sF sH hy hi => ?_, fun i F H sF sH hi => ?_⟩⟩
    · obtain ⟨v, e1, _⟩ := h2.get (List.getElem?_eq_getElem hi)
      exact ⟨_, v, SqL.of (sH _ _ (sF _ _ h1)), e1⟩
    · obtain ⟨rfl, hy⟩ := hy
      have e1 := hy _ (SqL.of (sH _ _ (sF _ _ h1)))
      obtain ⟨d, e2, r2⟩ := h2.getV e1
      exact ⟨F, d, Grow.refl sH, e2, r2.mono sF⟩
    · exact ⟨_, SqL.of (sH _ _ (sF _ _ h1)), by rw [h2.length]; exact hi⟩⟩
def rgD (lo : Int) (n : Nat) : List PyData := (List.range n).map fun (k : Nat) => PyData.int (lo + (k : Int))
theorem rgD_len (lo : Int) (n : Nat) : (rgD lo n).length = n := by unfold rgD; rw [List.length_map, List.length_range]
theorem rgD_get {lo : Int} {n i : Nat} (h : i < n) : (rgD lo n)[i]? = some (.int (lo + (i : Int))) := by
  unfold rgD
  rw [List.getElem?_map, List.getElem?_range h]
  rfl
theorem walk_rg {K : PySem.W.Frag} {F1 : Hp} (lo : Int) (n : Nat) : Walk K (Itr lo n) F1 (rgD lo n) where
  go := fun i F H _ _ hi => by rw [rgD_len] at hi; exact hi
  yld := fun i F H x H' _ sH hy hi => by
    rw [rgD_len] at hi
    obtain ⟨rfl, rfl⟩ := hy
    exact ⟨F, _, Grow.refl sH, rgD_get hi, .int _⟩
  stop := fun i F H _ _ hi => by rw [rgD_len] at hi; exact hi
theorem iR1 (h : DC G e δ (.int j)) (hb : -1000000 ≤ j ∧ j ≤ 1000000) (hg : G.sc.names.lookup ("range" : Str) = some .globalImplicit := by rfl) (hs : ∀ env, starEach [e] env = [(false, eval e env)] := by intro _; rfl) : DI G tg (.Call (.Name "range" p) [e] [] pos) δ (rgD 0 j.toNat) :=
  di_of fun X hX => ⟨_, pi_range1 (by unfold Gl Env.kindOf; rw [hX.sc]; exact hg) (bi_glob (by decide) hX) (pa_cons pe_m pa_nil (hs X.env)) (hs X.env), fun F0 H0 F H σ S R q => h X hX F0 H0 F H σ S _ fun v F1 H1 g r =>
    ⟨j, by rw [r.inInt], by omega, by omega, q _ F1 H1 g (walk_rg 0 j.toNat)⟩⟩
theorem iR2 (h : DC G e δ (.int i)) (h2 : DC G e2 δ (.int j)) (hb : (-1000000 ≤ i ∧ i ≤ 1000000) ∧ -1000000 ≤ j ∧ j ≤ 1000000) (hg : G.sc.names.lookup ("range" : Str) = some .globalImplicit := by rfl) (hs : ∀ env, starEach [e, e2] env = [(false, eval e env), (false, eval e2 env)] := by intro _; rfl) (hs2 : ∀ env, starEach [e2] env = [(false, eval e2 env)] := by intro _; rfl) :
    DI G tg (.Call (.Name "range" p) [e, e2] [] pos) δ (rgD i (j - i).toNat) :=
  di_of fun X hX => ⟨_, pi_range2 (by unfold Gl Env.kindOf; rw [hX.sc]; exact hg) (bi_glob (by decide) hX) (pa_cons pe_m (pa_cons pe_m pa_nil (hs2 X.env)) (by rw [hs, hs2])) (hs X.env) (hs2 X.env), fun F0 H0 F H σ S R q => h X hX F0 H0 F H σ S _ fun v F1 H1 g r => h2 X hX F0 H0 F1 H1 σ (S.grow g) _ fun u F2 H2 g2 r2 =>
    ⟨i, j, by rw [r.inInt, r2.inInt], ⟨by omega, by omega, by omega, by omega⟩, q _ F2 H2 (g.trans g2) (walk_rg i (j - i).toNat)⟩⟩
/-- range(i, -1, -1): i, i - 1, .., 0 -/
def rdD (i : Int) : List PyData := (List.range (i + 1).toNat).map fun (k : Nat) => PyData.int (i - (k : Int))
theorem rdD_len (i : Int) : (rdD i).length = (i + 1).toNat := by unfold rdD; rw [List.length_map, List.length_range]
theorem iRd {e3 : Expr} (h : DC G e δ (.int i)) (h2 : DC G e2 δ (.int (-1))) (h3 : DC G e3 δ (.int (-1))) (hb : -1 ≤ i ∧ i ≤ 1000000) (hg : G.sc.names.lookup ("range" : Str) = some .globalImplicit := by rfl) (hs : ∀ env, starEach [e, e2, e3] env = (false, eval e env) :: starEach [e2, e3] env := by intro _; rfl)
    (hs2 : ∀ env, starEach [e2, e3] env = (false, eval e2 env) :: starEach [e3] env := by intro _; rfl) (hs3 : ∀ env, starEach [e3] env = [(false, eval e3 env)] := by intro _; rfl) : DI G tg (.Call (.Name "range" p) [e, e2, e3] [] pos) δ (rdD i) :=
  di_of fun X hX => ⟨_, pi_range3 (by unfold Gl Env.kindOf; rw [hX.sc]; exact hg) (bi_glob (by decide) hX) (pa_cons pe_m (pa_cons pe_m (pa_cons pe_m pa_nil (hs3 X.env)) (hs2 X.env)) (hs X.env)) (by first | exact hs X.env | (rw [hs, hs2, hs3])) (by first | (rw [hs2, hs3]; rfl) | rfl), fun F0 H0 F H σ S R q => h X hX F0 H0 F H σ S _ fun v F1 H1 g r => h2 X hX F0 H0 F1 H1 σ (S.grow g) _ fun u F2 H2 g2 r2 => h3 X hX F0 H0 F2 H2 σ (S.grow (g.trans g2)) _ fun w F3 H3 g3 r3 => by
    refine ⟨i, -1, -1, (i - -1).toNat, by rw [r.inInt, r2.inInt, r3.inInt], RgC.neg (by omega) (by omega) (by omega) (by omega), q _ F3 H3 ((g.trans g2).trans g3) ⟨fun k F H _ _ hk => ?_, fun k F H x H' _ sH hy hk => ?_, fun k F H _ _ hk => ?_⟩⟩
    · rw [rdD_len] at hk
      show k < (i - -1).toNat
      omega
    · obtain ⟨rfl, rfl⟩ := hy
      rw [rdD_len] at hk
      refine ⟨F, _, Grow.refl sH, ?_, .int _⟩
      unfold rdD
      rw [List.getElem?_map, List.getElem?_range hk]
      show some (PyData.int (i - (k : Int))) = some (PyData.int (i + (k : Int) * -1))
      rw [show i + (k : Int) * -1 = i - (k : Int) by omega]
    · rw [rdD_len] at hk
      show (i - -1).toNat ≤ k
      omega⟩
/-- zip of two lists, of two tuples -/
def zipD (ds es : List PyData) : List PyData := (ds.zip es).map fun q => .tuple [q.1, q.2]
theorem zipD_get {ds es : List PyData} {i : Nat} {d e : PyData} (h1 : ds[i]? = some d) (h2 : es[i]? = some e) : (zipD ds es)[i]? = some (.tuple [d, e]) := by
  unfold zipD
  rw [List.getElem?_map, (List.getElem?_zip_eq_some (z := (d, e))).mpr ⟨h1, h2⟩]
  rfl
theorem zipD_len : (zipD ds es).length = min ds.length es.length := by unfold zipD; rw [List.length_map, List.length_zip]
theorem walk_zipL {K : PySem.W.Frag} {F1 : Hp} {a b : Addr} {xs ys : List V} (h1 : F1 a = some (.lst xs)) (r1 : RpA K F1 xs ds) (h2 : F1 b = some (.lst ys)) (r2 : RpA K F1 ys es) : Walk K (Itz K a b) F1 (zipD ds es) where
  go := fun i F H sF sH hi => by
    rw [zipD_len] at hi
    obtain ⟨v, e1, _⟩ := r1.get (List.getElem?_eq_getElem (show i < ds.length by omega))
    obtain ⟨u, e2, _⟩ := r2.get (List.getElem?_eq_getElem (show i < es.length by omega))
    exact ⟨xs, ys, v, u, SqL.of (sH _ _ (sF _ _ h1)), SqL.of (sH _ _ (sF _ _ h2)), e1, e2⟩
  yld := fun i F H x H' sF sH hy hi => by
    obtain ⟨T, x1, x2, rfl, hT, rfl, y1, y2⟩ := hy
    obtain ⟨d1, e1, q1⟩ := r1.getV (y1 _ (SqL.of (sH _ _ (sF _ _ h1))))
    obtain ⟨d2, e2, q2⟩ := r2.getV (y2 _ (SqL.of (sH _ _ (sF _ _ h2))))
    have g := Grow.new (o := .tup [x1, x2]) sH hT
    exact ⟨_, _, g, zipD_get e1 e2, .tup (SqT.of upd_same) (.cons ((q1.mono sF).mono g.ff) (.cons ((q2.mono sF).mono g.ff) .nil))⟩
  stop := fun i F H sF sH hi => by
    rw [zipD_len] at hi
    refine ⟨xs, ys, SqL.of (sH _ _ (sF _ _ h1)), SqL.of (sH _ _ (sF _ _ h2)), ?_⟩
    rw [r1.length, r2.length]
    omega
theorem walk_zipT {K : PySem.W.Frag} {F1 : Hp} {a b : Addr} {xs ys : List V} (h1 : SqT K F1 a xs) (r1 : RpA K F1 xs ds) (h2 : SqT K F1 b ys) (r2 : RpA K F1 ys es) : Walk K (RZ.ItzT K a b) F1 (zipD ds es) where
  go := fun i F H sF sH hi => by
    rw [zipD_len] at hi
    obtain ⟨v, e1, _⟩ := r1.get (List.getElem?_eq_getElem (show i < ds.length by omega))
    obtain ⟨u, e2, _⟩ := r2.get (List.getElem?_eq_getElem (show i < es.length by omega))
    exact ⟨xs, ys, v, u, sqt_mono sH (sqt_mono sF h1), sqt_mono sH (sqt_mono sF h2), e1, e2⟩
  yld := fun i F H x H' sF sH hy hi => by
    obtain ⟨T, x1, x2, rfl, hT, rfl, y1, y2⟩ := hy
    obtain ⟨d1, e1, q1⟩ := r1.getV (y1 _ (sqt_mono sH (sqt_mono sF h1)))
    obtain ⟨d2, e2, q2⟩ := r2.getV (y2 _ (sqt_mono sH (sqt_mono sF h2)))
    have g := Grow.new (o := .tup [x1, x2]) sH hT
    exact ⟨_, _, g, zipD_get e1 e2, .tup (SqT.of upd_same) (.cons ((q1.mono sF).mono g.ff) (.cons ((q2.mono sF).mono g.ff) .nil))⟩
  stop := fun i F H sF sH hi => by
    rw [zipD_len] at hi
    refine ⟨xs, ys, sqt_mono sH (sqt_mono sF h1), sqt_mono sH (sqt_mono sF h2), ?_⟩
    rw [r1.length, r2.length]
    omega
theorem iZ {elts : List Expr} {kk : Nat} {tpos : Pos} {d d2 : PyData} (h : DE G e δ d) (h2 : DE G e2 δ d2) (hd : (d = .list ds ∧ d2 = .list es) ∨ (d = .tuple ds ∧ d2 = .tuple es)) (hg : G.sc.names.lookup ("zip" : Str) = some .globalImplicit := by rfl)
    (hs : ∀ env, starEach [e, e2] env = (false, eval e env) :: starEach [e2] env := by intro _; rfl) (hs2 : ∀ env, starEach [e2] env = [(false, eval e2 env)] := by intro _; rfl) :
    DI G (.Tuple elts kk tpos) (.Call (.Name "zip" p) [e, e2] [] pos) δ (zipD ds es) :=
  di_of fun X hX => ⟨RZ.iZipA G.m.K (tCons (tmE X e) (tCons (tmE X e2) tNil)), hX.K ▸ RZ.pi_zipA (by unfold Gl Env.kindOf; rw [hX.sc]; exact hg) (bi_glob (by decide) hX) (pa_cons pe_m (pa_cons pe_m pa_nil (hs2 X.env)) (hs X.env)) (hs X.env) (by rw [hs2]; rfl), fun F0 H0 F H σ S R q => h X hX F0 H0 F H σ S _ fun v F1 H1 g r => h2 X hX F0 H0 F1 H1 σ (S.grow g) _ fun u F2 H2 g2 r2 => by
    rcases hd with ⟨rfl, rfl⟩ | ⟨rfl, rfl⟩
    · have r' := r.mono g2.ff
      cases r' with
      | lst a1 a2 =>
        cases r2 with
        | lst b1 b2 => exact ⟨_, _, _, _, rfl, .inl ⟨SqL.of (g2.sub _ _ a1), SqL.of (g2.sub _ _ b1), q _ F2 H2 (g.trans g2) (walk_zipL a1 a2 b1 b2)⟩⟩
    · have r' := r.mono g2.ff
      cases r' with
      | tup a1 a2 =>
        cases r2 with
        | tup b1 b2 => exact ⟨_, _, _, _, rfl, .inr ⟨sqt_mono g2.sub a1, sqt_mono g2.sub b1, q _ F2 H2 (g.trans g2) (walk_zipT a1 a2 b1 b2)⟩⟩⟩
/-- enumerate of a list -/
def enumD (ds : List PyData) : List PyData := ds.zipIdx.map fun q => .tuple [.int (q.2 : Int), q.1]
theorem enumD_get {i : Nat} {d : PyData} (h : ds[i]? = some d) : (enumD ds)[i]? = some (.tuple [.int (i : Int), d]) := by
  unfold enumD
  rw [List.getElem?_map, List.getElem?_zipIdx, h]
  show some (PyData.tuple [.int ((0 + i : Nat) : Int), d]) = _
  rw [Nat.zero_add]
theorem enumD_len : (enumD ds).length = ds.length := by unfold enumD; rw [List.length_map, List.length_zipIdx]
theorem iE {elts : List Expr} {kk : Nat} {tpos : Pos} (h : DE G e δ (.list ds)) (hg : G.sc.names.lookup ("enumerate" : Str) = some .globalImplicit := by rfl) (hs : ∀ env, starEach [e] env = [(false, eval e env)] := by intro _; rfl) :
    DI G (.Tuple elts kk tpos) (.Call (.Name "enumerate" p) [e] [] pos) δ (enumD ds) :=
  di_of fun X hX => ⟨iEnum G.m.K (tCons (tmE X e) tNil), hX.K ▸ pi_enum (by unfold Gl Env.kindOf; rw [hX.sc]; exact hg) (bi_glob (by decide) hX) (pa_cons pe_m pa_nil (hs X.env)) (hs X.env), fun F0 H0 F H σ S R q => h X hX F0 H0 F H σ S _ fun v F1 H1 g r => by
    cases r with
    | lst h1 h2 =>
      refine ⟨_, _, rfl, SqL.of (g.sub _ _ h1), q _ F1 H1 g ⟨fun i F H sF sH hi => ?_, fun i F H x H' sF sH hy hi => ?_, fun i F H sF sH hi => ?_⟩⟩
      · rw [enumD_len] at hi
        obtain ⟨v, e1, _⟩ := h2.get (List.getElem?_eq_getElem hi)
        exact ⟨_, v, SqL.of (sH _ _ (sF _ _ h1)), e1⟩
      · obtain ⟨T, x1, rfl, hT, rfl, y1⟩ := hy
        obtain ⟨d1, e1, q1⟩ := h2.getV (y1 _ (SqL.of (sH _ _ (sF _ _ h1))))
        have g := Grow.new (o := .tup [.int (i : Nat), x1]) sH hT
        exact ⟨_, _, g, enumD_get e1, .tup (SqT.of upd_same) (.cons (.int _) (.cons ((q1.mono sF).mono g.ff) .nil))⟩
      · rw [enumD_len] at hi
        exact ⟨_, SqL.of (sH _ _ (sF _ _ h1)), by rw [h2.length]; exact hi⟩⟩
end
end DL
set_option Elab.async false
set_option linter.all false
set_option maxRecDepth 100000
set_option maxHeartbeats 2000000
namespace DL
open PySem PySem.Spec PyProof.Rows L2

/-! ### comprehensions -/
def Gm.blk (G : Gm) (scope : Scope) : Gm := { G with sc := relS scope G.sc, fn := fun x => scope.names.lookup x == some .cell }
theorem xok_blk {G : Gm} {X : Cx} (hX : XOk G X) (s : Shared) (H : Hp) (scope : Scope) (C : Addr) (cl : List (Str × Addr)) (fp : List Addr) : XOk (G.blk scope) (X.blk s H scope (compEnvC scope cl C X.env) fp) :=
  ⟨hX.prog, hX.w, hX.K, hX.mg, hX.base, hX.N, by show relS scope X.env.scope = relS scope G.sc; rw [hX.sc], rfl, hX.room, hX.calm, rfl, hX.nd⟩
def wipeD (δ : Sto) : List Nat → Sto
  | [] => δ
  | v :: vs => (wipeD δ vs).set v .un
theorem Stt.wipe {K : PySem.W.Frag} {F0 H0 F H : Hp} {σ : L2.St} {δ : Sto} (S : Stt K F0 H0 F H σ δ) : ∀ vs : List Nat, Stt K F0 H0 F H (L2.wipe σ vs) (wipeD δ vs)
  | [] => S
  | v :: vs => (S.wipe vs).unset v
/-- a clause's tests -/
def gmTs (G : Gm) (ifs : List Expr) : TT := fun σ H Q => ∀ X, XOk G X → ∀ pins s, Inv X pins σ H s → wpAny (model X.prog X.w) X.A (forIn ifs true fun c r => if r = true then do let ok ← isTrue c X.env (eval c X.env); pure (ForInStep.yield ok) else pure (ForInStep.yield r)) (TP X pins σ Q) X.xe s
theorem pts_g {G : Gm} {ifs : List Expr} {X : Cx} (hX : XOk G X) : PTs X ifs (gmTs G ifs) := ⟨fun pins s σ H Q I h => h X hX pins s I⟩
def DTs (G : Gm) (ifs : List Expr) (δ : Sto) (b : Bool) : Prop := EvT G.m.K (gmTs G ifs) δ b
section
variable {G : Gm} {c : Expr} {δ : Sto} {b : Bool}
theorem ts0 : DTs G [] δ true := fun F0 H0 F H σ S Q q X hX pins s I => pts_nil.run pins s σ H Q I (q F H (Grow.refl S.sub))
theorem ts1 (h : DT G c δ b) : DTs G [c] δ b := fun F0 H0 F H σ S Q q X hX pins s I => (pts_one (pt_g hX)).run pins s σ H Q I fun Y hY => h Y hY F0 H0 F H σ S Q q
end
/-- the reading of a comprehension on data -/
theorem evn_lc {α : Type} {K : PySem.W.Frag} {wi : TI} {g : TG} {tt : TT} {te : TE} {vs js : List Nat} {δ : Sto} {δ2 : α → Sto} {p : α → Bool} {f : α → PyData} {xs : List α} {enc : α → PyData}
    (hi : IvP K wi δ (xs.map enc)) (hg : ∀ a, a ∈ xs → GvP K g js (wipeD δ vs) (enc a) (δ2 a)) (hj : ∀ j ∈ js, j ∈ vs) (ht : ∀ a, a ∈ xs → EvT K tt (δ2 a) (p a)) (he : ∀ a, a ∈ xs → p a = true → EvP K te (δ2 a) (rE K (f a))) (hz : xs.length ≤ 100000) :
    EvP K (tLc wi g tt te vs) δ (rN K ((xs.filter p).map f)) := fun F0 H0 F H σ S Q q => hi F0 H0 F H σ S _ fun J F1 H1 g1 wk D hD => by
  have S1 := S.grow g1
  refine ⟨fun i m H' => m = xs.length - i ∧ i ≤ xs.length ∧ ∃ F' acc, Grow F1 H1 F' H' ∧ H' D = some (.lst acc) ∧ F' D = none ∧ acc.length ≤ i ∧ RpA K F' acc (((xs.take i).filter p).map f), ⟨xs.length, rfl, Nat.zero_le _, F1, [], Grow.newN S1.sub hD, upd_same, S1.sub.free hD, Nat.le_refl _, .nil⟩, ?_⟩
  rintro i m H' ⟨rfl, hi, F', acc, gr, hD', hFD, hl, ra⟩
  have lm : (xs.map enc).length = xs.length := List.length_map _
  by_cases hlt : i < xs.length
  · refine .inr ⟨wk.go i F' H' gr.ff gr.sub (by rw [lm]; exact hlt), fun H2 => ∃ F2 acc2, Grow F1 H1 F2 H2 ∧ H2 D = some (.lst acc2) ∧ F2 D = none ∧ acc2.length ≤ i + 1 ∧ RpA K F2 acc2 (((xs.take (i + 1)).filter p).map f), fun H2 h2 => ⟨xs.length - (i + 1), by omega, rfl, hlt, h2⟩, fun x H2 hy => ?_⟩
    obtain ⟨F2, d, g2, ed, rd⟩ := wk.yld i F' H' x H2 gr.ff gr.sub hy (by rw [lm]; exact hlt)
    have ea : xs[i]? = some xs[i] := List.getElem?_eq_getElem hlt
    rw [List.getElem?_map, ea] at ed
    have ed' : enc xs[i] = d := Option.some.inj ed
    subst ed'
    have hm : xs[i] ∈ xs := List.getElem_mem hlt
    have gA := gr.trans g2
    have S2 := (S1.grow gA).wipe vs
    have tk : xs.take (i + 1) = xs.take i ++ [xs[i]] := by rw [List.take_add_one, ea]; rfl
    have keep : ∀ {F3 H3 : Hp}, Grow F2 H2 F3 H3 → H3 D = some (.lst acc) ∧ F3 D = none ∧ RpA K F3 acc (((xs.take i).filter p).map f) := fun {F3 H3} g3 => by
      have gB := g2.trans g3
      refine ⟨gB.hh _ _ hD', ?_, ra.mono gB.ff⟩
      cases e : F3 D with
      | none => rfl
      | some o =>
        rcases gB.nw D o e with z | z
        · rw [hFD] at z; cases z
        · rw [hD'] at z; cases z
    refine hg _ hm F0 H0 F2 H2 (wipe σ vs) x S2 rd _ fun σ2 S3 w => ⟨(w.mono hj).wipe, ?_⟩
    refine ht _ hm F0 H0 F2 H2 σ2 S3 _ fun F3 H3 g3 => ?_
    cases hp : p xs[i] with
    | false =>
      obtain ⟨k1, k2, k3⟩ := keep g3
      refine ⟨F3, acc, gA.trans g3, k1, k2, by omega, ?_⟩
      rw [tk, List.filter_append, List.filter_cons_of_neg (by rw [hp]; exact Bool.false_ne_true), List.filter_nil, List.append_nil]
      exact k3
    | true =>
      refine he _ hm hp F0 H0 F3 H3 σ2 (S3.grow g3) _ fun v F4 H4 g4 r4 => ?_
      obtain ⟨k1, k2, k3⟩ := keep (g3.trans g4)
      refine ⟨acc, k1, by rw [sizeLine_eq]; omega, F4, acc ++ [v], ((gA.trans g3).trans g4).change hD k2, upd_same, k2, by rw [List.length_append]; simp only [List.length_singleton]; omega, ?_⟩
      rw [tk, List.filter_append, List.filter_cons_of_pos hp, List.filter_nil, List.map_append]
      exact k3.append (.cons r4 .nil)
  · have ei : i = xs.length := by omega
    subst ei
    refine .inl ⟨wk.stop _ F' H' gr.ff gr.sub (by rw [lm]; exact Nat.le_refl _), q _ F' H' (g1.trans gr) ⟨D, acc, rfl, g1.hh.free hD, hD', hFD, ?_⟩⟩
    rw [List.take_length] at ra
    exact ra
section
variable {G : Gm} {δ : Sto} {elt tg iter : Expr} {ifs : List Expr} {scope : Scope} {pos p2 spos : Pos} {P : Prop} {js : List Nat}
/-- what one writes for a comprehension -/
structure LcOk {α : Type} (G : Gm) (own : List (Str × Nat)) (js : List Nat) (scope : Scope) (elt tg iter : Expr) (ifs : List Expr) (δ : Sto) (xs : List α) (enc : α → PyData) (δ2 : α → Sto) (p : α → Bool) (f : α → PyData) : Prop where
  iter : DI G tg iter δ (xs.map enc)
  ok : blkC G.N G.sc scope own = true
  sub : ∀ j ∈ js, j ∈ own.map (·.2)
  tg : ∀ a, a ∈ xs → DG (G.blk scope) tg js (wipeD δ (own.map (·.2))) (enc a) (δ2 a)
  ts : ∀ a, a ∈ xs → DTs (G.blk scope) ifs (δ2 a) (p a)
  el : ∀ a, a ∈ xs → p a = true → DE (G.blk scope) elt (δ2 a) (f a)
  sz : xs.length ≤ 100000
variable {α : Type} {own : List (Str × Nat)} {xs : List α} {enc : α → PyData} {δ2 : α → Sto} {p : α → Bool} {f : α → PyData}
theorem LcOk.ev (L : LcOk G own js scope elt tg iter ifs δ xs enc δ2 p f) : EvP G.m.K (tLc (gmI G tg iter) (gmG (G.blk scope) tg) (gmTs (G.blk scope) ifs) (gmE (G.blk scope) elt) (own.map (·.2))) δ (rN G.m.K ((xs.filter p).map f)) :=
  evn_lc (gmi_of L.iter) (fun a h => gmg_of (L.tg a h)) L.sub (fun a h => L.ts a h) (fun a h hp => gm_of (L.el a h hp)) L.sz
theorem lc (L : LcOk G own js scope elt tg iter ifs δ xs enc δ2 p f) (hs : ∀ env x, foldedSetIterable iter env x = pure x := by intro _ _; rfl) : DN G (.ListComp elt [⟨tg, iter, ifs, 0⟩] scope pos) δ ((xs.filter p).map f) :=
  dp_of fun X hX => ⟨_, pe_lc (own := own) hX.calm hX.nd (pi_g hX) (by rw [hX.N, hX.sc]; exact blkOk_by L.ok) (fun s H C cl fp => pg_g (xok_blk hX s H scope C cl fp)) (fun s H C cl fp => pts_g (xok_blk hX s H scope C cl fp)) (fun s H C cl fp => pe_g (xok_blk hX s H scope C cl fp)) (hs X.env), L.ev⟩
end

/-! ### statements -/
structure Po where
  nx : Sto → Prop
  rt : Sto → PyData → Prop
  bk : Sto → Prop := fun _ => False
  ct : Sto → Prop := fun _ => False
  rn : List PyData → Prop := fun _ => False
structure Want (K : PySem.W.Frag) (F0 H0 F : Hp) (P : Po) (D : Ends) : Prop where
  nx : ∀ δ' F' H' σ', P.nx δ' → Same F F' → Stt K F0 H0 F' H' σ' δ' → D.nx σ' H'
  rt : ∀ δ' d v F' H' σ', P.rt δ' d → Same F F' → Stt K F0 H0 F' H' σ' δ' → Rp K F' v d → D.rt v H'
  bk : ∀ δ' F' H' σ', P.bk δ' → Same F F' → Stt K F0 H0 F' H' σ' δ' → D.bk σ' H'
  ct : ∀ δ' F' H' σ', P.ct δ' → Same F F' → Stt K F0 H0 F' H' σ' δ' → D.ct σ' H'
  rn : ∀ ds v F' H', P.rn ds → Grow F0 H0 F' H' → RpN K H0 F' H' v ds → D.rt v H'
theorem Want.later {K : PySem.W.Frag} {F0 H0 F F1 : Hp} {P : Po} {D : Ends} (w : Want K F0 H0 F P D) (s : Same F F1) : Want K F0 H0 F1 P D :=
  ⟨fun δ' F' H' σ' p s' S => w.nx δ' F' H' σ' p (s.trans s') S, fun δ' d v F' H' σ' p s' S r => w.rt δ' d v F' H' σ' p (s.trans s') S r, fun δ' F' H' σ' p s' S => w.bk δ' F' H' σ' p (s.trans s') S, fun δ' F' H' σ' p s' S => w.ct δ' F' H' σ' p (s.trans s') S, w.rn⟩
def SvP (K : PySem.W.Frag) (ts : TS) (δ : Sto) (P : Po) : Prop := ∀ F0 H0 F H σ, Stt K F0 H0 F H σ δ → ∀ D : Ends, Want K F0 H0 F P D → ts D σ H
def tmS (X : Cx) (st : Stmt) : TS := fun D σ H => ∀ pins s, Inv X pins σ H s → wpAny (model X.prog X.w) X.A (exec st X.env) (SP X pins D) X.xe s
def tmL (X : Cx) (st : List Stmt) : TS := fun D σ H => ∀ pins s, Inv X pins σ H s → wpAny (model X.prog X.w) X.A (execs st X.env) (SP X pins D) X.xe s
theorem ps_m {X : Cx} {st : Stmt} : PS X st (tmS X st) := ⟨fun pins s σ H D I h => h pins s I⟩
theorem pss_m {X : Cx} {st : List Stmt} : PSs X st (tmL X st) := ⟨fun pins s σ H D I h => h pins s I⟩
def DS1 (G : Gm) (st : Stmt) (δ : Sto) (P : Po) : Prop := ∀ X, XOk G X → SvP G.m.K (tmS X st) δ P
def DS (G : Gm) (sts : List Stmt) (δ : Sto) (P : Po) : Prop := ∀ X, XOk G X → SvP G.m.K (tmL X sts) δ P
theorem ds1_of {G : Gm} {st : Stmt} {δ : Sto} {P : Po} (h : ∀ X, XOk G X → ∃ t, PS X st t ∧ SvP G.m.K t δ P) : DS1 G st δ P := fun X hX F0 H0 F H σ S D w pins s I => by
  obtain ⟨t, h1, h2⟩ := h X hX
  exact h1.run pins s σ H D I (h2 F0 H0 F H σ S D w)
theorem ds_of {G : Gm} {st : List Stmt} {δ : Sto} {P : Po} (h : ∀ X, XOk G X → ∃ t, PSs X st t ∧ SvP G.m.K t δ P) : DS G st δ P := fun X hX F0 H0 F H σ S D w pins s I => by
  obtain ⟨t, h1, h2⟩ := h X hX
  exact h1.run pins s σ H D I (h2 F0 H0 F H σ S D w)
section
variable {G : Gm} {e c tg iter : Expr} {st : Stmt} {rest sa sb body : List Stmt} {δ δ' : Sto} {P : Po} {d : PyData} {ds : List PyData} {x : Str} {pos p : Pos} {k : Bool} {js : List Nat}
/-- behind a statement the rest -/
abbrev Po.then (P : Po) (G : Gm) (rest : List Stmt) : Po := { P with nx := fun δ' => DS G rest δ' P }
theorem s_cons (h : DS1 G st δ (P.then G rest)) : DS G (st :: rest) δ P := ds_of fun X hX => ⟨_, pss_cons ps_m pss_m, fun F0 H0 F H σ S D w => h X hX F0 H0 F H σ S _
  ⟨fun δ' F' H' σ' p s' S' => p X hX F0 H0 F' H' σ' S' D (w.later s'), w.rt, w.bk, w.ct, w.rn⟩⟩
theorem s_nil (h : P.nx δ) : DS G [] δ P := ds_of fun X hX => ⟨_, pss_nil, fun F0 H0 F H σ S D w => w.nx δ F H σ h (Same.refl F) S⟩
/-- the slot's own list is frozen from here on -/
theorem s_frz (i : Nat) (h : DS G rest (δ.set i (.va (.list ds))) P) (hi : δ[i]? = some (.ow ds) := by rfl) : DS G rest δ P := fun X hX F0 H0 F H σ S D w => by
  obtain ⟨F', ff, S'⟩ := S.frz hi
  exact h X hX F0 H0 _ H σ S' D (w.later ff)
/-- name = e -/
theorem s_set (i : Nat) (he : DE G e δ d) (k : DS G rest (δ.set i (.va d)) P) (hi : G.N[i]? = some x := by rfl) (hx : Loc G.sc x := by first | exact Or.inl rfl | exact Or.inr rfl) (hs : ∀ env, swapsWith e (some (.Name x p)) pos.line env = pure false := by intro _; rfl)
    (hf : G.fn x = true ∨ G.sc.names.lookup x = some .local := by first | exact .inl rfl | exact .inr rfl) : DS G (.Assign [.Name x p] e pos :: rest) δ P :=
  s_cons (ds1_of fun X hX => ⟨_, ps_set (i := i) hX.nd (by rw [hX.N]; exact hi) (by rw [hX.sc]; exact hx) pe_m (hs X.env) (by rw [hX.fn, hX.sc]; exact hf), fun F0 H0 F H σ S D w => he X hX F0 H0 F H σ S _ fun v F' H' g r =>
    w.nx _ F' H' _ k g.ff ((S.grow g).set i r)⟩)
theorem Stt.setNew {K : PySem.W.Frag} {F0 H0 F H F' H' : Hp} {σ : L2.St} {v : V} {ds : List PyData} (S : Stt K F0 H0 F H σ δ) (g : Grow F H F' H') (i : Nat) (r : RpN K H F' H' v ds) : Stt K F0 H0 F' H' (σ.set i (some v)) (δ.set i (.ow ds)) := by
  obtain ⟨p, xs, e, h1, h2, h3, r⟩ := r
  subst e
  refine (S.grow g).setN i h2 h3 (S.gr.hh.free h1) r (fun j es hj hc => ?_) fun j q o hj hc => ?_
  · obtain ⟨q, ys, a1, a2, _⟩ := S.ow j es hj
    rw [hc] at a1
    cases a1
    rw [h1] at a2
    cases a2
  · obtain ⟨a1, a2, _⟩ := S.ob j q o hj
    obtain ⟨x, hx⟩ := a2.some
    rw [hc, h1] at hx
    cases hx
/-- name = a new list, which may still change -/
theorem s_setN (i : Nat) (he : DN G e δ ds) (k : DS G rest (δ.set i (.ow ds)) P) (hi : G.N[i]? = some x := by rfl) (hx : Loc G.sc x := by first | exact Or.inl rfl | exact Or.inr rfl) (hs : ∀ env, swapsWith e (some (.Name x p)) pos.line env = pure false := by intro _; rfl)
    (hf : G.fn x = true ∨ G.sc.names.lookup x = some .local := by first | exact .inl rfl | exact .inr rfl) : DS G (.Assign [.Name x p] e pos :: rest) δ P :=
  s_cons (ds1_of fun X hX => ⟨_, ps_set (i := i) hX.nd (by rw [hX.N]; exact hi) (by rw [hX.sc]; exact hx) pe_m (hs X.env) (by rw [hX.fn, hX.sc]; exact hf), fun F0 H0 F H σ S D w => he X hX F0 H0 F H σ S _ fun v F' H' g r =>
    w.nx _ F' H' _ k g.ff (S.setNew g i r)⟩)
/-- name = [..] -/
theorem s_setLcN {α : Type} (i : Nat) {elt : Expr} {ifs : List Expr} {scope : Scope} {spos : Pos} {own : List (Str × Nat)} {xs : List α} {enc : α → PyData} {δ2 : α → Sto} {q : α → Bool} {f : α → PyData} (L : LcOk G own js scope elt tg iter ifs δ xs enc δ2 q f)
    (k : DS G rest (δ.set i (.ow ((xs.filter q).map f))) P) (hi : G.N[i]? = some x := by rfl) (hx : G.sc.names.lookup x = some .local := by rfl) (hk : G.sc.kind = .function := by rfl) (hl : (p.line == pos.line) = true := by rfl) (ha : (scope.names.any fun (n, k) => n == x && (k == .local || k == .cell)) = false := by decide +kernel)
    (hs : ∀ env x, foldedSetIterable iter env x = pure x := by intro _ _; rfl) : DS G (.Assign [.Name x p] (.ListComp elt [⟨tg, iter, ifs, 0⟩] scope pos) spos :: rest) δ P :=
  s_cons (ds1_of fun X hX => ⟨_, ps_setLc (i := i) (own := own) hX.calm hX.nd (by rw [hX.N]; exact hi) (by rw [hX.sc]; exact hx) (sw_true (by rw [hX.sc]; exact hk) (by rw [hX.sc]; exact hx) hl ha) (pi_g hX) (by rw [hX.N, hX.sc]; exact blkOk_by L.ok) (fun s H C cl fp => pg_g (xok_blk hX s H scope C cl fp)) (fun s H C cl fp => pts_g (xok_blk hX s H scope C cl fp)) (fun s H C cl fp => pe_g (xok_blk hX s H scope C cl fp)) (hs X.env),
    fun F0 H0 F H σ S D w => L.ev F0 H0 F H σ S _ fun v F' H' g r => w.nx _ F' H' _ k g.ff (S.setNew g i r)⟩)
theorem s_setLc {α : Type} (i : Nat) {elt : Expr} {ifs : List Expr} {scope : Scope} {spos : Pos} {own : List (Str × Nat)} {xs : List α} {enc : α → PyData} {δ2 : α → Sto} {q : α → Bool} {f : α → PyData} (L : LcOk G own js scope elt tg iter ifs δ xs enc δ2 q f)
    (k : DS G rest (δ.set i (.va (.list ((xs.filter q).map f)))) P) (hi : G.N[i]? = some x := by rfl) (hx : G.sc.names.lookup x = some .local := by rfl) (hk : G.sc.kind = .function := by rfl) (hl : (p.line == pos.line) = true := by rfl) (ha : (scope.names.any fun (n, k) => n == x && (k == .local || k == .cell)) = false := by decide +kernel)
    (hs : ∀ env x, foldedSetIterable iter env x = pure x := by intro _ _; rfl) : DS G (.Assign [.Name x p] (.ListComp elt [⟨tg, iter, ifs, 0⟩] scope pos) spos :: rest) δ P :=
  s_cons (ds1_of fun X hX => ⟨_, ps_setLc (i := i) (own := own) hX.calm hX.nd (by rw [hX.N]; exact hi) (by rw [hX.sc]; exact hx) (sw_true (by rw [hX.sc]; exact hk) (by rw [hX.sc]; exact hx) hl ha) (pi_g hX) (by rw [hX.N, hX.sc]; exact blkOk_by L.ok) (fun s H C cl fp => pg_g (xok_blk hX s H scope C cl fp)) (fun s H C cl fp => pts_g (xok_blk hX s H scope C cl fp)) (fun s H C cl fp => pe_g (xok_blk hX s H scope C cl fp)) (hs X.env),
    fun F0 H0 F H σ S D w => ev_ne L.ev F0 H0 F H σ S _ fun v F' H' g r => w.nx _ F' H' _ k g.ff ((S.grow g).set i r)⟩)
/-- target = e, the target a tuple of names -/
theorem s_tgt (he : DE G e δ d) (hg : DG G tg js δ d δ') (k : DS G rest δ' P) (hs : ∀ env, swapsWithSole [tg] e pos.line env = pure false := by intro _; rfl) (hw : ∀ env, swappedStores [tg] e env = pure none := by intro _; rfl) (h1 : ∀ env, (assignEach [tg] env).map (·.2) = [assign tg env] := by intro _; rfl) : DS G (.Assign [tg] e pos :: rest) δ P :=
  s_cons (ds1_of fun X hX => ⟨_, ps_asg pe_m (pg_g hX) (hs X.env) (hw X.env) (h1 X.env), fun F0 H0 F H σ S D w => he X hX F0 H0 F H σ S _ fun v F' H' g r =>
    gmg_of hg F0 H0 F' H' σ v (S.grow g) r _ fun σ' S' _ => w.nx _ F' H' σ' k g.ff S'⟩)
/-- return e -/
theorem s_ret (he : DE G e δ d) (q : P.rt δ d) : DS G (.Return (some e) pos :: rest) δ P :=
  s_cons (ds1_of fun X hX => ⟨_, ps_ret pe_m, fun F0 H0 F H σ S D w => he X hX F0 H0 F H σ S _ fun v F' H' g r => w.rt δ d v F' H' σ q g.ff (S.grow g) r⟩)
/-- return e, a new list that may still change -/
theorem s_retN (he : DN G e δ ds) (q : P.rn ds) : DS G (.Return (some e) pos :: rest) δ P :=
  s_cons (ds1_of fun X hX => ⟨_, ps_ret pe_m, fun F0 H0 F H σ S D w => he X hX F0 H0 F H σ S _ fun v F' H' g r => w.rn ds v F' H' q (S.gr.trans g) (RpN.back S.gr.hh r)⟩)
/-- if -/
theorem s_if (hc : DT G c δ k) (h1 : k = true → DS G sa δ (P.then G rest)) (h2 : k = false → DS G sb δ (P.then G rest)) : DS G (.If c sa sb pos :: rest) δ P :=
  s_cons (ds1_of fun X hX => ⟨_, ps_if pt_m pss_m pss_m, fun F0 H0 F H σ S D w => hc X hX F0 H0 F H σ S _ fun F' H' g => by
    cases k with
    | true => exact h1 rfl X hX F0 H0 F' H' σ (S.grow g) D (w.later g.ff)
    | false => exact h2 rfl X hX F0 H0 F' H' σ (S.grow g) D (w.later g.ff)⟩)
/-- an if without else that is not taken -/
theorem s_no (hc : DT G c δ k) (hk : k = false) (h : DS G rest δ P) : DS G (.If c sa [] pos :: rest) δ P := s_if hc (fun q => by rw [hk] at q; cases q) fun _ => s_nil h
/-- an if that is taken -/
theorem s_yes (hc : DT G c δ k) (hk : k = true) (h : DS G sa δ (P.then G rest)) : DS G (.If c sa sb pos :: rest) δ P := s_if hc (fun _ => h) fun q => by rw [hk] at q; cases q
/-- x.append(e) -/
theorem few1 (hs : ∀ env, starEach [e] env = [(false, eval e env)]) (pos : Pos) (env : Env) : ((backTo pos (starEach [e] env)).all (fun x => !x.1) && (backToKw pos (keywordEach [] env)).all (fun x => x.1.isSome)
      && decide (([e] : List Expr).length + ([] : List Keyword).length + (if ([] : List Keyword).isEmpty then 0 else 1) < 30)) = true := by
  rw [hs]
  rfl
theorem s_app (i : Nat) {mpos cpos p1 : Pos} (he : DE G e δ d) (k : DS G rest (δ.set i (.ow (ds ++ [d]))) P) (hz : ds.length ≤ 100000) (hi : δ[i]? = some (.ow ds) := by rfl) (hN : G.N[i]? = some x := by rfl) (hv : Vis G.sc x := by first | exact Or.inl rfl | exact Or.inr (Or.inl rfl) | exact Or.inr (Or.inr rfl)) (hl : (mpos.endLine == cpos.line) = true := by rfl)
    (hs : ∀ env, starEach [e] env = [(false, eval e env)] := by intro _; rfl) (hd : (x == ("__debug__" : Str)) = false := by decide) (hcd : (x == ("__classdict__" : Str)) = false := by decide) : DS G (.Expr (.Call (.Attribute (.Name x p1) "append" mpos) [e] [] cpos) pos :: rest) δ P :=
  s_cons (ds1_of fun X hX => ⟨tDrop (tBM G.m.K "list" rAppend (tVar i) (tCons (tmE X e) tNil)), ps_expr (hX.K ▸ pe_bm PySem.F.plainAttrs_list PySem.F.slot_list_append PySem.F.type_list_append mt_append (pe_var (i := i) (by rw [hX.N]; exact hN) (by rw [hX.sc]; exact hv) hd hcd) (pa_cons pe_m pa_nil (hs X.env)) rfl (few1 hs cpos X.env) hl (hs X.env) rfl) rfl, fun F0 H0 F H σ S D w => by
    obtain ⟨p, xs, e1, h1, h2, h3, r⟩ := S.ow i ds hi
    refine ⟨.ref p, e1, .inl ⟨rfl, xs, .inl (.inl h1)⟩, he X hX F0 H0 F H σ S _ fun v F' H' g rv => ?_⟩
    have S' := S.grow g
    obtain ⟨p', xs', e1', h1', h2', h3', r'⟩ := S'.ow i ds hi
    rw [e1] at e1'
    cases e1'
    refine ⟨p, xs', v, rfl, rfl, h1', by rw [r'.length, sizeLine_eq]; omega, ?_⟩
    exact w.nx _ F' _ _ k g.ff (S'.chg hi e1 h2' h3' (r'.append (.cons rv .nil)))⟩)
/-- for -/
theorem s_for {α : Type} {xs : List α} {enc : α → PyData} (hi : DI G tg iter δ (xs.map enc)) (I : Nat → Sto → Prop) (h0 : I 0 δ)
    (hb : ∀ i a δ', xs[i]? = some a → I i δ' → ∃ δ2, DG G tg js δ' (enc a) δ2 ∧ DS G body δ2 { nx := I (i + 1), ct := I (i + 1), bk := fun δ' => DS G rest δ' P, rt := P.rt })
    (hd : ∀ δ', I xs.length δ' → DS G rest δ' P) (hs : ∀ env x, foldedSetIterable iter env x = pure x := by intro _ _; rfl) : DS G (.For tg iter body [] pos :: rest) δ P :=
  s_cons (ds1_of fun X hX => ⟨_, ps_for (by rw [hX.xe]; exact PassesOwn.never) hX.calm (pi_g hX) (pg_g hX) pss_m (hs X.env), fun F0 H0 F H σ S D w => gmi_of hi F0 H0 F H σ S _ fun J F1 H1 g1 wk => by
    have lm : (xs.map enc).length = xs.length := List.length_map _
    refine ⟨fun i m σ' H' => m = xs.length - i ∧ i ≤ xs.length ∧ ∃ δ' F', I i δ' ∧ Same F1 F' ∧ Stt G.m.K F0 H0 F' H' σ' δ', ⟨xs.length, rfl, Nat.zero_le _, δ, F1, h0, Same.refl F1, S.grow g1⟩, ?_⟩
    rintro i m σ' H' ⟨rfl, hle, δ', F', hI, sF, S'⟩
    by_cases hlt : i < xs.length
    · refine .inr ⟨wk.go i F' H' sF S'.sub (by rw [lm]; exact hlt), fun σ2 H2 => ∃ δ2 F2, I (i + 1) δ2 ∧ Same F1 F2 ∧ Stt G.m.K F0 H0 F2 H2 σ2 δ2, fun σ2 H2 h => ⟨xs.length - (i + 1), by omega, rfl, hlt, h⟩, fun x H2 hy => ?_⟩
      obtain ⟨F2, d, g2, ed, rd⟩ := wk.yld i F' H' x H2 sF S'.sub hy (by rw [lm]; exact hlt)
      have ea : xs[i]? = some xs[i] := List.getElem?_eq_getElem hlt
      rw [List.getElem?_map, ea] at ed
      have ed' : enc xs[i] = d := Option.some.inj ed
      subst ed'
      obtain ⟨δ2, hg, hbo⟩ := hb i xs[i] δ' ea hI
      refine gmg_of hg F0 H0 F2 H2 σ' x (S'.grow g2) rd _ fun σ3 S3 _ => ?_
      have sF2 := sF.trans g2.ff
      exact hbo X hX F0 H0 F2 H2 σ3 S3 _ ⟨fun δ4 F4 H4 σ4 p s4 S4 => ⟨δ4, F4, p, sF2.trans s4, S4⟩, fun δ4 d v F4 H4 σ4 p s4 S4 r => w.rt δ4 d v F4 H4 σ4 p ((g1.ff.trans sF2).trans s4) S4 r, fun δ4 F4 H4 σ4 p s4 S4 => w.nx δ4 F4 H4 σ4 p ((g1.ff.trans sF2).trans s4) S4, fun δ4 F4 H4 σ4 p s4 S4 => ⟨δ4, F4, p, sF2.trans s4, S4⟩, fun _ _ _ _ p => p.elim⟩
    · have ei : i = xs.length := by omega
      subst ei
      exact .inl ⟨wk.stop _ F' H' sF S'.sub (by rw [lm]; exact Nat.le_refl _), w.nx δ' F' H' σ' (hd δ' hI) (g1.ff.trans sF) S'⟩⟩)
end
end DL
set_option Elab.async false
set_option linter.all false
set_option maxRecDepth 100000
set_option maxHeartbeats 2000000
namespace DL
open PySem PySem.Spec PyProof.Rows L2
def top (i : Nat) : Stmt := PySem.Challenge.pw_hintring_k72_whole_moves_behind_one_anot.main.body.getD i (.Pass ⟨0, 0, 0, 0⟩)
/-- the defs of the text, by their places -/
def DFL0 : List (Str × Nat) := [("is_number", 6), ("tupled", 7), ("set_of", 8), ("union", 9), ("minus", 10), ("meets", 11), ("lots_of", 13), ("by_count", 14), ("room", 15), ("check_places", 21), ("check_moment", 22), ("check_version", 23), ("writes", 24), ("lot_ahead", 26), ("past_in", 27), ("past", 28), ("ahead", 31), ("origins", 32), ("missed_by", 33), ("losing_lot", 34), ("can_lose", 35), ("find_heir", 36), ("heirs", 37), ("is_heirs", 38), ("past_behind_all", 42), ("first_without_room", 43), ("can_miss", 44), ("_law_box", 46), ("_law_take", 47), ("_law_cells", 48)]
def DFL1 : List (Str × Nat) := [("_law_of", 49), ("_law_pick", 50), ("_law_same", 51), ("_law_lots", 52), ("_law_counted", 53), ("_law_apart", 54), ("_law_room", 55), ("_law_is_write", 56), ("_law_writes", 57), ("_law_done", 58), ("_law_landing", 59), ("_law_played", 60), ("_law_read", 61), ("_law_past", 62), ("_law_misses", 63), ("_law_quiets", 64), ("_law_source", 65), ("_law_roots", 66), ("_law_all_heirs", 67), ("_law_page_of", 68), ("_law_next", 69), ("_law_together", 70), ("_law_leaf_of", 71), ("_law_misses_right", 72), ("_law_run_right", 73), ("_law_by_hand_right", 74), ("_law_right", 75), ("law", 76)]
def DFL : List (Str × Nat) := DFL0 ++ DFL1
def DefM (m : Md) (x : Str) (st : Stmt) : Prop := ∃ (f : Addr) (fd : FuncData), FunD m.K x x (defArgs st) (defBody st) (defScope st) [] [] f fd ∧ m.mg x = some (.ref f)
structure MdF (m : Md) : Prop where
  df : ∀ p ∈ DFL, DefM m p.1 (top p.2)

def startD (N : List Str) (ds : List PyData) : Sto := ds.map .va ++ List.replicate (N.length - ds.length) .un
/-- arguments: data, objects of one's own -/
def arD (as : List Sl) (n : Nat) : Sto := as ++ List.replicate (n - as.length) .un
/-- the heap without the arguments that are one's own -/
def ers (as : List Sl) (H : Hp) : Hp := fun a => if as.any (fun s => match s with | .ob p _ => p == a | _ => false) = true then none else H a
theorem ers_none {as : List Sl} {H : Hp} {p : Addr} {o : Obd} {i : Nat} (h : as[i]? = some (.ob p o)) : ers as H p = none := by
  unfold ers
  rw [if_pos]
  rw [List.any_eq_true]
  exact ⟨_, List.mem_of_getElem? h, by simp⟩
theorem ers_of {as : List Sl} {H : Hp} {a : Addr} (h : ∀ (i : Nat) o, as[i]? ≠ some (.ob a o)) : ers as H a = H a := by
  unfold ers
  rw [if_neg]
  intro z
  rw [List.any_eq_true] at z
  obtain ⟨s, hs, e⟩ := z
  obtain ⟨i, hi⟩ := List.getElem?_of_mem hs
  cases s with
  | ob p o =>
    have : p = a := by simpa using e
    subst this
    exact h i o hi
  | un => simp at e
  | va d => simp at e
  | ow ds => simp at e
theorem ers_sub {as : List Sl} {H : Hp} : Same (ers as H) H := fun b x h => by
  unfold ers at h
  split at h
  · cases h
  · exact h
theorem get_pad {α : Type} {as : List α} {n i : Nat} {u x : α} (h : (as ++ List.replicate n u)[i]? = some x) (hx : x ≠ u) : as[i]? = some x := by
  by_cases hi : i < as.length
  · rwa [List.getElem?_append_left hi] at h
  · rw [List.getElem?_append_right (by omega), List.getElem?_replicate] at h
    split at h
    · exact absurd (Option.some.inj h).symm hx
    · cases h
/-- more slots -/
theorem Stt.pad {K : PySem.W.Frag} {F0 H0 F H : Hp} {σ : L2.St} {δ : Sto} (S : Stt K F0 H0 F H σ δ) (n : Nat) : Stt K F0 H0 F H (σ ++ List.replicate n none) (δ ++ List.replicate n .un) := by
  have up : ∀ {i : Nat} {v : Option V}, σ[i]? = some v → (σ ++ List.replicate n none)[i]? = some v := fun {i v} h => by
    rw [List.getElem?_append_left (lt_of_get h)]
    exact h
  have dn : ∀ {i : Nat} {v : Option V} {sl : Sl}, δ[i]? = some sl → (σ ++ List.replicate n none)[i]? = some v → σ[i]? = some v := fun {i v sl} h0 h => by
    rwa [List.getElem?_append_left (by rw [S.len]; exact lt_of_get h0)] at h
  refine ⟨S.s0, S.gr, by rw [List.length_append, List.length_append, List.length_replicate, List.length_replicate, S.len], fun i d h => ?_, fun i ds h => ?_, fun i j ds es p hij h1 h2 h3 h4 => ?_, fun i p o h => ?_, fun i j p q o u hij h1 h2 => ?_, fun i j p o ds h1 h2 h3 => ?_⟩
  · obtain ⟨v, e, r⟩ := S.va i d (get_pad h (by intro z; cases z))
    exact ⟨v, up e, r⟩
  · obtain ⟨p, xs, e, r⟩ := S.ow i ds (get_pad h (by intro z; cases z))
    exact ⟨p, xs, up e, r⟩
  · have g1 := get_pad h1 (by intro z; cases z)
    have g2 := get_pad h2 (by intro z; cases z)
    exact S.ap i j ds es p hij g1 g2 (dn g1 h3) (dn g2 h4)
  · obtain ⟨e, r⟩ := S.ob i p o (get_pad h (by intro z; cases z))
    exact ⟨up e, r⟩
  · exact S.op i j p q o u hij (get_pad h1 (by intro z; cases z)) (get_pad h2 (by intro z; cases z))
  · have g1 := get_pad h1 (by intro z; cases z)
    have g2 := get_pad h2 (by intro z; cases z)
    exact S.oq i j p o ds g1 g2 (dn g2 h3)
theorem stt_args {K : PySem.W.Frag} {F H : Hp} {vs : List V} {ds : List PyData} (s : Same F H) (r : RpA K F vs ds) : Stt K F H F H (vs.map some) (ds.map .va) where
  s0 := s
  gr := Grow.refl s
  len := by rw [List.length_map, List.length_map, r.length]
  va := fun i d h => by
    rw [List.getElem?_map] at h
    obtain ⟨x, hx, e⟩ := Option.map_eq_some_iff.mp h
    cases e
    obtain ⟨v, e1, r1⟩ := r.get hx
    exact ⟨v, by rw [List.getElem?_map, e1]; rfl, r1⟩
  ow := fun i ds' h => by
    rw [List.getElem?_map] at h
    obtain ⟨x, hx, e⟩ := Option.map_eq_some_iff.mp h
    cases e
  ap := fun i j ds' es p hij h => by
    rw [List.getElem?_map] at h
    obtain ⟨x, hx, e⟩ := Option.map_eq_some_iff.mp h
    cases e
  ob := fun i p o h => by
    rw [List.getElem?_map] at h
    obtain ⟨x, hx, e⟩ := Option.map_eq_some_iff.mp h
    cases e
  op := fun i j p q o u hij h => by
    rw [List.getElem?_map] at h
    obtain ⟨x, hx, e⟩ := Option.map_eq_some_iff.mp h
    cases e
  oq := fun i j p o ds h => by
    rw [List.getElem?_map] at h
    obtain ⟨x, hx, e⟩ := Option.map_eq_some_iff.mp h
    cases e
theorem stt_start {K : PySem.W.Frag} {F H : Hp} {N : List Str} {vs : List V} {ds : List PyData} (s : Same F H) (r : RpA K F vs ds) : Stt K F H F H (L2.start N vs) (startD N ds) := by
  unfold L2.start startD
  rw [r.length]
  exact (stt_args s r).pad _
/-- what a def's body is to reach -/
abbrev Po.fn (d : PyData) : Po := { nx := fun _ => d = .none, rt := fun _ d' => d' = d }
theorem cal_of {m : Md} (M : MdF m) {x : Str} {i : Nat} (hx : (x, i) ∈ DFL) (N ps : List Str) (k n : Nat) (Rl : List PyData → PyData → Prop) (hs : C8.scC N ps (defScope (top i)) = true) (hn : ps.length = n)
    (hb : ∀ (kV doc pm : Value) (an : Option Addr) (cdv ct : Value) (us : List Value), us.length = ps.length → bindArgs (PySem.W.fnOf x x (defArgs (top i)) (defBody (top i)) (defScope (top i)) .none kV doc pm an cdv ct) ⟨us, []⟩ = pure (ps.zip us))
    (h : ∀ ds d, ds.length = n → Rl ds d → DS ⟨m, N, defScope (top i), fun _ => true, k⟩ (defBody (top i)) (startD N ds) (Po.fn d)) : Cal m (k + 1) x n Rl := by
  obtain ⟨f, fd, F, hm⟩ := M.df _ hx
  have S : FnScope N ps (defScope (top i)) := C8.fnScope_by hs
  refine ⟨f, fd, ps, FunD.ok (P := m.P) (w := m.w) (mg := m.mg) (base := m.base) (k := k) F S (fun vs H Q E q => ?_) (fun cdv A outer s H vs Q E hr q => ?_), hm, F.kp, F.bindsN hb⟩
  · obtain ⟨F1, ds, d, sF, r, hl, _⟩ := q
    rw [r.length, hl, hn]
  · obtain ⟨F1, ds, d, sF, r, hl, hR, q⟩ := q
    refine ⟨tmL (cxOf CX0 m.P m.w m.K m.mg m.base N x (defScope (top i)) f cdv A outer s H E).nox (defBody (top i)), PSs.nox pss_m, ?_⟩
    refine h ds d hl hR _ ⟨rfl, rfl, rfl, rfl, rfl, rfl, rfl, rfl, hr, rfl, rfl, S.nd⟩ F1 H F1 H (L2.start N vs) (stt_start sF r) _ ⟨fun δ' F' H' σ' p s' S' => ?_, fun δ' d' v F' H' σ' p s' S' r' => ?_, fun _ _ _ _ p => p.elim, fun _ _ _ _ p => p.elim, fun _ _ _ _ p => p.elim⟩
    · have e : d = .none := p
      subst e
      exact q .non F' H' S'.gr .non
    · have e : d' = d := p
      subst e
      exact q v F' H' S'.gr r'

/-! ### a def that gives a new list -/
def spN (K : PySem.W.Frag) (n : Nat) (R : List PyData → List PyData → Prop) : Sp := fun vs H Q _ => ∃ F ds d, Same F H ∧ RpA K F vs ds ∧ ds.length = n ∧ R ds d ∧ ∀ v F' H', Grow F H F' H' → RpN K H F' H' v d → Q v H'
structure CalN (m : Md) (k : Nat) (x : Str) (n : Nat) (R : List PyData → List PyData → Prop) : Prop where
  ex : ∃ (f : Addr) (fd : FuncData) (ps : List Str), FnOk m.P m.w m.K m.mg m.base CX0 k f fd ps (spN m.K n R) ∧ m.mg x = some (.ref f) ∧ PySem.W.keepIn m.K (.ref f) = true ∧ Binds m.K fd ps []
abbrev Po.fnN (d : List PyData) : Po := { nx := fun _ => False, rt := fun _ _ => False, rn := fun d' => d' = d }
theorem calN_of {m : Md} (M : MdF m) {x : Str} {i : Nat} (hx : (x, i) ∈ DFL) (N ps : List Str) (k n : Nat) (Rl : List PyData → List PyData → Prop) (hs : C8.scC N ps (defScope (top i)) = true) (hn : ps.length = n)
    (hb : ∀ (kV doc pm : Value) (an : Option Addr) (cdv ct : Value) (us : List Value), us.length = ps.length → bindArgs (PySem.W.fnOf x x (defArgs (top i)) (defBody (top i)) (defScope (top i)) .none kV doc pm an cdv ct) ⟨us, []⟩ = pure (ps.zip us))
    (h : ∀ ds d, ds.length = n → Rl ds d → DS ⟨m, N, defScope (top i), fun _ => true, k⟩ (defBody (top i)) (startD N ds) (Po.fnN d)) : CalN m (k + 1) x n Rl := by
  obtain ⟨f, fd, F, hm⟩ := M.df _ hx
  have S : FnScope N ps (defScope (top i)) := C8.fnScope_by hs
  refine ⟨f, fd, ps, FunD.ok (P := m.P) (w := m.w) (mg := m.mg) (base := m.base) (k := k) F S (fun vs H Q E q => ?_) (fun cdv A outer s H vs Q E hr q => ?_), hm, F.kp, F.bindsN hb⟩
  · obtain ⟨F1, ds, d, sF, r, hl, _⟩ := q
    rw [r.length, hl, hn]
  · obtain ⟨F1, ds, d, sF, r, hl, hR, q⟩ := q
    refine ⟨tmL (cxOf CX0 m.P m.w m.K m.mg m.base N x (defScope (top i)) f cdv A outer s H E).nox (defBody (top i)), PSs.nox pss_m, ?_⟩
    refine h ds d hl hR _ ⟨rfl, rfl, rfl, rfl, rfl, rfl, rfl, rfl, hr, rfl, rfl, S.nd⟩ F1 H F1 H (L2.start N vs) (stt_start sF r) _ ⟨fun _ _ _ _ p => p.elim, fun _ _ _ _ _ _ p => p.elim, fun _ _ _ _ p => p.elim, fun _ _ _ _ p => p.elim, fun d' v F' H' p g r' => ?_⟩
    have e : d' = d := p
    subst e
    exact q v F' H' g r'
section
variable {G : Gm} {e : Expr} {es : List Expr} {δ : Sto} {d : List PyData} {ds : List PyData} {pos p : Pos} {x : Str} {k n : Nat} {Rl : List PyData → List PyData → Prop}
theorem callN (c : CalN G.m k x n Rl) (ha : DA G (e :: es) δ ds) (hR : Rl ds d) (hk : k ≤ G.k := by exact Nat.le_of_ble_eq_true rfl) (hg : G.sc.names.lookup x = some .globalImplicit := by rfl) (hn : ds.length = n := by rfl) (hdb : (x == ("__debug__" : Str)) = false := by decide)
    (he : ∀ env, starEach (e :: es) env = (false, eval e env) :: starEach es env := by intro _; rfl) (hpl : ∀ env, (backTo pos (starEach es env)).any (·.1) = false := by intro _; rfl) : DN G (.Call (.Name x p) (e :: es) [] pos) δ d :=
  dp_of fun X hX => by
    obtain ⟨f, fd, ps, F, hm, kp, b⟩ := c.ex
    refine ⟨tCall (spN G.m.K n Rl) [] E0 (tmA X (e :: es)), pe_call (k := k) (f := f) (fd := fd) (ps := ps) ?_ (hX.room.mono hk) (by unfold Gl Env.kindOf; rw [hX.sc]; exact hg) (by rw [hX.mg]; exact hm) (by rw [hX.K]; exact kp) (by rw [hX.K]; exact b) .nil pass0 pa_m hdb (he X.env) (hpl X.env), ?_⟩
    · rw [hX.prog, hX.w, hX.K, hX.mg, hX.base]; exact F
    · intro F0 H0 F1 H1 σ S Q q
      refine ha X hX F0 H0 F1 H1 σ S _ fun vs F' H' g r => ?_
      rw [List.append_nil]
      exact ⟨F', ds, d, g.sub, r, hn, hR, fun v F2 H2 g2 r2 => q v F2 H2 (g.trans g2) (RpN.back g.hh r2)⟩
end
/-! ### defs that write at their arguments -/
abbrev RelO := List Sl → PyData → List Sl → Prop
/-- slots of arguments: data and objects of one's own alone -/
def ArOk (as : List Sl) : Prop := ∀ (i : Nat) s, as[i]? = some s → (∃ d, s = .va d) ∨ ∃ p o, s = .ob p o
/-- behind the call: at the same places the same objects -/
def ArAf (as as' : List Sl) : Prop := as'.length = as.length ∧ ∀ (i : Nat), (∃ p o o', as[i]? = some (.ob p o) ∧ as'[i]? = some (.ob p o')) ∨ ((∀ p o, as[i]? ≠ some (.ob p o)) ∧ (as'[i]? = some .un ∨ as'[i]? = none))
def spO (K : PySem.W.Frag) (n : Nat) (Pre : List Sl → Prop) (R : RelO) : Sp := fun vs H Q _ => ∃ F as, Stt K F (ers as H) F H (vs.map some) as ∧ as.length = n ∧ ArOk as ∧ Pre as ∧ ∀ v d as' F' H', ArAf as as' → R as d as' → Same F F' → Stt K F (ers as H) F' H' (vs.map some) as' → Rp K F' v d → Q v H'
structure CalO (m : Md) (k : Nat) (x : Str) (n : Nat) (Pre : List Sl → Prop) (R : RelO) : Prop where
  ex : ∃ (f : Addr) (fd : FuncData) (ps : List Str), FnOk m.P m.w m.K m.mg m.base CX0 k f fd ps (spO m.K n Pre R) ∧ m.mg x = some (.ref f) ∧ PySem.W.keepIn m.K (.ref f) = true ∧ Binds m.K fd ps []
/-- what stands at the places of the arguments behind the body -/
def outA (as : List Sl) (δ : Sto) (as' : List Sl) : Prop := ArAf as as' ∧ ∀ (i : Nat) p o, as'[i]? = some (.ob p o) → δ[i]? = some (.ob p o)
theorem Stt.out {K : PySem.W.Frag} {F H F' H' : Hp} {σ : L2.St} {δ : Sto} {as as' : List Sl} {vs : List V} (S0 : Stt K F (ers as H) F H (vs.map some) as) (S : Stt K F (ers as H) F' H' σ δ) (h : outA as δ as') : Stt K F (ers as H) F' H' (vs.map some) as' := by
  obtain ⟨⟨hl, ha⟩, ho⟩ := h
  have ob : ∀ (i : Nat) p o, as'[i]? = some (.ob p o) → (vs.map some)[i]? = some (some (.ref p)) ∧ δ[i]? = some (.ob p o) := fun i p o h => by
    refine ⟨?_, ho i p o h⟩
    rcases ha i with ⟨q, u, u', e1, e2⟩ | ⟨_, e | e⟩
    · rw [h] at e2
      cases e2
      exact (S0.ob i p u e1).1
    · rw [h] at e; cases e
    · rw [h] at e; cases e
  have no : ∀ (i : Nat) s, as'[i]? = some s → (∃ p o, s = .ob p o) ∨ s = .un := fun i s h => by
    rcases ha i with ⟨q, u, u', e1, e2⟩ | ⟨_, e | e⟩
    · rw [h] at e2
      exact .inl ⟨_, _, Option.some.inj e2⟩
    · rw [h] at e; exact .inr (Option.some.inj e)
    · rw [h] at e; cases e
  refine ⟨S.s0, S.gr, by rw [hl]; exact S0.len, fun i d h => ?_, fun i ds h => ?_, fun i j ds es p hij h1 h2 h3 h4 => ?_, fun i p o h => ?_, fun i j p q o u hij h1 h2 => ?_, fun i j p o ds h1 h2 h3 => ?_⟩
  · rcases no i _ h with ⟨p, o, e⟩ | e <;> cases e
  · rcases no i _ h with ⟨p, o, e⟩ | e <;> cases e
  · rcases no i _ h1 with ⟨p, o, e⟩ | e <;> cases e
  · obtain ⟨e1, e2⟩ := ob i p o h
    obtain ⟨_, a2, a3, a4⟩ := S.ob i p o e2
    exact ⟨e1, a2, a3, a4⟩
  · exact S.op i j p q o u hij (ob i p o h1).2 (ob j q u h2).2
  · rcases no j _ h2 with ⟨p, o, e⟩ | e <;> cases e
abbrev Po.fo (as : List Sl) (R : RelO) : Po := { nx := fun δ => ∃ as', outA as δ as' ∧ R as .none as', rt := fun δ d => ∃ as', outA as δ as' ∧ R as d as' }
theorem calO_of {m : Md} (M : MdF m) {x : Str} {i : Nat} (hx : (x, i) ∈ DFL) (N ps : List Str) (k n : Nat) (Pre : List Sl → Prop) (R : RelO) (hs : C8.scC N ps (defScope (top i)) = true) (hn : ps.length = n)
    (hb : ∀ (kV doc pm : Value) (an : Option Addr) (cdv ct : Value) (us : List Value), us.length = ps.length → bindArgs (PySem.W.fnOf x x (defArgs (top i)) (defBody (top i)) (defScope (top i)) .none kV doc pm an cdv ct) ⟨us, []⟩ = pure (ps.zip us))
    (h : ∀ as, as.length = n → Pre as → ArOk as → DS ⟨m, N, defScope (top i), fun _ => true, k⟩ (defBody (top i)) (arD as N.length) (Po.fo as R)) : CalO m (k + 1) x n Pre R := by
  obtain ⟨f, fd, F, hm⟩ := M.df _ hx
  have S : FnScope N ps (defScope (top i)) := C8.fnScope_by hs
  refine ⟨f, fd, ps, FunD.ok (P := m.P) (w := m.w) (mg := m.mg) (base := m.base) (k := k) F S (fun vs H Q E q => ?_) (fun cdv A outer s H vs Q E hr q => ?_), hm, F.kp, F.bindsN hb⟩
  · obtain ⟨F1, as, S1, hl, _⟩ := q
    have := S1.len
    rw [List.length_map] at this
    omega
  · obtain ⟨F1, as, S1, hl, ok, hP, q⟩ := q
    have e1 : L2.start N vs = vs.map some ++ List.replicate (N.length - as.length) none := by
      have := S1.len
      rw [List.length_map] at this
      unfold L2.start
      rw [this]
    refine ⟨tmL (cxOf CX0 m.P m.w m.K m.mg m.base N x (defScope (top i)) f cdv A outer s H E).nox (defBody (top i)), PSs.nox pss_m, ?_⟩
    refine h as hl hP ok _ ⟨rfl, rfl, rfl, rfl, rfl, rfl, rfl, rfl, hr, rfl, rfl, S.nd⟩ F1 (ers as H) F1 H (L2.start N vs) (by rw [e1]; exact S1.pad _) _ ⟨fun δ' F' H' σ' p s' S' => ?_, fun δ' d' v F' H' σ' p s' S' r' => ?_, fun _ _ _ _ p => p.elim, fun _ _ _ _ p => p.elim, fun _ _ _ _ p => p.elim⟩
    · obtain ⟨as', ho, hR⟩ := p
      exact q .non .none as' F' H' ho.1 hR s' (S1.out S' ho) .non
    · obtain ⟨as', ho, hR⟩ := p
      exact q v d' as' F' H' ho.1 hR s' (S1.out S' ho) r'
end DL
set_option Elab.async false
set_option linter.all false
set_option maxRecDepth 100000
set_option maxHeartbeats 4000000
namespace DZ
open PySem PySem.Spec PyProof.Rows L2

/-! ### set(list of ints) -/
section
variable {P : Program} {w : World} {A : Around} {E : Value → Shared → Prop} {s : Shared}
/-- what set() lays first -/
abbrev noneYet (w : World) : Obj := { cls := .type "set", dict := none, data := .set #[] 0 (.fresh 0 0 (!w.params.followText "set-order")) }
abbrev laidS (w : World) (s : Shared) : Shared := { s with heap := s.heap.push (noneYet w) }
/-- behind set.__init__: the set holds the ints, all else stands -/
def SetDone (w : World) (s : Shared) (ns : List Int) (r : Value) (s2 : Shared) : Prop :=
  r = .none ∧ ∃ h2 tk n, s2 = { s with heap := h2, toks := tk } ∧ SetR w h2 s.heap.objs.size (fun j => decide (j ∈ ns)) n ∧ n ≤ ns.length ∧ ∀ b o, s.heap.get? b = some o → h2.get? b = some o
/-- set(v), by what its __init__ does -/
theorem set_by {v : Value} {D : Shared → Prop} {Q : Value → Shared → Prop} (go : codeAny (model P w) A.in1 (.call (.builtin "set.__init__") ⟨[.ref s.heap.objs.size, v], []⟩) (wants (fun r s2 => r = .none ∧ D s2) E) (laidS w s))
    (q : ∀ s2, D s2 → Q (.ref s.heap.objs.size) s2) : wpAny (model P w) A (PySem.call (.type "set") [v]) Q E s := by
  obtain ⟨mroHead, mroTail, mro⟩ := F.called_set.mro
  have made := F.called_set.made
  have subs := F.called_set.sub
  have plainType := F.called_set.notType
  have creates := F.called_set.canCreate
  have typed := F.typeCall_set_1 v
  refine wpAny_call (codeAny_of_tree ?_)
  show wpAny _ _ (callAny (.type "set") _) _ _ _
  refine wpAny_pure ⟨Code.quiet_builtin _ (by decide +kernel), codeAny_builtin F.entry_type_call ?_⟩
  rw [Around.under_plain (weight_type_call_type "set" [v] []) rfl]
  repeat (any_goals (first | assumption | wp_step))
  refine codeAny_mono (code_set_led1 v (E := E) (Q₁ := fun o s1 => o = .ref s.heap.objs.size ∧ s1 = laidS w s) ⟨rfl, rfl⟩) fun r s1 got => ?_
  cases r with
  | error x => exact got
  | ok fl =>
    cases fl with
    | ret o =>
      obtain ⟨rfl, rfl⟩ := got
      have isSet : (laidS w s).TypeIs (.ref s.heap.objs.size) "set" := ⟨_, Heap.get?_push_size _ rfl, rfl⟩
      have ini := F.called_set.init.lookup
      have bnd := F.called_set.init.bind (.ref s.heap.objs.size)
      repeat (any_goals (first | assumption | wp_step))
      refine codeAny_mono go fun r2 s2 got2 => ?_
      cases r2 with
      | error x => exact got2
      | ok fl2 =>
        cases fl2 with
        | ret r =>
          obtain ⟨rfl, d⟩ := got2
          repeat (any_goals (first | assumption | wp_step))
          exact q s2 d
        | _ => exact False.elim got2
    | _ => exact False.elim got
/-- set.__init__ over a list of ints -/
theorem init_list {l : Addr} {its : Array Value} {ns : List Int} (hh : A.handled = none) (hl : s.heap.IsList l its) (hi : IntsAre its.toList ns) (hb : ns.length + 1 < scanBound) :
    codeAny (model P w) A (.call (.builtin "set.__init__") ⟨[.ref s.heap.objs.size, .ref l], []⟩) (wants (fun r s2 => r = .none ∧ ∃ h2 tk n, s2 = { s with heap := h2, toks := tk } ∧ SetR w h2 s.heap.objs.size (fun j => decide (j ∈ ns)) n ∧ n ≤ ns.length ∧ ∀ b o, s.heap.get? b = some o → h2.get? b = some o) E) (laidS w s) := by
  have size : its.size = ns.length := by
    have e := IntsAre.length hi
    rwa [Array.length_toList] at e
  have isSet : (laidS w s).TypeIs (.ref s.heap.objs.size) "set" := ⟨_, Heap.get?_push_size _ rfl, rfl⟩
  refine codeAny_call_builtin F.called_set.init.plain F.entry_set_init (check_set_init_1 isSet ?_)
  obtain ⟨ob, here, cls, cap, dat⟩ := hl
  obtain ⟨oc, od, odt, osl⟩ := ob
  simp only at cls dat
  subst cls dat
  have here1 : (laidS w s).heap.get? l = some ⟨.type "list", od, .seq its cap, osl⟩ := Heap.get?_push_of_some _ here
  have isList1 : (laidS w s).heap.IsList l its := ⟨_, here1, rfl, cap, rfl⟩
  have noSet := F.sub_list_set
  have noFrozen := F.sub_list_frozenset
  have noDict : (Value.type "list" == Value.type "dict") = false := by decide
  unfold Builtin.«set.__init__» noKeywords Builtin.Frozenset.updateFrom
  generalize gen : pyIter = IT
  wp_walk
  subst gen
  have old : l < s.heap.objs.size := Heap.lt_size here
  have calm3 : A.in1.in1.handled = none := by simp [hh]
  have apart : l ≠ (laidS w s).heap.objs.size := fun z => by
    rw [Heap.size_push] at z
    exact absurd z (Nat.ne_of_lt (Nat.lt_succ_of_lt old))
  have free : s.heap.objs.size ∉ [(laidS w s).heap.objs.size, l] := by
    rw [Heap.size_push]
    intro z
    rcases List.mem_cons.mp z with z | z
    · exact absurd z (Nat.ne_of_lt (Nat.lt_succ_self _))
    · exact absurd (List.mem_singleton.mp z).symm (Nat.ne_of_lt old)
  have vals : ∀ (i : Nat) (v : Value), its[i]? = some v → ∃ k t, ns[i]? = some k ∧ v = .int k t := fun i v e => by
    have hi2 : i < ns.length := by
      rw [← size]
      exact (Array.getElem?_eq_some_iff.mp e).1
    obtain ⟨t, q⟩ := IntsAre.int_at hi i v (by rw [Array.getElem?_toList]; exact e)
    refine ⟨ns[i], t, List.getElem?_eq_getElem hi2, ?_⟩
    rw [q, List.getD_eq_getElem?_getD, List.getElem?_eq_getElem hi2]
    rfl
  refine wpAny_pyIter_list isList1 (wpAny_bind (wpAny_runValue ?_))
  refine set_update_ints ((Walks.list calm3 _ l apart its).toS) s.heap.objs.size free ns size hb vals (its.size - 0) 0 _ rfl (Nat.zero_le _) ?_ ?_ ?_
  · exact ⟨⟨_, Heap.get?_push_size _ rfl, rfl, rfl⟩, Heap.IsList.push isList1 _⟩
  · exact ⟨0, Nat.le_refl 0, setR_new_at (Heap.get?_push_of_some _ (Heap.get?_push_size _ rfl))⟩
  · rintro ⟨h2, g2, d2, tk2, os2⟩ c mv le sr
    have e1 : g2 = s.gens := mv.gens
    have e2 : d2 = s.drawn := mv.drawn
    have e3 : os2 = s.os := mv.os
    subst e1 e2 e3
    rw [size] at le
    refine wpAny_pure (wpAny_pure ⟨rfl, h2, tk2, c, rfl, sr, le, fun b o e => ?_⟩)
    have lt : b < s.heap.objs.size := Heap.lt_size e
    refine mv.heap b o ?_ (Heap.get?_push_of_some _ (Heap.get?_push_of_some _ e))
    rw [Heap.size_push]
    intro z
    rcases List.mem_cons.mp z with z | z
    · exact absurd z (Nat.ne_of_lt lt)
    · exact absurd (List.mem_singleton.mp z) (Nat.ne_of_lt (Nat.lt_succ_of_lt lt))
end
end DZ
set_option Elab.async false
set_option linter.all false
set_option maxRecDepth 100000
set_option maxHeartbeats 4000000
namespace DZ
open PySem PySem.Spec PyProof.Rows L2 DL
section
variable {X : Cx} {pn : List (Addr × Obj)} {σ : L2.St} {H : Hp} {s : Shared}
/-- set(list), set(tuple), of ints -/
def rSetI (K : PySem.W.Frag) (w : World) : List V → Hp → VK → Prop := fun vs H Q => ∃ (a : Addr) (ns : List Int), vs = [V.ref a] ∧ (SqL K H a (ns.map V.int) ∨ SqT K H a (ns.map V.int)) ∧ ns.length ≤ 1000 ∧
  ∀ (p : Addr) (n : Nat), H p = none → n ≤ ns.length → Q (.ref p) (upd H p (SetO w p (fun j => decide (j ∈ ns)) n))
theorem sb_small {ns : List Int} (h : ns.length ≤ 1000) : ns.length + 1 < scanBound := by unfold scanBound; omega
theorem cr_setI (hc : X.calm = true) : CallR X (.type "set") (rSetI X.K X.w) := by
  intro pn s σ H vs us Q I r h
  obtain ⟨a, ns, rfl, hs, hz, q⟩ := h
  rw [Vals.ref1 r]
  have hd := I.ok.hd hc
  have fin : ∀ (h2 : Heap) (tk n : Nat), SetR X.w h2 s.heap.objs.size (fun j => decide (j ∈ ns)) n → n ≤ ns.length → (∀ b o, s.heap.get? b = some o → h2.get? b = some o) → EP X pn σ Q (.ref s.heap.objs.size) { s with heap := h2, toks := tk } := fun h2 tk n R le k =>
    ⟨.ref _, _, I.laid (t' := tk) k (Nat.le_refl _) (setO_new R), rfl, q _ n (I.hok.fresh (Nat.le_refl _)) le⟩
  rcases hs with hs | hs
  · obtain ⟨its, rv, hl, _⟩ := I.list hs
    have hi : IntsAre its.toArray.toList ns := ints_of_vals rv
    refine set_by (D := fun s2 => ∃ h2 tk n, s2 = { s with heap := h2, toks := tk } ∧ SetR X.w h2 s.heap.objs.size (fun j => decide (j ∈ ns)) n ∧ n ≤ ns.length ∧ ∀ b o, s.heap.get? b = some o → h2.get? b = some o) ?_ fun s2 d => ?_
    · exact init_list (A := X.A.in1) (by simp [hd]) hl.isList hi (sb_small hz)
    · obtain ⟨h2, tk, n, rfl, R, le, k⟩ := d
      exact fin h2 tk n R le k
  · obtain ⟨its, rv, hl, _⟩ := I.tuple hs
    have hi : IntsAre its.toArray.toList ns := ints_of_vals rv
    exact call_set_tupI ns hd (show s.heap.IsTuple a its.toArray from hl) hi (sb_small hz) fun h2 tk n R le k => fin h2 tk n R le k
/-- a member more -/
theorem add_int {E : Value → Shared → Prop} {D : Addr} {S : Int → Bool} {n : Nat} {y : Int} {tk : Tok} {Q : Value → Shared → Prop} (I : Inv X pn σ H s) (at_ : H D = some (SetO X.w D S n)) (few : n + 1 < scanBound)
    (h : ∀ s', Inv X pn σ (upd H D (SetO X.w D (fun j => S j || decide (j = y)) (if S y = true then n else n + 1))) s' → Q .none s') : wpAny (model X.prog X.w) X.A (PySem.call (.builtin "set.add") [.ref D, .int y tk]) Q E s := by
  refine setR_add (setO_get I at_) few fun g keep R => h _ ?_
  obtain ⟨o, _, _, _, there, _⟩ := id R
  refine I.write (e := D) (t' := s.toks + 1) ?_ (.inl rfl) (fun b u hb hu => (keep.2 b hb).trans hu) ⟨o, there⟩ (setO_new R)
  rw [at_]
  trivial
end
/-- {elt for tg in iter}, elt an int -/
def tSi (w : World) (wi : TI) (g : TG) (te : TE) (vs : List Nat) : TE := fun σ H Q => wi σ H fun J H1 => ∀ D, H1 D = none → ∃ W : Nat → Nat → Hp → Prop, (∃ m, W 0 m (upd H1 D (SetO w D (fun _ => false) 0))) ∧ ∀ i m H, W i m H →
  (J.stop i H ∧ Q (.ref D) H) ∨ (J.go i H ∧ ∃ Nx : Hp → Prop, (∀ H', Nx H' → ∃ m', m' < m ∧ W (i + 1) m' H') ∧ ∀ x H', J.yld i H x H' → g x (wipe σ vs) H' fun σ2 H2 => wipe σ2 vs = wipe σ vs ∧
    te σ2 H2 fun y H4 => ∃ (c : Int) (S : Int → Bool) (n : Nat), y = .int c ∧ H4 D = some (SetO w D S n) ∧ n + 1 < scanBound ∧ Nx (upd H4 D (SetO w D (fun j => S j || decide (j = c)) (if S c = true then n else n + 1))))
theorem pe_si {X : Cx} {elt tg iter : Expr} {scope : Scope} {ow : List (PySem.Str × Nat)} {pos : Pos} {wi : TI} {g : TG} {te : TE} (calm : X.calm = true) (nd : X.N.Nodup) (hi : PI X tg iter wi) (ok : BlkOk X.N X.env.scope scope ow)
    (hg : ∀ (s : Shared) (H : Hp) (C : Addr) (cl : List (PySem.Str × Addr)) (fp : List Addr), PG (X.blk s H scope (compEnvC scope cl C X.env) fp) tg g)
    (he : ∀ (s : Shared) (H : Hp) (C : Addr) (cl : List (PySem.Str × Addr)) (fp : List Addr), PE (X.blk s H scope (compEnvC scope cl C X.env) fp) elt te) (hs : ∀ x, foldedSetIterable iter X.env x = pure x := by intro _; rfl) :
    PE X (.SetComp elt [⟨tg, iter, [], 0⟩] scope pos) (tSi X.w wi g te (ow.map (·.2))) := by
  refine ⟨fun pn s σ H Q I want => ?_⟩
  rw [PpSet.eval_SetComp]
  have cellsIn : ∀ y ∈ scope.names, y.2 = .free → ∃ c, X.env.cells.lookup y.1 = some c := fun y hy e => by
    rcases ok.free y hy e with k | k
    · exact I.ok.has _ (.inl k)
    · exact I.ok.has _ (.inr k)
  refine wpAny_comprehension_free (use := Option.none) rfl hs (closure_ok cellsIn) ok.kind (fun y hy e => by rw [ok.uniq y hy, e]) (thn (hi.run pn s σ H _ I want) fun xv s1 hx => thn hx fun itv t got => ?_)
  obtain ⟨it, fp, tn, J, G, e, It, T, stT, frT, loopW⟩ := got
  subst e
  refine PpSet.newSet_ok (newEnv_comp ?_)
  generalize eD : t.heap.objs.size = D
  have newD : G D = none := It.hok.fresh (Nat.le_of_eq eD)
  obtain ⟨W, ⟨m0, w0⟩, turn⟩ := loopW D newD
  generalize eu : ({ t with heap := t.heap.push (noneYet X.w) } : Shared) = u
  have Iu : Inv X pn σ (upd G D (SetO X.w D (fun _ => false) 0)) u := by
    rw [← eu]
    refine It.laid (t' := t.toks) (fun b o q => Heap.get?_push_of_some _ q) (Nat.le_of_eq eD) ?_
    rw [← eD]
    exact setO_new (setR_fresh X.w)
  have uh : u.heap = t.heap.push (noneYet X.w) := by rw [← eu]
  have below : ∀ b ∈ fp, b < t.heap.objs.size := fun b hb => let ⟨o, q, _⟩ := T.obj _ _ stT b hb; Heap.lt_size q
  have frU : ∀ b ∈ fp, FpOk X pn (upd G D (SetO X.w D (fun _ => false) 0)) b ∧ b < u.heap.objs.size := fun b hb => by
    have lt := below b hb
    refine ⟨⟨?_, (frT b hb).2⟩, ?_⟩
    · rw [upd_ne (by rw [← eD]; exact Nat.ne_of_lt lt)]
      exact (frT b hb).1
    · rw [uh, Heap.size_push]
      exact Nat.lt_succ_of_lt lt
  have stU : tn 0 u.heap := T.keep _ _ _ stT fun b _ o q => by
    rw [uh]
    exact Heap.get?_push_of_some _ q
  have Iv := block_start Iu ok nd frU
  have tgRun := hg u (upd G D (SetO X.w D (fun _ => false) 0)) u.heap.objs.size (cellsFrom (u.heap.objs.size + 1) scope.names (cloFrom X.env.cells scope.names [])) fp
  have elRun := he u (upd G D (SetO X.w D (fun _ => false) 0)) u.heap.objs.size (cellsFrom (u.heap.objs.size + 1) scope.names (cloFrom X.env.cells scope.names [])) fp
  show codeAny _ _ (.compStart (.SetComp elt [⟨tg, iter, [], 0⟩] scope pos) 0 (.ref it) (.ref D) (compEnvC scope (cellsFrom (u.heap.objs.size + 1) scope.names (cloFrom X.env.cells scope.names [])) u.heap.objs.size X.env)) (compPost (model X.prog X.w) X.A X.xe Option.none (EP X pn σ Q) (.ref D) u.heap.objs.size)
    { u with heap := pushCells (u.heap.push { cls := .type "dict", data := .dict #[] }) scope.names }
  have unkept : ∀ b ∈ fp, (upd G D (SetO X.w D (fun _ => false) 0)) b = none := fun b hb => (frU b hb).1.1
  generalize ec : compEnvC scope (cellsFrom (u.heap.objs.size + 1) scope.names (cloFrom X.env.cells scope.names [])) u.heap.objs.size X.env = inner at Iv tgRun elRun ⊢
  have innerL : inner.locals = u.heap.objs.size := by
    subst ec
    rfl
  generalize eG : upd G D (SetO X.w D (fun _ => false) 0) = G3 at Iu Iv tgRun elRun w0 unkept frU
  generalize ev : ({ u with heap := pushCells (u.heap.push { cls := .type "dict", data := .dict #[] }) scope.names } : Shared) = v at Iv ⊢
  have stV : tn 0 v.heap := T.keep _ _ _ stU fun b _ o q => by
    rw [← ev]
    exact pushCells_keeps _ _ _ _ (Heap.get?_push_of_some _ q)
  have frOf : ∀ {σ' : L2.St} {H' : Hp} {s' : Shared}, Inv (X.blk u G3 scope inner fp) [] σ' H' s' → (∀ b ∈ fp, H' b = none) → ∀ b ∈ fp, FpOk (X.blk u G3 scope inner fp) [] H' b := fun {σ' H' s'} I' none b hb =>
    ⟨none b hb, (I'.ok.exf b hb).1, I'.ok.exfs b hb, .inl hb, fun x c q => (I'.ok.exf b hb).2 x c q, fun p hp => nomatch (show p ∈ ([] : List (Addr × Obj)) from by simpa using hp)⟩
  have whole : codeAny (model X.prog X.w) X.A (.compLoop (.SetComp elt [⟨tg, iter, [], 0⟩] scope pos) 0 (.ref it) (.ref D) inner) (compPost (model X.prog X.w) X.A X.xe Option.none (EP X pn σ Q) (.ref D) u.heap.objs.size) v := by
    refine PpSet.compLoopS_any (fun n s' => ∃ i H', Inv (X.blk u G3 scope inner fp) [] (wipe σ (ow.map (·.2))) H' s' ∧ tn i s'.heap ∧ (∀ b ∈ fp, H' b = none) ∧ W i n H') ?_ m0 ⟨0, G3, Iv, stV, unkept, w0⟩
    rintro n s5 ⟨i, H5, I5, st5, none5, w5⟩
    rcases turn i n H5 w5 with ⟨stop, done⟩ | ⟨go, Nx, again, step⟩
    · refine thnF (T.done (X.blk u G3 scope inner fp) rfl rfl rfl calm i [] s5 _ H5 (fun _ _ => False) I5 (frOf I5 none5) st5 stop) fun r s6 ⟨er, I6⟩ => ?_
      subst er
      have back : Inv X pn σ H5 s6 := Iu.call' (ch := fp) I6.os I6.base I6.hok I6.bare fun b hb => ⟨(frU b hb).1.2.2.2.1, (frU b hb).1.2.1, (frU b hb).1.2.2.2.2.1, (frU b hb).1.2.2.2.2.2⟩
      have freeC : H5 u.heap.objs.size = none := by
        have z : H5 inner.locals = none := I6.free
        rwa [innerL] at z
      obtain ⟨m, ns, _⟩ := I6.loc
      have ns : s6.heap.Ns inner.locals m := ns
      rw [innerL] at ns
      refine ⟨m, ns, fun h2 keep => ?_⟩
      obtain ⟨f0, f1, f2, f3, f4, f5⟩ := Iu.fpOk (Nat.le_refl _) freeC
      exact ⟨.ref D, H5, back.turned (t' := s6.toks) (fun b o hb q => (keep.2 b hb).trans q) f0 f1 f3 f4 f5, rfl, done⟩
    · refine thnF (T.item (X.blk u G3 scope inner fp) rfl rfl rfl calm i [] s5 _ H5 (fun _ _ => False) I5 (frOf I5 none5) st5 go) fun r s6 ⟨y, er, h6⟩ => ?_
      subst er
      refine thnF h6 fun _ s7 ⟨x, H7, I7, r7, y7, st7, none7⟩ => ?_
      refine thnF (tgRun.run _ s7 _ H7 x y _ (I7.pinned (frOf I7 none7) (T.obj _ _ st7)) r7 (step x H7 y7)) fun _ s8 ⟨σ8, H8, I8, wiped, q8⟩ => ?_
      rw [List.forIn_nil]
      refine wpAny_pure ?_
      simp only [if_true]
      refine thnF (elRun.run _ s8 σ8 H8 _ I8 q8) fun z s10 ⟨yv, H10, I10, r10, c, S, n0, ey, hD10, few, nx⟩ => ?_
      subst ey
      obtain ⟨tk, rfl⟩ := (show ∃ t, z = Value.int c t from r10)
      refine add_int (X := X.blk u G3 scope inner fp) I10 hD10 few fun s11 I11 => ?_
      obtain ⟨m', less, w'⟩ := again _ nx
      have still : ∀ b ∈ fp, ∀ o, s7.heap.get? b = some o → s11.heap.get? b = some o ∧ _ := fun b hb o q => I11.pin (b, o) (List.mem_append_right _ (List.mem_append_right _ (mem_pinsAt hb q)))
      have sameLen : (wipe σ (ow.map (·.2))).length = σ8.length := by rw [← wiped, wipe_length]
      refine ⟨m', less, i + 1, _, (I11.unpinned (pins := [])).weak sameLen (fun j v q => ?_), T.keep _ _ _ st7 fun b hb o q => (still b hb o q).1, fun b hb => ?_, w'⟩
      · rw [← wiped] at q
        exact (wipe_some q).1
      · obtain ⟨o, q, _⟩ := T.obj _ _ st7 b hb
        exact (still b hb o q).2.1
  exact PpSet.codeAny_compStart_set whole (T.self X.A 0 _ _ _ stV whole)
end DZ
set_option Elab.async false
set_option linter.all false
set_option maxRecDepth 100000
set_option maxHeartbeats 4000000
namespace DZ
open PySem PySem.Spec PyProof.Rows L2 DL PySem.W PySem.SeqAt
/-! ### sorting tuples, the first one empty or not -/
section
variable {prog : Program} {w : World} {A : Around} {E : Value → Shared → Prop} {s : Shared}
theorem tuple_lt_call {Q : Value → Shared → Prop} {l b : Addr} {xs ys : Array Value} {e r : Nat → Bool} (hl : s.heap.IsTuple l xs) (hb : s.heap.IsTuple b ys)
    (he : ∀ j (h1 : j < xs.size) (h2 : j < ys.size), SeqAt.EqAt A.in1 s xs[j] ys[j] (e j)) (hr : ∀ j (h1 : j < xs.size) (h2 : j < ys.size), e j = false → SeqAt.RcLt A.in1 s xs[j] ys[j] (r j))
    (h : Q (.bool (SeqAt.firstLt e r (decide (xs.size < ys.size)) (List.range (min xs.size ys.size)))) s) : wpAny (model prog w) A (PySem.call (.builtin "tuple.__lt__") [.ref l, .ref b]) Q E s := by
  obtain ⟨⟨c1, d1, t1, s1⟩, o1, e1, n1, q1⟩ := id hl
  obtain ⟨⟨c2, d2, t2, s2⟩, o2, e2, n2, q2⟩ := id hb
  simp only at e1 q1 e2 q2
  subst e1 q1 e2 q2
  exact call_meets F.slot_tuple_lt ⟨_, o1, rfl⟩ F.entry_tuple_lt (F.args_tuple_lt_2 _ _) (SeqAt.tuple_ltAt l b xs ys n1 n2 d1 d2 s1 s2 e r) ⟨o1, o2, he, hr, h⟩
theorem oneLt_tup {xs ys : List PyData} {a b : Value} {as bs : List Addr} {Q : Bool → Shared → Prop} (ra : Reads s.heap a (.tuple xs) as) (rb : Reads s.heap b (.tuple ys) bs) (hal : alikeAll xs ys = true)
    (hu : A.units + min (PyData.tuple xs).depth (PyData.tuple ys).depth < cLine) (hq : Q (dataLt (.tuple xs) (.tuple ys)) s) : wpAny (model prog w) A (oneLt' true a b) Q E s := by
  cases ra with
  | @tuple l o vs n _ as1 h1 h2 h3 h4 =>
    cases rb with
    | @tuple l2 o2 us n2 _ bs1 k1 k2 k3 k4 =>
      have e1 : vs.size = xs.length := by simpa using SeqAt.ReadsAll.length _ _ _ h4
      have e2 : us.size = ys.length := by simpa using SeqAt.ReadsAll.length _ _ _ k4
      rw [dataLt_tuple, ← firstLt_toks xs ys hal, ← e1, ← e2] at hq
      rw [oneLt'_eq, if_pos rfl]
      refine wpAny_bind (wpAny_cRoomFor (SeqAt.room_here hu) (wpAny_bind (wpAny_callSpecialIfBound?_slot (T := "tuple") ⟨_, h1, h2⟩ F.slot_tuple_lt (tuple_lt_call (e := pairEq xs ys) (r := fun j => dataLt (xs.getD j .none) (ys.getD j .none)) ⟨_, h1, h2, _, h3⟩ ⟨_, k1, k2, _, k3⟩ (fun j j1 j2 => ?_) (fun j j1 j2 hj => ?_) ?_))))
      · have q := eqAt_alikeAll xs ys A.in1 s vs.toList us.toList _ _ h4 k4 hal (SeqAt.room_in hu) j (by simpa using j1) (by simpa using j2)
        simpa using q
      · have q := rcLt_alikeAll xs ys A.in1 s vs.toList us.toList _ _ h4 k4 hal (SeqAt.room_in hu) j (by simpa using j1) (by simpa using j2) hj
        simpa using q
      · exact wpAny_truthy_bool hq
theorem firsts_any {M : Model} : ∀ (vs : List Value) {Q : List (Option Value) → Shared → Prop}, (∀ v ∈ vs, ∃ a xs, v = .ref a ∧ s.heap.IsTuple a xs) → (∀ os : List (Option Value), os.length = vs.length → (∀ a r, vs = .ref a :: r → s.heap.IsTuple a #[] → os.head? = some none) → Q os s) → wpAny M A (vs.mapM firstOfTuple') Q E s
  | [], Q, _, h => by
    rw [List.mapM_nil]
    exact wpAny_pure (h [] rfl (fun a r e => nomatch e))
  | v :: vs, Q, hv, h => by
    obtain ⟨a, xs, rfl, hx⟩ := hv v (.head _)
    obtain ⟨o, ho, hc, n, hd⟩ := id hx
    rw [List.mapM_cons, kas_first_eq]
    refine wpAny_bind (wpAny_bind (Looks.here (show Looks M s.heap (typeOf (.ref a)) o.cls from (Looks.ld ho).andThen .now) ?_))
    rw [hc, if_neg (by simp)]
    refine wpAny_bind (listItems_at ho hd (wpAny_pure (wpAny_bind (firsts_any vs (fun u hu => hv u (.tail _ hu)) fun os ho2 _ => wpAny_pure (h _ (by rw [List.length_cons, List.length_cons, ho2]) fun a2 r e hempty => ?_)))))
    cases e
    obtain ⟨o3, ho3, hc3, n3, hd3⟩ := hempty
    rw [ho] at ho3
    cases ho3
    rw [hd] at hd3
    cases hd3
    rfl
theorem kind_emptyFirst {M : Model} {a : Addr} {vs : List Value} {Q : SortKind → Shared → Prop} (hv : ∀ v ∈ (.ref a :: vs), ∃ a xs, v = .ref a ∧ s.heap.IsTuple a xs) (he : s.heap.IsTuple a #[]) (h : Q oneType' s) : wpAny M A (keyKind' (List.toArray (.ref a :: vs))) Q E s := by
  rw [kat_kind_eq, List.mapM_toArray, map_eq_pure_bind]
  refine wpAny_bind (wpAny_bind (firsts_any _ hv fun os len hd => wpAny_pure ?_))
  have hd := hd a vs rfl he
  obtain ⟨r, rfl⟩ : ∃ r, os = none :: r := by
    cases os with
    | nil => cases hd
    | cons o r => exact ⟨r, by cases hd; rfl⟩
  rw [if_neg (by simp), if_neg (by simp)]
  rw [oneTypeOnly'_eq, List.mapM_toArray, map_eq_pure_bind]
  refine wpAny_bind (wpAny_bind (wpAny_bind (kas_mapM (r := Value.type "tuple") _ (fun v m Q' hq => ?_) (wpAny_pure ?_))))
  · obtain ⟨b, xs, rfl, hx⟩ := hv v m
    obtain ⟨o, ho, hc, n, hd⟩ := hx
    exact Looks.here (show Looks M s.heap (typeOf (.ref b)) (Value.type "tuple") from hc ▸ (Looks.ld ho).andThen .now) hq
  · have hall : ((List.map (fun _ => Value.type "tuple") (Value.ref a :: vs)).toArray.all fun x => x == Value.type "tuple") = true := by
      simp only [List.all_toArray, List.all_map, List.all_eq_true]
      intro _ _
      exact beq_self_eq_true _
    have h0 : (List.map (fun _ => Value.type "tuple") (Value.ref a :: vs)).toArray[0]? = some (Value.type "tuple") := by simp
    rw [h0]
    simp only [hall, if_true]
    exact wpAny_pure (wpAny_pure h)
/-- tuples, the first one empty -/
theorem sortsAt_emptyFirst {vs : List Value} {ds : List PyData} (e : EachIs (fun v d => ∃ as, Reads s.heap v d as) vs (.tuple [] :: ds)) (ht : ∀ d ∈ ds, ∃ xs, d = .tuple xs) (hal : AllAlike (.tuple [] :: ds)) (hu : ∀ d, d ∈ (.tuple [] :: ds) → A.units + d.depth < cLine) :
    SortsAt prog w A s (dataKind s.heap (.tuple [] :: ds)) vs := by
  have isT : ∀ v ∈ vs, ∃ a xs, v = .ref a ∧ s.heap.IsTuple a xs := fun v hv => by
    obtain ⟨d, hd, as, r⟩ := e.left v hv
    obtain ⟨xs, rfl⟩ : ∃ xs, d = .tuple xs := by
      rcases List.mem_cons.mp hd with rfl | hd
      · exact ⟨_, rfl⟩
      · exact ht d hd
    cases r with
    | tuple h1 h2 h3 h4 => exact ⟨_, _, rfl, _, h1, h2, _, h3⟩
  refine ⟨fun v hv => ?_, oneType', ?_, fun two E Q hq => ?_⟩
  · obtain ⟨d, hd, as, r⟩ := e.left v hv
    exact ⟨_, dataKind_some hal hd r⟩
  · intro E x y a b Q ha hb hq
    obtain ⟨d, as, hd, ra, rfl⟩ := dataKind_inv ha
    obtain ⟨d', as', hd', rb, rfl⟩ := dataKind_inv hb
    have q := hal d hd d' hd'
    rw [keyLt'_oneType]
    have tup : ∀ d ∈ (PyData.tuple [] :: ds), ∃ xs, d = .tuple xs := fun d hd => by
      rcases List.mem_cons.mp hd with rfl | hd
      · exact ⟨_, rfl⟩
      · exact ht d hd
    have hroom := hu d hd
    obtain ⟨xs, rfl⟩ := tup d hd
    obtain ⟨ys, rfl⟩ := tup d' hd'
    exact oneLt_tup ra rb (by simpa [alike] using q) (Nat.lt_of_le_of_lt (Nat.add_le_add_left (Nat.min_le_left _ _) _) hroom) hq
  · cases e with
    | @cons v d vs2 ds2 h1 h3 =>
      obtain ⟨as, r⟩ := h1
      cases r with
      | @tuple a o xs n _ as1 h1 h2 h3 h4 =>
        have : xs = #[] := by
          cases q : xs.toList with
          | nil => exact Array.toList_eq_nil_iff.mp q
          | cons f fr =>
            rw [q] at h4
            cases h4
        subst this
        exact kind_emptyFirst isT ⟨_, h1, h2, _, h3⟩ hq
/-- sorted(xs), tuples, the first one empty -/
theorem sorted_emptyFirst {β : Type} {vs : List Value} {b0 : β} {bs : List β} {enc : β → PyData} {R : Value → β → Prop} {l : Addr} {Q : Value → Shared → Prop} (hl : s.heap.IsList l vs.toArray) (e : EachIs R vs (b0 :: bs)) (er : EachIs (fun v b => ∃ as, Reads s.heap v (enc b) as) vs (b0 :: bs)) (h0 : enc b0 = .tuple [])
    (ht : ∀ b ∈ bs, ∃ xs, enc b = .tuple xs) (hal : AllAlike ((b0 :: bs).map enc)) (hL : (b0 :: bs).length ≤ sizeLine) (hu : ∀ b, b ∈ (b0 :: bs) → A.units + 2 + (enc b).depth < cLine)
    (h : ∀ out, out.length = (b0 :: bs).length → EachIs R out ((b0 :: bs).mergeSort (dataLe false enc)) → Q (.ref (s.heap.objs.size + 1)) { s with heap := sortedAll s.heap vs (List.toArray out) }) :
    wpAny (model prog w) A (PySem.call (.builtin "sorted") [.ref l]) Q E s := by
  have er2 : EachIs (fun v b => ∃ as, Reads (sortingHeap (copyHeap s.heap vs) (s.heap.objs.size + 1) vs) v (enc b) as) vs (b0 :: bs) := er.mono fun _ _ ⟨as, r⟩ => ⟨as, PyProof.Rows.Reads.keeps (fun _ _ => sorting_copy_old) r⟩
  have at_ : ∀ A, (∀ d, d ∈ (b0 :: bs).map enc → A.units + d.depth < cLine) → SortsAt prog w A { s with heap := sortingHeap (copyHeap s.heap vs) (s.heap.objs.size + 1) vs } (dataKind (sortingHeap (copyHeap s.heap vs) (s.heap.objs.size + 1) vs) ((b0 :: bs).map enc)) vs := fun A hu => by
    have em := each_map (R := fun v d => ∃ as, Reads (sortingHeap (copyHeap s.heap vs) (s.heap.objs.size + 1) vs) v d as) enc er2
    rw [List.map_cons, h0] at em hu hal ⊢
    refine sortsAt_emptyFirst (s := { s with heap := sortingHeap (copyHeap s.heap vs) (s.heap.objs.size + 1) vs }) em (fun d hd => ?_) hal hu
    obtain ⟨b, hb, rfl⟩ := List.mem_map.mp hd
    exact ht b hb
  exact sorted_vals hl (at_ _ (bound_map hu)) (by rw [e.length]; exact hL) (h _ (by rw [sortVals_length false rfl]; exact e.length) (sortVals_data false e er2 hal))
end
end DZ
set_option Elab.async false
set_option linter.all false
set_option maxRecDepth 100000
set_option maxHeartbeats 4000000
namespace DZ
open PySem PySem.Spec PyProof.Rows L2 DL
/-! ### enumerate(tuple) -/
theorem meets_enumT {t : Addr} {its : Array Value} : Meets (Builtin.«enumerate.__new__» ⟨[.type "enumerate", .ref t], []⟩) (fun _ R s => s.heap.IsTuple t its ∧
      R (.ok (.ret (.ref (s.heap.push { cls := .type "tuple_iterator", data := .fields #[.ref t, .int 0 0] }).objs.size)))
        { s with heap := (s.heap.push { cls := .type "tuple_iterator", data := .fields #[.ref t, .int 0 0] }).push { cls := .type "enumerate", data := .fields #[.none, .bool false, .ref s.heap.objs.size, rawInt 0, .none, .none] } }) :=
  .of_wp fun prog w A R s h => by
    obtain ⟨hp, g, d, tk, os⟩ := s
    obtain ⟨h1, h⟩ := h
    have sub := sub_enumerate
    have it1 : ∀ {A' : Around} {E : Value → Shared → Prop} {Q : Value → Shared → Prop}, Q (.ref hp.objs.size) ⟨hp.push { cls := .type "tuple_iterator", data := .fields #[.ref t, .int 0 0] }, g, d, tk, os⟩ → wpAny (model prog w) A' (pyIter (.ref t)) Q E ⟨hp, g, d, tk, os⟩ := fun q => wpAny_pyIter_tuple h1 q
    wp_walk using it1
    refine wpAny_stack_any fun st => wpAny_pure ?_
    split
    · rename_i c _ _ _ _ _
      cases (c == Value.type "enumerate") <;> (wp_walk using it1; exact ⟨_, rfl, h⟩)
    · wp_walk using it1
      exact ⟨_, rfl, h⟩
theorem call_enumT {prog : Program} {w : World} {A : Around} {E : Value → Shared → Prop} {s : Shared} {t : Addr} {its : Array Value} {Q : Value → Shared → Prop} (ht : s.heap.IsTuple t its)
    (h : ∀ h', IsEnum h' (s.heap.objs.size + 1) s.heap.objs.size 0 .none → h'.IsTupleIter s.heap.objs.size t 0 → (∀ b o, s.heap.get? b = some o → h'.get? b = some o) → Q (.ref (s.heap.objs.size + 1)) { s with heap := h' }) :
    wpAny (model prog w) A (PySem.call (.type "enumerate") [.ref t]) Q E s := by
  refine callType_new F.called_enumerate (by decide) (F.typeCall_enumerate_1 _) (F.newCall_enumerate_1 _) (fun obj => F.args_object_init_2 obj _) F.entry_enumerate_new meets_enumT ⟨ht, ?_⟩
  have sz : (s.heap.push { cls := .type "tuple_iterator", data := .fields #[.ref t, .int 0 0] }).objs.size = s.heap.objs.size + 1 := Heap.size_push ..
  show _ ∧ _
  rw [sz]
  have there := Heap.get?_push_size (s.heap.push { cls := .type "tuple_iterator", data := .fields #[.ref t, .int 0 0] }) (o := { cls := .type "enumerate", data := .fields #[.none, .bool false, .ref s.heap.objs.size, rawInt 0, .none, .none] }) rfl
  rw [sz] at there
  exact ⟨⟨_, there, rfl⟩, h _ there ⟨_, Heap.get?_push_of_some _ (Heap.get?_push_size _ rfl), rfl, rfl⟩ fun b o x => Heap.get?_push_of_some _ (Heap.get?_push_of_some _ x)⟩
/-- the tuple at a, each item in a new pair -/
def ItET (K : PySem.W.Frag) (a : Addr) : It :=
  ⟨fun i H => ∃ (xs : List V) (x : V), SqT K H a xs ∧ xs[i]? = some x, fun i H v H' => ∃ T x, v = .ref T ∧ H T = none ∧ H' = upd H T (.tup [.int (i : Nat), x]) ∧ ∀ xs, SqT K H a xs → xs[i]? = some x, fun i H => ∃ xs : List V, SqT K H a xs ∧ xs.length ≤ i⟩
theorem turn_enumT {P : Program} {w : World} {K : PySem.W.Frag} {elts : List Expr} {kk : Nat} {tpos : Pos} (a e it : Addr) :
    Turn P w K (.Tuple elts kk tpos) (ItET K a) [e, it] e (fun i h => (∃ old, IsEnum h e it ((i : Nat) : Int) old) ∧ h.IsTupleIter it a i ∧ e ≠ it ∧ a ≠ it ∧ a ≠ e) where
  mem := List.mem_cons_self
  obj := fun i h st b hb => by
    obtain ⟨⟨old, he⟩, ⟨o, ho, hc, hd⟩, _⟩ := st
    rcases List.mem_cons.mp hb with z | z
    · rw [z]
      exact ⟨_, he, fun v q => nomatch q⟩
    · rw [List.mem_singleton.mp z]
      refine ⟨o, ho, fun v q => ?_⟩
      rw [hd] at q
      cases q
  keep := fun i h h' st k => by
    obtain ⟨⟨old, he⟩, hi, n1⟩ := st
    exact ⟨⟨old, k e List.mem_cons_self _ he⟩, hi.at fun o q => k it (List.mem_cons_of_mem _ (List.mem_singleton_self _)) o q, n1⟩
  item := by
    intro X hP hw hK hc i pn s σ H E I hf st hg
    subst hP hw hK
    obtain ⟨⟨old, he⟩, hit, hne, na, nae⟩ := st
    obtain ⟨xs, x, hq, hx⟩ := hg
    obtain ⟨its, rv, p, hz⟩ := I.tuple hq
    obtain ⟨u, hu, ru⟩ := rv.get hx
    have lte : e < s.heap.objs.size := Heap.lt_size he
    have lti : it < s.heap.objs.size := by
      obtain ⟨_, q, _⟩ := id hit
      exact Heap.lt_size q
    have hh : X.A.in1.handled = none := by simp [I.ok.hd hc]
    have len : i < its.toArray.size := by
      rw [List.size_toArray]
      exact lt_of_get hu
    refine wpAny_pyNext_enum_itemD (Draws.tuple (prog := X.prog) (w := X.w) (A := X.A.in1) hh it a na its.toArray) he ⟨hit, show s.heap.IsTuple a its.toArray from p⟩ len hne (fun z => ?_) fun y h' tk py ho st' hT hsz hk => ?_
    · rcases List.mem_cons.mp z with z | z
      · exact hne z
      · exact nae (List.mem_singleton.mp z).symm
    have ey : y = u := by
      have q : its.toArray[i]? = some u := by simpa using hu
      exact Option.some.inj (py.symm.trans q)
    subst ey
    refine ⟨_, rfl, wpAny_letOwnedTupleGo_enum (s := { s with heap := h', toks := tk + 1 }) ho fun h2 he2 sb => ?_⟩
    have hT2 : h2.get? s.heap.objs.size = some { cls := .type "tuple", data := .seq #[.int i tk, y] } := (sb.2 _ (Nat.ne_of_gt lte)).trans hT
    have new : ObjOk X.prog X.w (upd H s.heap.objs.size (.tup [.int (i : Nat), x])) h2 s.heap.objs.size (.tup [.int (i : Nat), x]) :=
      ⟨by show 2 ≤ sizeLine; decide, [.int i tk, y], .cons ⟨_, rfl⟩ (.cons ru .nil), ⟨_, hT2, rfl, _, rfl⟩⟩
    have I1 : Inv X pn σ (upd H s.heap.objs.size (.tup [.int (i : Nat), x])) { s with heap := h2, toks := tk + 1 } :=
      I.turnedNew (ch := [e, it]) (fun b ob hb q => by
        have h1 : b ≠ e := fun z => hb (by rw [z]; exact List.mem_cons_self)
        have h2' : b ≠ it := fun z => hb (by rw [z]; exact List.mem_cons_of_mem _ (List.mem_singleton_self _))
        exact (sb.2 b h1).trans (hk b ob h1 h2' q)) hf (Nat.le_refl _) new
    refine ⟨.ref s.heap.objs.size, _, I1, rfl, ⟨_, x, rfl, I.hok.fresh (Nat.le_refl _), rfl, fun ys hy => by rw [I.tuple_inj hy hq]; exact hx⟩, ⟨⟨y, ?_⟩, st'.1.at fun o q => (sb.2 it (Ne.symm hne)).trans q, hne, na, nae⟩, fun b hb => ?_⟩
    · rw [show ((i + 1 : Nat) : Int) = (i : Int) + 1 by omega]
      exact he2
    · have lt : b < s.heap.objs.size := by
        rcases List.mem_cons.mp hb with z | z
        · rw [z]; exact lte
        · rw [List.mem_singleton.mp z]; exact lti
      rw [upd_ne (Nat.ne_of_lt lt)]
      exact (hf b hb).1
  done := by
    intro X hP hw hK hc i pn s σ H E I hf st hg
    subst hP hw hK
    obtain ⟨⟨old, he⟩, hit, hne, na, nae⟩ := st
    obtain ⟨xs, hq, hx⟩ := hg
    obtain ⟨its, rv, p, hz⟩ := I.tuple hq
    obtain ⟨f0, f1, f2, f3, f4, f5⟩ := hf it (List.mem_cons_of_mem _ (List.mem_singleton_self _))
    have hl := rv.length
    have hT : s.TypeIs (.ref e) "enumerate" := ⟨_, he, rfl⟩
    have out : its.toArray[i]? = none := by
      rw [List.getElem?_toArray, List.getElem?_eq_none_iff]
      omega
    unfold pyNext
    refine wpAny_bind (wpAny_attempt (wpAny_callSpecial?_slot (name := Str.ofString "__next__") hT F.slot_enumerate_next (wpAny_call_entry F.slot_enumerate_next hT F.entry_enumerate_next ?_ (F.args_enumerate_next_1 _))))
    show wpAny _ _ (field (.ref e) 2 >>= _) _ _ _
    refine wpAny_bind (wpAny_field he rfl (x := .ref it) rfl (wpAny_bind (wpAny_nextOf_tuple_end (by simp [I.ok.hd hc]) hit (show s.heap.IsTuple a its.toArray from p) out fun h' x he' hx' => ?_)))
    obtain ⟨o, ho, hc'⟩ := hx'
    refine wpAny_bind (wpAny_isInstance (T := "StopIteration") (b := true) ⟨o, ho, hc'⟩ isSubtype_stop (wpAny_pure ⟨rfl, I.turned (t' := s.toks) (fun b o hb q => he' b o hb q) f0 f1 f3 f4 f5⟩))
  self := fun A i s Q E st h => let ⟨⟨_, he⟩, _⟩ := st; wpAny_pyIter_enum he h
def iEnT (K : PySem.W.Frag) (ta : TA) : TI := fun σ H R => ta σ H fun vs H1 => ∃ a xs, vs = [.ref a] ∧ SqT K H1 a xs ∧ R (ItET K a) H1
theorem pi_enumT {X : Cx} {e : Expr} {ta : TA} {p pos tpos : Pos} {elts : List Expr} {kk : Nat} (hg : Gl X "enumerate") (hm : X.mg "enumerate" = none) (ha : PA X [e] ta) (hs : starEach [e] X.env = [(false, eval e X.env)] := by rfl) :
    PI X (.Tuple elts kk tpos) (.Call (.Name "enumerate" p) [e] [] pos) (iEnT X.K ta) := by
  refine ⟨fun pn s σ H R I want => ?_⟩
  refine Call_ (ld_blt I hg hm boot_enumerate (PyProof.Rows.callWith_type1 (thn (ha.run pos pn s σ H _ I want) fun us s1 got => ?_) hs rfl))
  obtain ⟨vs, H1, I1, r1, a, xs, ex, hq, q⟩ := got
  subst ex
  cases r1 with
  | cons r rr =>
    cases rr
    cases r
    obtain ⟨its, rv, pt, hz⟩ := I1.tuple hq
    obtain ⟨o, ho, _⟩ := id pt
    have lta : a < s1.heap.objs.size := Heap.lt_size ho
    refine call_enumT (show s1.heap.IsTuple a its.toArray from pt) fun h' he hit hk => wpAny_pyIter_enum he ?_
    have I2 : Inv X pn σ H1 { s1 with heap := h' } := I1.kept (t' := s1.toks) hk
    refine ⟨s1.heap.objs.size + 1, [s1.heap.objs.size + 1, s1.heap.objs.size], _, _, H1, rfl, I2, turn_enumT a (s1.heap.objs.size + 1) s1.heap.objs.size, ⟨⟨.none, he⟩, hit, Nat.succ_ne_self _, Nat.ne_of_lt lta, Nat.ne_of_lt (Nat.lt_succ_of_lt lta)⟩, fun b hb => ?_, q⟩
    have le : s1.heap.objs.size ≤ b := by
      rcases List.mem_cons.mp hb with z | z
      · rw [z]; exact Nat.le_succ _
      · rw [List.mem_singleton.mp z]; exact Nat.le_refl _
    exact I1.fpOk le (I1.hok.fresh le)
end DZ
set_option Elab.async false
set_option linter.all false
set_option maxRecDepth 100000
set_option maxHeartbeats 4000000
namespace DZ
open PySem PySem.Spec PyProof.Rows L2 DL
/-! ### tuple[::-1] -/
section
variable {prog : Program} {w : World} {A : Around} {E : Value → Shared → Prop} {s : Shared}
theorem back_adjust (n : Nat) : Builtin.Slice.sliceAdjust none none (-1) (n : Int) = ((n : Int) - 1, -1) := rfl
theorem back_places (n : Nat) : Builtin.Slice.slicePlaces ((n : Int) - 1) (-1) (-1) = n := by
  unfold Builtin.Slice.slicePlaces
  have h1 : ¬ ((-1 : Int) > 0) := by decide
  rw [if_neg h1]
  by_cases h : (n : Int) - 1 > -1
  · rw [if_pos h, show (-(-1) : Int) = 1 by decide, Int.ediv_one]
    omega
  · rw [if_neg h]
    omega
theorem back_pick (xs : Array Value) : ((List.range xs.size).filterMap fun (k : Nat) => xs[((xs.size : Int) - 1 + (k : Int) * -1).toNat]?).toArray = xs.toList.reverse.toArray := by
  have e : (List.range xs.size).filterMap (fun (k : Nat) => xs[((xs.size : Int) - 1 + (k : Int) * -1).toNat]?) = ((List.range xs.size).map fun k => xs.size - 1 - k).filterMap (xs[·]?) := by
    rw [List.filterMap_map]
    have same : (fun (k : Nat) => xs[((xs.size : Int) - 1 + (k : Int) * -1).toNat]?) = ((fun x : Nat => xs[x]?) ∘ fun k => xs.size - 1 - k) := by
      funext k
      show xs[((xs.size : Int) - 1 + (k : Int) * -1).toNat]? = xs[xs.size - 1 - k]?
      rw [show ((xs.size : Int) - 1 + (k : Int) * -1).toNat = xs.size - 1 - k by omega]
    rw [same]
  rw [e, PySem.W.krv_range, List.filterMap_reverse, PySem.W.krv_all]
theorem back_applied {sl : Addr} {vs : Value} {n : Nat} {Q : Int × Int × Nat → Shared → Prop} (hs : s.heap.IsSliceOf sl .none .none vs) (ps : IsPart vs (some (-1))) (h : Q ((n : Int) - 1, -1, n) s) :
    wpAny (model prog w) A (Builtin.Slice.sliceApplied (.ref sl) (pure (n : Int))) Q E s := by
  obtain ⟨o, ho, hc, hd⟩ := id hs
  unfold Builtin.Slice.sliceApplied Builtin.Slice.sliceFields
  refine wpAny_bind (wpAny_bind (wpAny_field ho hd (x := .none) rfl (wpAny_bind (wpAny_field ho hd (x := .none) rfl (wpAny_bind (wpAny_field ho hd (x := vs) rfl (wpAny_pure ?_)))))))
  refine wpAny_bind (HT.slicePart_ ps ?_)
  show wpAny _ _ (if ((-1 : Int) == 0) = true then _ else _) _ _ s
  rw [if_neg (by decide)]
  refine wpAny_bind (slicePart_none (wpAny_bind (slicePart_none (wpAny_bind (wpAny_pure ?_)))))
  show wpAny _ _ (match Builtin.Slice.sliceAdjust none none (-1) (n : Int) with | (lo, hi) => pure (lo, (-1 : Int), Builtin.Slice.slicePlaces lo hi (-1))) _ _ s
  rw [back_adjust]
  show wpAny _ _ (pure ((n : Int) - 1, (-1 : Int), Builtin.Slice.slicePlaces ((n : Int) - 1) (-1) (-1))) _ _ s
  rw [back_places]
  exact wpAny_pure h
theorem getItem_back {t sl : Addr} {its : Array Value} {vs : Value} {Q : Value → Shared → Prop} (ht : IsTup s.heap t its) (hs : s.heap.IsSliceOf sl .none .none vs) (ps : IsPart vs (some (-1)))
    (h : Q (.ref s.heap.objs.size) { s with heap := s.heap.push { cls := .type "tuple", data := .seq its.toList.reverse.toArray } }) (hsz : its.size ≤ sizeLine) : wpAny (model prog w) A (getItem (.ref t) (.ref sl)) Q E s := by
  have few : sizeOk (.seq its.toList.reverse.toArray) := by
    show its.toList.reverse.toArray.size ≤ sizeLine
    rw [List.size_toArray, List.length_reverse, Array.length_toList]
    exact hsz
  obtain ⟨o, ho, hc, hd⟩ := id hs
  have isSl : s.TypeIs (.ref sl) "slice" := ⟨o, ho, hc⟩
  unfold getItem
  try with_reducible refine wpAny_holding ?_
  first | refine wpAny_bind (wpAny_pure ?_) | skip
  refine wpAny_bind (wpAny_sequenceKey ht.typeIs (by decide) (wpAny_bind (wpAny_callSpecial?_slot (name := Str.ofString "__getitem__") ht.typeIs PyProof.Rows.slot_tuple_getitem (wpAny_call_entry PyProof.Rows.slot_tuple_getitem ht.typeIs entry_tuple_getitem ?_ (args_tuple_getitem _ _)))))
  show wpAny _ _ (Builtin.Tuple.tupleItemsOf (.ref t) >>= _) _ _ s
  refine wpAny_bind (tupleItemsOf_ ht (wpAny_bind (wpAny_typeOf isSl ?_)))
  rw [if_pos (by decide)]
  refine wpAny_bind (back_applied hs ps ?_)
  show wpAny _ _ (if ((((its.size : Int) - 1) == 0 && (-1 : Int) == 1 && its.size == its.size) = true) then _ else _) _ _ s
  rw [if_neg (by simp), back_pick]
  first
    | exact wpAny_bind (m := Builtin.Tuple.tupleExact _) (wpAny_newObj_type (wpAny_pure ⟨_, rfl, wpAny_pure h⟩) few)
    | exact wpAny_bind (wpAny_bind (m := Builtin.Tuple.tupleExact _) (wpAny_newObj_type (wpAny_pure ⟨_, rfl, wpAny_pure h⟩) few))
end
def tBackT (K : PySem.W.Frag) (te : TE) : TE := fun σ H Q => te σ H fun x H1 => ∃ a xs, x = .ref a ∧ SqT K H1 a xs ∧ ∀ p, H1 p = none → Q (.ref p) (upd H1 p (.tup xs.reverse))
theorem pe_backT {X : Cx} {e : Expr} {te : TE} {k : Nat} {p1 p2 p3 pos : Pos} (he : PE X e te) : PE X (.Subscript e (.Slice none none (some (.UnaryOp .USub (.Constant (.int 1) k p1) p2)) p3) pos) (tBackT X.K te) := by
  refine ⟨fun pn s σ H Q I want => ?_⟩
  refine Subscript_ (thn (he.run pn s σ H _ I want) fun v s1 ⟨x, H1, I1, r1, a, xs, ex, hx, q⟩ => ?_)
  subst ex
  cases r1
  have step : PO X (some (.UnaryOp .USub (.Constant (.int 1) k p1) p2)) (tPart (tUn (rU fun i => .int (-i)) (tC (.int 1)))) := po_some (pe_un un_neg pe_int)
  refine wpAny_Slice ?_
  rw [evalPart_none]
  refine wpAny_pure (wpAny_pure (thn (step.run pn s1 σ H1 (fun o H4 => o = some (-1) ∧ H4 = H1) I1 ⟨1, rfl, -1, rfl, rfl, rfl⟩) fun vs s4 ⟨o, H4, I4, ps, eo, e4⟩ => ?_))
  subst eo e4
  have I5 : Inv X pn σ H4 { s4 with heap := s4.heap.push { cls := .type "slice", data := .fields #[.none, .none, vs] } } := I4.kept (t' := s4.toks) fun b ob q => Heap.get?_push_of_some _ q
  obtain ⟨its, r, ht, hz⟩ := I5.tuple hx
  have hlen := r.length
  show wpAny (model X.prog X.w) X.A (subscriptTail e (.Slice none none (some (.UnaryOp .USub (.Constant (.int 1) k p1) p2)) p3) (.ref a) (.ref s4.heap.objs.size)) (EP X pn σ Q) X.xe { s4 with heap := s4.heap.push { cls := .type "slice", data := .fields #[.none, .none, vs] } }
  refine tail_any (ops := [.ref a, .ref s4.heap.objs.size]) ht.typeIs (PyProof.Rows.slot_tuple_getitem.lookup) ?_ (by with_unfolding_all rfl)
  refine getItem_back ht (Heap.IsSliceOf.new _ .none .none vs) ps ?_ (by rw [List.size_toArray]; omega)
  exact ⟨.ref _, _, I5.laid (t' := s4.toks) (o := .tup xs.reverse) (fun b ob q => Heap.get?_push_of_some _ q) (Nat.le_refl _) ⟨by rw [List.length_reverse]; exact hz, _, r.reverse, IsTup.new _ _⟩, rfl, q _ (I5.hok.fresh (Nat.le_refl _))⟩
end DZ
set_option Elab.async false
set_option linter.all false
set_option maxRecDepth 100000
set_option maxHeartbeats 4000000
namespace DZ
open PySem PySem.Spec PyProof.Rows L2 DL
/-! ### list(zip(a, b)), two lists -/
section
variable {prog : Program} {w : World} {A : Around} {E : Value → Shared → Prop} {s : Shared}
theorem alive_at {a : Addr} {Q : Option Obj → Shared → Prop} (h : Q (s.heap.get? a) s) : wpAny (model prog w) A (loadIfAlive a) Q E s := fun Γ p _ => by
  first
    | (rw [Sem.wp_cmd_loadIfAlive]; exact h)
    | exact h
/-- a zip that has handed out T -/
def IsZip1 (h : Heap) (z TI TO T : Addr) (b : Bool) : Prop := h.get? z = some { cls := .type "zip", dict := none, data := .fields #[rawInt T, .bool b, .bool false, .ref TI, .ref TO], slots := #[] }
theorem nolen_zip : typeLookup (.type "zip") "__len__" = pure none := by rw [typeLookup_type, builtinLookup_eq_fast]; kernel_rfl
theorem nohint_zip : typeLookup (.type "zip") "__length_hint__" = pure none := by rw [typeLookup_type, builtinLookup_eq_fast]; kernel_rfl
theorem held_no {z TI TO T : Addr} {b : Bool} {Q : Bool → Shared → Prop} (hz : IsZip1 s.heap z TI TO T b) (hT : ∃ o, s.heap.get? T = some o) (h : ∀ h', IsZip1 h' z TI TO T true → Heap.SameBut z s.heap h' → Q false { s with heap := h' }) :
    wpAny (model prog w) A (Builtin.SmallTypes.ownedTupleIsFree (.ref z)) Q E s := by
  obtain ⟨o, hT⟩ := hT
  unfold Builtin.SmallTypes.ownedTupleIsFree
  refine wpAny_bind (wpAny_field hz rfl (x := rawInt T) rfl ?_)
  show wpAny _ _ (loadIfAlive (T : Int).toNat >>= _) _ _ _
  refine wpAny_bind (alive_at ?_)
  rw [Int.toNat_natCast, hT]
  refine wpAny_bind (wpAny_field hz rfl (x := .bool b) rfl ?_)
  cases b with
  | true =>
    rw [if_neg (by decide)]
    exact wpAny_bind (wpAny_pure (wpAny_pure (h s.heap hz (Heap.SameBut.refl ..))))
  | false =>
    rw [if_pos (by decide)]
    exact wpAny_bind (wpAny_setField_rec hz (by simp) fun h1 hz1 sb => wpAny_pure (h h1 hz1 sb))
theorem zip1_item {z TI TO T i1 i2 l1 l2 : Addr} {b : Bool} {k1 k2 : Nat} {xs ys : Array Value} {x y : Value} {Q : Value → Shared → Prop} (D : ZipApart z TI TO i1 i2 l1 l2) (hz : IsZip1 s.heap z TI TO T b) (hT : ∃ o, s.heap.get? T = some o)
    (hTI : IsPair s.heap TI (.ref i1) (.ref i2)) (h1 : s.heap.IsListIter i1 l1 k1) (h2 : s.heap.IsListIter i2 l2 k2) (hl1 : s.heap.IsList l1 xs) (hl2 : s.heap.IsList l2 ys) (hx : xs[k1]? = some x) (hy : ys[k2]? = some y)
    (hQ : ∀ h', IsZip1 h' z TI TO T true → h'.IsListIter i1 l1 (k1 + 1) → h'.IsListIter i2 l2 (k2 + 1) → IsPair h' s.heap.objs.size x y → h'.objs.size = s.heap.objs.size + 1 → (∀ c o, c ≠ z → c ≠ i1 → c ≠ i2 → s.heap.get? c = some o → h'.get? c = some o) → Q (.ref s.heap.objs.size) { s with heap := h' }) :
    wpAny (model prog w) A (Builtin.«zip.__next__» ⟨[.ref z], []⟩) (fun fin s' => ∃ v, fin = .done (.ret v) ∧ Q v s') E s := by
  show wpAny _ _ (field (.ref z) 2 >>= _) _ _ _
  refine wpAny_bind (wpAny_field hz rfl (x := .bool false) rfl ?_)
  show wpAny _ _ (field (.ref z) 3 >>= _) _ _ _
  refine wpAny_bind (wpAny_field hz rfl (x := .ref TI) rfl (wpAny_bind (wpAny_seqItems hTI rfl ?_)))
  show wpAny _ _ (Builtin.SmallTypes.ownedTupleIsFree (.ref z) >>= _) _ _ _
  refine wpAny_bind (held_no hz hT fun g1 z1 sb1 => ?_)
  rw [if_neg (by simp)]
  refine wpAny_bind ?_
  simp only [List.forIn_toArray, List.forIn_cons, List.forIn_nil]
  refine wpAny_bind (wpAny_bind (wpAny_holding ?_))
  show wpAny _ _ (Builtin.SmallTypes.nextOf (.ref i1) >>= _) _ _ _
  refine wpAny_bind (wpAny_nextOf_list_item (h1.extBut sb1.extBut D.i1z) (hl1.extBut sb1.extBut D.l1z) hx fun g2 a1 sb2 => wpAny_pure (wpAny_pure ?_))
  refine wpAny_bind (wpAny_bind (wpAny_holding ?_))
  show wpAny _ _ (Builtin.SmallTypes.nextOf (.ref i2) >>= _) _ _ _
  refine wpAny_bind (wpAny_nextOf_list_item ((h2.extBut sb1.extBut D.i2z).extBut sb2.extBut D.i12.symm) ((hl2.extBut sb1.extBut D.l2z).extBut sb2.extBut D.l2i1) hy fun g3 a2 sb3 => wpAny_pure (wpAny_pure (wpAny_pure ?_)))
  show wpAny _ _ (newTuple [x, y] >>= _) _ _ _
  have size : g3.objs.size = s.heap.objs.size := by rw [sb3.1, sb2.1, sb1.1]
  have keep : ∀ c o, c ≠ z → c ≠ i1 → c ≠ i2 → s.heap.get? c = some o → g3.get? c = some o := fun c o n1 n2 n3 e => sb3.extBut _ _ n3 (sb2.extBut _ _ n2 (sb1.extBut _ _ n1 e))
  refine wpAny_bind (wpAny_newTuple ?_)
  rw [size]
  refine wpAny_pure ⟨_, rfl, hQ _ ?_ ?_ ?_ ?_ ?_ ?_⟩
  · exact Heap.get?_push_of_some _ (sb3.extBut _ _ D.i2z.symm (sb2.extBut _ _ D.i1z.symm z1))
  · exact (a1.extBut sb3.extBut D.i12).at fun o e => Heap.get?_push_of_some _ e
  · exact a2.at fun o e => Heap.get?_push_of_some _ e
  · have q := Heap.get?_push_size g3 (o := { cls := .type "tuple", data := .seq #[x, y] }) rfl
    rw [size] at q
    exact q
  · rw [Heap.size_push, size]
  · exact fun c o n1 n2 n3 e => Heap.get?_push_of_some _ (keep c o n1 n2 n3 e)
theorem zip1_end {z TI TO T i1 i2 l1 l2 : Addr} {b : Bool} {k1 : Nat} {xs : Array Value} {Q : Fin → Shared → Prop} (hh : A.handled = none) (D : ZipApart z TI TO i1 i2 l1 l2) (hz : IsZip1 s.heap z TI TO T b) (hT : ∃ o, s.heap.get? T = some o)
    (hTI : IsPair s.heap TI (.ref i1) (.ref i2)) (h1 : s.heap.IsListIter i1 l1 k1) (hl1 : s.heap.IsList l1 xs) (hx : xs[k1]? = none)
    (hE : ∀ h' e, (∀ c o, c ≠ z → c ≠ i1 → c ≠ i2 → s.heap.get? c = some o → h'.get? c = some o) → (∃ o, h'.get? e = some o ∧ o.cls = .type "StopIteration") → E (.ref e) { s with heap := h' }) :
    wpAny (model prog w) A (Builtin.«zip.__next__» ⟨[.ref z], []⟩) Q E s := by
  show wpAny _ _ (field (.ref z) 2 >>= _) _ _ _
  refine wpAny_bind (wpAny_field hz rfl (x := .bool false) rfl ?_)
  show wpAny _ _ (field (.ref z) 3 >>= _) _ _ _
  refine wpAny_bind (wpAny_field hz rfl (x := .ref TI) rfl (wpAny_bind (wpAny_seqItems hTI rfl ?_)))
  show wpAny _ _ (Builtin.SmallTypes.ownedTupleIsFree (.ref z) >>= _) _ _ _
  refine wpAny_bind (held_no hz hT fun g1 z1 sb1 => ?_)
  rw [if_neg (by simp)]
  refine wpAny_bind ?_
  simp only [List.forIn_toArray, List.forIn_cons, List.forIn_nil]
  refine wpAny_bind (wpAny_bind (wpAny_holding ?_))
  show wpAny _ _ (Builtin.SmallTypes.nextOf (.ref i1) >>= _) _ _ _
  exact wpAny_bind (wpAny_nextOf_list_end hh (h1.extBut sb1.extBut D.i1z) (hl1.extBut sb1.extBut D.l1z) hx fun g2 e sb2 he => hE g2 e (fun c o n1 n2 n3 q => sb2 _ _ n2 (sb1.extBut _ _ n1 q)) he)
structure ZApart (z TI TO i1 i2 l1 l2 S : Addr) (h0 : Heap) : Prop where
  D : ZipApart z TI TO i1 i2 l1 l2
  nw : ∀ c ∈ [z, TI, TO, i1, i2, S], h0.get? c = none
  sn : ∀ c ∈ [z, TI, TO, i1, i2, l1, l2], c ≠ S
/-- what list.extend's loop over the zip has come to at turn i -/
structure ZLoop (z TI TO i1 i2 l1 l2 S : Addr) (xs ys : Array Value) (h0 h : Heap) (i : Nat) (ts : List Addr) : Prop where
  it1 : h.IsListIter i1 l1 i
  it2 : h.IsListIter i2 l2 i
  a : h.IsList l1 xs
  b : h.IsList l2 ys
  ti : IsPair h TI (.ref i1) (.ref i2)
  zz : (IsZip h z TI TO .none ∧ IsPair h TO .none .none) ∨ ∃ T k, IsZip1 h z TI TO T k ∧ T ∈ ts
  sl : ∃ c, h.get? S = some { cls := .type "list", dict := none, data := .seq (ts.map Value.ref).toArray c, slots := #[] }
  n : ts.length = i
  to : ∃ o, h.get? TO = some o
  nd : ts.Nodup
  new : ∀ T ∈ ts, h0.objs.size ≤ T ∧ T ∉ [z, TI, TO, i1, i2, S]
  big : h0.objs.size ≤ h.objs.size
  at_ : ∀ (j : Nat) (T : Addr), ts[j]? = some T → ∃ x y, xs[j]? = some x ∧ ys[j]? = some y ∧ IsPair h T x y
  keep : ∀ c o, h0.get? c = some o → h.get? c = some o
theorem size_fresh {h : Heap} {c : Addr} {o : Obj} (e : h.get? c = some o) : c ≠ h.objs.size := Nat.ne_of_lt (Heap.lt_size e)
theorem not_fresh {h : Heap} : h.get? h.objs.size = none := by
  cases q : h.get? h.objs.size with
  | none => rfl
  | some o => exact absurd rfl (size_fresh q)
/-- a turn's next keeps the loop's facts -/
theorem ZLoop.step {z TI TO i1 i2 l1 l2 S : Addr} {xs ys : Array Value} {h0 h h1 : Heap} {i : Nat} {ts : List Addr} {x y : Value} (ap : ZApart z TI TO i1 i2 l1 l2 S h0) (L : ZLoop z TI TO i1 i2 l1 l2 S xs ys h0 h i ts)
    (n1 : h1.IsListIter i1 l1 (i + 1)) (n2 : h1.IsListIter i2 l2 (i + 1)) (p : IsPair h1 h.objs.size x y) (hTO : ∃ o, h1.get? TO = some o) (hx : xs[i]? = some x) (hy : ys[i]? = some y) (zz : ∃ T k, IsZip1 h1 z TI TO T k ∧ (T = h.objs.size ∨ T ∈ ts))
    (k : ∀ c o, c ≠ z → c ≠ TO → c ≠ i1 → c ≠ i2 → h.get? c = some o → h1.get? c = some o) (sz : h.objs.size ≤ h1.objs.size) :
    ∃ c, h1.get? S = some { cls := .type "list", dict := none, data := .seq (ts.map Value.ref).toArray c, slots := #[] } ∧ ∀ h2 : Heap, (∃ c, h2.get? S = some { cls := .type "list", dict := none, data := .seq ((ts ++ [h.objs.size]).map Value.ref).toArray c, slots := #[] }) → (∀ c o, c ≠ S → h1.get? c = some o → h2.get? c = some o) → h1.objs.size ≤ h2.objs.size →
      ZLoop z TI TO i1 i2 l1 l2 S xs ys h0 h2 (i + 1) (ts ++ [h.objs.size]) := by
  have D := ap.D
  have sn : ∀ c, c = z ∨ c = TI ∨ c = TO ∨ c = i1 ∨ c = i2 ∨ c = l1 ∨ c = l2 → c ≠ S := fun c hc => ap.sn c (by simpa using hc)
  obtain ⟨c0, hS⟩ := L.sl
  have kS := k S _ (sn z (by simp)).symm (sn TO (by simp)).symm (sn i1 (by simp)).symm (sn i2 (by simp)).symm hS
  refine ⟨c0, kS, fun h2 hS2 k2 sz2 => ?_⟩
  have fr : ∀ T ∈ ts, ∃ o, h.get? T = some o := fun T hT => by
    obtain ⟨j, hj⟩ := List.getElem?_of_mem hT
    obtain ⟨x, y, _, _, q⟩ := L.at_ j T hj
    exact ⟨_, q⟩
  have tne : ∀ T ∈ ts, T ≠ z ∧ T ≠ TI ∧ T ≠ TO ∧ T ≠ i1 ∧ T ≠ i2 ∧ T ≠ S := fun T hT => by
    have q := (L.new T hT).2
    simpa only [List.mem_cons, List.not_mem_nil, or_false, not_or] using q
  have up : ∀ c o, c ≠ z → c ≠ TO → c ≠ i1 → c ≠ i2 → c ≠ S → h.get? c = some o → h2.get? c = some o := fun c o a1 a2 a3 a4 a5 e => k2 c o a5 (k c o a1 a2 a3 a4 e)
  obtain ⟨zo, zh⟩ : ∃ o, h.get? z = some o := by
    rcases L.zz with ⟨q, _⟩ | ⟨T, k, q, _⟩ <;> exact ⟨_, q⟩
  obtain ⟨o1, e1, _⟩ := id L.it1
  obtain ⟨o2, e2, _⟩ := id L.it2
  refine ⟨n1.at fun o e => k2 _ _ (sn i1 (by simp)) e, n2.at fun o e => k2 _ _ (sn i2 (by simp)) e, ?_, ?_, up _ _ D.TIz D.TITO D.TIi1 D.TIi2 (sn TI (by simp)) L.ti, .inr ?_, hS2, ?_, ?_, ?_, fun T hT => ?_, Nat.le_trans L.big (Nat.le_trans sz sz2), fun j T hj => ?_, fun c o e => ?_⟩
  · exact L.a.at fun o e => up _ _ D.l1z D.l1TO D.l1i1 D.l1i2 (sn l1 (by simp)) e
  · exact L.b.at fun o e => up _ _ D.l2z D.l2TO D.l2i1 D.l2i2 (sn l2 (by simp)) e
  · obtain ⟨T, b, q, hT⟩ := zz
    refine ⟨T, b, k2 _ _ (sn z (by simp)) q, ?_⟩
    rcases hT with rfl | hT
    · exact List.mem_append_right _ (List.mem_singleton_self _)
    · exact List.mem_append_left _ hT
  · rw [List.length_append, L.n]
    rfl
  · obtain ⟨o, e⟩ := hTO
    exact ⟨o, k2 _ _ (sn TO (by simp)) e⟩
  · rw [List.nodup_append]
    refine ⟨L.nd, by simp, fun a ha b hb => ?_⟩
    rw [List.mem_singleton.mp hb]
    obtain ⟨o, e⟩ := fr a ha
    exact size_fresh e
  · rcases List.mem_append.mp hT with hT | hT
    · exact L.new T hT
    · have e := List.mem_singleton.mp hT
      subst e
      refine ⟨L.big, ?_⟩
      · simp only [List.mem_cons, List.not_mem_nil, or_false, not_or]
        obtain ⟨o, eo⟩ := L.to
        exact ⟨(size_fresh zh).symm, (size_fresh L.ti).symm, (size_fresh eo).symm, (size_fresh e1).symm, (size_fresh e2).symm, (size_fresh hS).symm⟩
  · by_cases hlt : j < ts.length
    · rw [List.getElem?_append_left hlt] at hj
      obtain ⟨x, y, a1, a2, q⟩ := L.at_ j T hj
      have t := tne T (List.mem_of_getElem? hj)
      exact ⟨x, y, a1, a2, up _ _ t.1 t.2.2.1 t.2.2.2.1 t.2.2.2.2.1 t.2.2.2.2.2 q⟩
    · rw [List.getElem?_append_right (by omega)] at hj
      have ej : j = ts.length := by
        have := lt_of_get hj
        simp at this
        omega
      subst ej
      rw [Nat.sub_self] at hj
      cases hj
      rw [L.n]
      exact ⟨x, y, hx, hy, k2 _ _ (size_fresh hS).symm p⟩
  · have nn : ∀ d, d = z ∨ d = TI ∨ d = TO ∨ d = i1 ∨ d = i2 ∨ d = S → c ≠ d := fun d hd z0 => by
      subst z0
      have := ap.nw c (by simpa using hd)
      rw [this] at e
      cases e
    exact up c o (nn z (by simp)) (nn TO (by simp)) (nn i1 (by simp)) (nn i2 (by simp)) (nn S (by simp)) (L.keep c o e)
theorem zip_loop {R : Result → Shared → Prop} {z TI TO i1 i2 l1 l2 S : Addr} {xs ys : Array Value} {h0 : Heap} {res : Value} (hh : A.in1.handled = none) (ap : ZApart z TI TO i1 i2 l1 l2 S h0) (same : xs.size = ys.size) (few : xs.size ≤ 1000) :
    ∀ (k i : Nat) (s : Shared) (ts : List Addr), xs.size - i = k → i ≤ xs.size → ZLoop z TI TO i1 i2 l1 l2 S xs ys h0 s.heap i ts →
      (∀ (h' : Heap) (ts' : List Addr), ts'.length = xs.size → ts'.Nodup → (∀ T ∈ ts', h0.objs.size ≤ T ∧ T ≠ S) → (∀ (j : Nat) (T : Addr), ts'[j]? = some T → ∃ x y, xs[j]? = some x ∧ ys[j]? = some y ∧ IsPair h' T x y) → (∃ c, h'.get? S = some { cls := .type "list", dict := none, data := .seq (ts'.map Value.ref).toArray c, slots := #[] }) →
        (∀ c o, h0.get? c = some o → h'.get? c = some o) → R (.ok (.ret res)) { s with heap := h' }) → codeAny (model prog w) A (.builtin "list.extend.loop" ⟨[.ref S, .ref z, res], []⟩) R s := by
  have D := ap.D
  have sn : ∀ c, c = z ∨ c = TI ∨ c = TO ∨ c = i1 ∨ c = i2 ∨ c = l1 ∨ c = l2 → c ≠ S := fun c hc => ap.sn c (by simpa using hc)
  intro k
  induction k with
  | zero =>
    intro i s ts hk hi L hR
    have ei : i = xs.size := by omega
    subst ei
    refine codeAny_builtin F.entry_extend_loop ?_
    rw [Around.under_plainId F.plain_extend_loop _]
    show wpAny _ A.in1 (pyNext (.ref z) >>= _) _ _ s
    have out : xs[xs.size]? = none := by simp
    have fin : ∀ h', (∀ c o, c ≠ z → c ≠ TO → c ≠ i1 → c ≠ i2 → s.heap.get? c = some o → h'.get? c = some o) → R (.ok (.ret res)) { s with heap := h' } := fun h' k => by
      refine hR h' ts L.n L.nd (fun T hT => ⟨(L.new T hT).1, ?_⟩) (fun j T hj => ?_) ?_ (fun c o e => ?_)
      · have q := (L.new T hT).2
        simp only [List.mem_cons, List.not_mem_nil, or_false, not_or] at q
        exact q.2.2.2.2.2
      · obtain ⟨x, y, a1, a2, q⟩ := L.at_ j T hj
        have t := (L.new T (List.mem_of_getElem? hj)).2
        simp only [List.mem_cons, List.not_mem_nil, or_false, not_or] at t
        exact ⟨x, y, a1, a2, k _ _ t.1 t.2.2.1 t.2.2.2.1 t.2.2.2.2.1 q⟩
      · obtain ⟨c, e⟩ := L.sl
        exact ⟨c, k S _ (sn z (by simp)).symm (sn TO (by simp)).symm (sn i1 (by simp)).symm (sn i2 (by simp)).symm e⟩
      · have nn : ∀ d, d = z ∨ d = TI ∨ d = TO ∨ d = i1 ∨ d = i2 ∨ d = S → c ≠ d := fun d hd z0 => by
          subst z0
          have := ap.nw c (by simpa using hd)
          rw [this] at e
          cases e
        exact k c o (nn z (by simp)) (nn TO (by simp)) (nn i1 (by simp)) (nn i2 (by simp)) (L.keep c o e)
    rcases L.zz with ⟨hz, hTO⟩ | ⟨T, b, hz, hT⟩
    · exact wpAny_bind (wpAny_pyNext_zip_end (by simpa using hh) D hz L.ti hTO L.it1 L.it2 L.a L.b (.inl out) fun h' k => wpAny_pure (fin h' k))
    · have ty : s.TypeIs (.ref z) "zip" := ⟨_, hz, rfl⟩
      have ho : ∃ o, s.heap.get? T = some o := by
        obtain ⟨j, hj⟩ := List.getElem?_of_mem hT
        obtain ⟨x, y, _, _, q⟩ := L.at_ j T hj
        exact ⟨_, q⟩
      unfold pyNext
      refine wpAny_bind (wpAny_bind (wpAny_attempt (wpAny_callSpecial?_slot (name := Str.ofString "__next__") ty F.slot_zip_next (wpAny_call_entry F.slot_zip_next ty F.entry_zip_next (zip1_end (by simpa using hh) D hz ho L.ti L.it1 L.a out fun h' e k he => ?_) (F.args_zip_next_1 _)))))
      obtain ⟨o, e1, e2⟩ := he
      exact wpAny_bind (wpAny_isInstance (T := "StopIteration") (b := true) ⟨o, e1, e2⟩ isSubtype_stop (wpAny_pure (wpAny_pure (fin h' fun c o a1 a2 a3 a4 q => k c o a1 a3 a4 q))))
  | succ k ih =>
    intro i s ts hk hi L hR
    have lt : i < xs.size := by omega
    have hx : xs[i]? = some xs[i] := by simp [lt]
    have hy : ys[i]? = some (ys[i]'(by omega)) := by simp [show i < ys.size by omega]
    refine codeAny_builtin F.entry_extend_loop ?_
    rw [Around.under_plainId F.plain_extend_loop _]
    show wpAny _ A.in1 (pyNext (.ref z) >>= _) _ _ s
    have go : ∀ h1, ZLoop z TI TO i1 i2 l1 l2 S xs ys h0 s.heap i ts → h1.IsListIter i1 l1 (i + 1) → h1.IsListIter i2 l2 (i + 1) → IsPair h1 s.heap.objs.size xs[i] (ys[i]'(by omega)) → (∃ o, h1.get? TO = some o) → (∃ T k, IsZip1 h1 z TI TO T k ∧ (T = s.heap.objs.size ∨ T ∈ ts)) →
        (∀ c o, c ≠ z → c ≠ TO → c ≠ i1 → c ≠ i2 → s.heap.get? c = some o → h1.get? c = some o) → s.heap.objs.size ≤ h1.objs.size →
        wpAny (model prog w) A.in1 (updateSeq S (·.push (.ref s.heap.objs.size)) >>= fun _ => again (.builtin "list.extend.loop" ⟨[.ref S, .ref z, res], []⟩)) (fun fin s' => match fin with | .done f => R (.ok f) s' | .again c' => c'.quiet = true ∧ codeAny (model prog w) A c' R s') (fun e s' => R (.error e) s') { s with heap := h1 } := fun h1 L n1 n2 p hTO zz k sz => by
      obtain ⟨c, hS, next⟩ := L.step ap n1 n2 p hTO hx hy zz k sz
      refine wpAny_bind (wpAny_updateSeq hS rfl (wpAny_pure ⟨plainId_quiet F.plain_extend_loop _, ih (i + 1) _ (ts ++ [s.heap.objs.size]) (by omega) lt (next _ ?_ (fun c o hc e => ?_) (by rw [Heap.size_update]; exact Nat.le_refl _)) fun h' ts' => hR h' ts'⟩) ?_ ?_)
      · have q := Heap.get?_update_self (Obj.mapSeq (·.push (.ref s.heap.objs.size))) hS rfl
        have e : ((ts ++ [s.heap.objs.size]).map Value.ref).toArray = (ts.map Value.ref).toArray.push (.ref s.heap.objs.size) := by simp
        rw [e]
        exact ⟨_, q⟩
      · exact (Heap.get?_update_other _ _ (Ne.symm hc)).trans e
      · show (ts.map Value.ref).toArray.size ≤ sizeLine
        rw [List.size_toArray, List.length_map, L.n, sizeLine_eq]
        omega
      · show ((ts.map Value.ref).toArray.push _).size ≤ sizeLine + 1
        rw [Array.size_push, List.size_toArray, List.length_map, L.n, sizeLine_eq]
        omega
    rcases L.zz with ⟨hz, hTO⟩ | ⟨T, b, hz, hT⟩
    · exact wpAny_bind (wpAny_pyNext_zip_item D hz L.ti hTO L.it1 L.it2 L.a L.b hx hy fun h1 z1 t1 n1 n2 p sz k => go h1 L n1 n2 p ⟨_, t1⟩ ⟨_, false, z1, .inl rfl⟩ k (by rw [sz]; exact Nat.le_succ _))
    · have ty : s.TypeIs (.ref z) "zip" := ⟨_, hz, rfl⟩
      have ho : ∃ o, s.heap.get? T = some o := by
        obtain ⟨j, hj⟩ := List.getElem?_of_mem hT
        obtain ⟨x, y, _, _, q⟩ := L.at_ j T hj
        exact ⟨_, q⟩
      obtain ⟨oT, eT⟩ := L.to
      unfold pyNext
      exact wpAny_bind (wpAny_bind (wpAny_attempt (wpAny_callSpecial?_slot (name := Str.ofString "__next__") ty F.slot_zip_next (wpAny_call_entry F.slot_zip_next ty F.entry_zip_next (zip1_item D hz ho L.ti L.it1 L.it2 L.a L.b hx hy fun h1 z1 n1 n2 p sz k => wpAny_pure (go h1 L n1 n2 p ⟨oT, k _ _ D.TOz D.TOi1 D.TOi2 eT⟩ ⟨T, true, z1, .inr hT⟩ (fun c o a1 a2 a3 a4 q => k c o a1 a3 a4 q) (by rw [sz]; exact Nat.le_succ _))) (F.args_zip_next_1 _)))))
end
end DZ
namespace DZ
open PySem PySem.Spec PyProof.Rows L2 DL
section
variable {prog : Program} {w : World} {A : Around} {E : Value → Shared → Prop} {s : Shared}
theorem call_listZip {z TI TO i1 i2 l1 l2 : Addr} {xs ys : Array Value} {h0 : Heap} {Q : Value → Shared → Prop} (hh : A.handled = none) (D : ZipApart z TI TO i1 i2 l1 l2) (nw : ∀ c ∈ [z, TI, TO, i1, i2], h0.get? c = none) (same : xs.size = ys.size) (few : xs.size ≤ 1000)
    (it1 : s.heap.IsListIter i1 l1 0) (it2 : s.heap.IsListIter i2 l2 0) (a : s.heap.IsList l1 xs) (b : s.heap.IsList l2 ys) (ti : IsPair s.heap TI (.ref i1) (.ref i2)) (hz : IsZip s.heap z TI TO .none) (hTO : IsPair s.heap TO .none .none) (keep : ∀ c o, h0.get? c = some o → s.heap.get? c = some o) (big : h0.objs.size ≤ s.heap.objs.size)
    (hQ : ∀ (h' : Heap) (ts : List Addr), ts.length = xs.size → ts.Nodup → (∀ T ∈ ts, h0.objs.size ≤ T ∧ T ≠ s.heap.objs.size) → (∀ (j : Nat) (T : Addr), ts[j]? = some T → ∃ x y, xs[j]? = some x ∧ ys[j]? = some y ∧ IsPair h' T x y) →
      (∃ c, h'.get? s.heap.objs.size = some { cls := .type "list", dict := none, data := .seq (ts.map Value.ref).toArray c, slots := #[] }) → (∀ c o, h0.get? c = some o → h'.get? c = some o) → Q (.ref s.heap.objs.size) { s with heap := h' }) :
    wpAny (model prog w) A (PySem.call (.type "list") [.ref z]) Q E s := by
  refine callType_codes (Q₁ := fun obj s1 => obj = .ref s.heap.objs.size ∧ s1 = { s with heap := s.heap.push { cls := .type "list", data := .seq #[] } }) F.called_list (F.typeCall_list_1 _) F.entry_list_init (code_list_new _ ⟨rfl, rfl⟩) fun obj s1 got => ?_
  obtain ⟨rfl, rfl⟩ := got
  have there : (s.heap.push { cls := .type "list", data := .seq #[] }).get? s.heap.objs.size = some { cls := .type "list", data := .seq #[] } := Heap.get?_push_size _ rfl
  refine ⟨⟨_, there, rfl⟩, F.args_list_init_2 _ _, ?_⟩
  obtain ⟨o1, e1, _⟩ := id it1
  obtain ⟨o2, e2, _⟩ := id it2
  obtain ⟨o3, e3, _⟩ := id a
  obtain ⟨o4, e4, _⟩ := id b
  have ap : ZApart z TI TO i1 i2 l1 l2 s.heap.objs.size h0 := by
    refine ⟨D, fun c hc => ?_, fun c hc => ?_⟩
    · simp only [List.mem_cons, List.not_mem_nil, or_false] at hc
      rcases hc with h | h | h | h | h | h
      · exact nw c (by simp [h])
      · exact nw c (by simp [h])
      · exact nw c (by simp [h])
      · exact nw c (by simp [h])
      · exact nw c (by simp [h])
      · subst h
        cases q : h0.get? s.heap.objs.size with
        | none => rfl
        | some o => exact absurd rfl (size_fresh (keep _ _ q))
    · simp only [List.mem_cons, List.not_mem_nil, or_false] at hc
      rcases hc with h | h | h | h | h | h | h <;> subst h
      · exact size_fresh hz
      · exact size_fresh ti
      · exact size_fresh hTO
      · exact size_fresh e1
      · exact size_fresh e2
      · exact size_fresh e3
      · exact size_fresh e4
  have oth : ∀ c o, c ≠ s.heap.objs.size → s.heap.get? c = some o → ∀ h2 : Heap, (∀ c o, c ≠ s.heap.objs.size → (s.heap.push { cls := .type "list", data := .seq #[] }).get? c = some o → h2.get? c = some o) → h2.get? c = some o := fun c o hc e h2 k => k c o hc (Heap.get?_push_of_some _ e)
  show wpAny _ A.in1.in1 (do let old ← Builtin.List.listItems (.ref s.heap.objs.size); Builtin.List.listUpdate (.ref s.heap.objs.size) (fun _ => #[]); letGo old.toList.reverse; Builtin.List.listExtendWith (.ref s.heap.objs.size) (.ref z) .none) _ _ _
  refine wpAny_bind ?_
  unfold Builtin.List.listItems
  refine wpAny_bind (wpAny_seqItems there rfl (wpAny_pure ?_))
  show wpAny _ A.in1.in1 (updateSeq s.heap.objs.size (fun _ => #[]) >>= fun _ => letGo (#[] : Array Value).toList.reverse >>= fun _ => Builtin.List.listExtendWith (.ref s.heap.objs.size) (.ref z) .none) _ _ _
  refine wpAny_bind (wpAny_updateSeq there rfl ?_)
  have there2 := Heap.get?_update_self (Obj.mapSeq (fun _ => (#[] : Array Value))) there rfl
  refine wpAny_bind (wpAny_letGo ?_)
  unfold Builtin.List.listExtendWith
  have zAt : ((s.heap.push { cls := .type "list", data := .seq #[] }).update s.heap.objs.size (Obj.mapSeq (fun _ => (#[] : Array Value)))).get? z = some { cls := .type "zip", dict := none, data := .fields #[.none, .bool false, .bool false, .ref TI, .ref TO], slots := #[] } :=
    (Heap.get?_update_other _ _ (Ne.symm (size_fresh hz))).trans (Heap.get?_push_of_some _ hz)
  refine wpAny_bind (wpAny_typeOf (T := "zip") ⟨_, zAt, rfl⟩ ?_)
  have q1 : Builtin.List.listSameRef (.ref s.heap.objs.size) (.ref z) = false := by simp [Builtin.List.listSameRef, (size_fresh hz).symm]
  have q2 : (Value.type "zip" == Value.type "list") = false := by decide
  have q3 : (Value.type "zip" == Value.type "tuple") = false := by decide
  simp only [q1, q2, q3, Bool.or_false, Bool.false_eq_true, if_false]
  refine wpAny_bind (wpAny_pyIter_zip zAt (wpAny_bind (wpAny_holding ?_)))
  unfold Builtin.List.listLengthHint
  refine wpAny_bind (wpAny_specialOf (T := "zip") ⟨_, zAt, rfl⟩ nolen_zip ?_)
  show wpAny _ A.in1.in1 (specialOf (Value.ref z) (Str.ofString "__length_hint__") >>= _) _ _ _
  refine wpAny_bind (wpAny_specialOf (T := "zip") ⟨_, zAt, rfl⟩ nohint_zip (wpAny_pure ?_))
  show wpAny _ A.in1.in1 (rule "list.extend.makes-room" >>= fun _ => Builtin.List.listTouch (.ref s.heap.objs.size) >>= fun _ => again (.builtin "list.extend.loop" ⟨[.ref s.heap.objs.size, .ref z, .none], []⟩)) _ _ _
  refine wpAny_bind (wpAny_rule (wpAny_bind ?_))
  show wpAny _ A.in1.in1 (updateSeq s.heap.objs.size (·.push .none) >>= fun _ => updateSeq s.heap.objs.size (·.pop)) _ _ _
  refine wpAny_bind (wpAny_updateSeq there2 rfl ?_)
  have there3 := Heap.get?_update_self (Obj.mapSeq (·.push Value.none)) there2 rfl
  refine wpAny_updateSeq (hz := by seq_fits) there3 rfl ?_
  have there4 := Heap.get?_update_self (Obj.mapSeq (·.pop)) there3 rfl
  have up : ∀ c o, c ≠ s.heap.objs.size → s.heap.get? c = some o → ((((s.heap.push { cls := .type "list", data := .seq #[] }).update s.heap.objs.size (Obj.mapSeq (fun _ => (#[] : Array Value)))).update s.heap.objs.size (Obj.mapSeq (·.push Value.none))).update s.heap.objs.size (Obj.mapSeq (·.pop))).get? c = some o := fun c o hc e =>
    (Heap.get?_update_other _ _ (Ne.symm hc)).trans ((Heap.get?_update_other _ _ (Ne.symm hc)).trans ((Heap.get?_update_other _ _ (Ne.symm hc)).trans (Heap.get?_push_of_some _ e)))
  refine wpAny_pure ⟨plainId_quiet F.plain_extend_loop _, zip_loop (A := A.in1) (by simp [hh]) ap same few _ 0 _ [] rfl (Nat.zero_le _) ⟨?_, ?_, ?_, ?_, ?_, .inl ⟨?_, ?_⟩, ⟨_, there4⟩, rfl, ⟨_, up _ _ (size_fresh hTO) hTO⟩, List.nodup_nil, fun T h => (nomatch h), Nat.le_trans big ?_, fun j T h => (nomatch h), fun c o e => ?_⟩ fun h' ts n1 n2 n3 n4 n5 n6 => ⟨rfl, hQ h' ts n1 n2 n3 n4 n5 n6⟩⟩
  · exact it1.at fun o e => up _ _ (size_fresh e1) e
  · exact it2.at fun o e => up _ _ (size_fresh e2) e
  · exact a.at fun o e => up _ _ (size_fresh e3) e
  · exact b.at fun o e => up _ _ (size_fresh e4) e
  · exact up _ _ (size_fresh ti) ti
  · exact up _ _ (size_fresh hz) hz
  · exact up _ _ (size_fresh hTO) hTO
  · show s.heap.objs.size ≤ _
    rw [Heap.size_update, Heap.size_update, Heap.size_update, Heap.size_push]
    exact Nat.le_succ _
  · refine up c o ?_ (keep c o e)
    exact size_fresh (keep c o e)
end
end DZ

namespace DZ
open PySem PySem.Spec PyProof.Rows L2 DL
/-- list(zip(a, b)), two lists of one length: new pairs -/
def tLz (K : PySem.W.Frag) (ta : TA) : TE := fun σ H Q => ta σ H fun vs H1 => ∃ a b xs ys, vs = [.ref a, .ref b] ∧ SqL K H1 a xs ∧ SqL K H1 b ys ∧ xs.length = ys.length ∧ xs.length ≤ 1000 ∧
  ∀ (S : Addr) (ts : List Addr) (H2 : Hp), H1 S = none → ts.length = xs.length → ts.Nodup → S ∉ ts → (∀ T ∈ ts, H1 T = none) → (∀ c, c ≠ S → c ∉ ts → H2 c = H1 c) → H2 S = some (.lst (ts.map V.ref)) → (∀ (j : Nat) (T : Addr), ts[j]? = some T → ∃ x y, xs[j]? = some x ∧ ys[j]? = some y ∧ H2 T = some (.tup [x, y])) → Q (.ref S) H2
theorem vals_getV : ∀ {xs : List V} {us : List Value} {i : Nat} {u : Value}, Vals xs us → us[i]? = some u → ∃ x, xs[i]? = some x ∧ RelV x u
  | _, _, i, u, .nil, e => by simp at e
  | _, _, 0, u, .cons r _, e => by
    cases e
    exact ⟨_, rfl, r⟩
  | _, _, i + 1, u, .cons _ t, e => vals_getV (i := i) t e
theorem vals_refs : ∀ ts : List Addr, Vals (ts.map V.ref) (ts.map Value.ref)
  | [] => .nil
  | t :: ts => .cons rfl (vals_refs ts)
/-- objects that are there are tracked, one after the other -/
theorem take_pairs {X : Cx} {pn : List (Addr × Obj)} {σ : L2.St} {H0 : Hp} {s : Shared} {h' : Heap} {tk : Nat} {xs ys : List V} {us ws : List Value} (I0 : Inv X pn σ H0 s) (rx : Vals xs us) (ry : Vals ys ws) :
    ∀ (ts : List Addr) (i : Nat) (H1 : Hp), Inv X pn σ H1 { s with heap := h', toks := tk } → (∀ T ∈ ts, s.heap.objs.size ≤ T ∧ H1 T = none) → ts.Nodup → (∀ (j : Nat) (T : Addr), ts[j]? = some T → ∃ x y, us[i + j]? = some x ∧ ws[i + j]? = some y ∧ IsPair h' T x y) →
      ∃ H2, Inv X pn σ H2 { s with heap := h', toks := tk } ∧ (∀ c, c ∉ ts → H2 c = H1 c) ∧ ∀ (j : Nat) (T : Addr), ts[j]? = some T → ∃ x y, xs[i + j]? = some x ∧ ys[i + j]? = some y ∧ H2 T = some (.tup [x, y])
  | [], i, H1, I1, _, _, _ => ⟨H1, I1, fun _ _ => rfl, fun j T h => nomatch h⟩
  | T :: ts, i, H1, I1, h, nd, at_ => by
    obtain ⟨le, free⟩ := h T List.mem_cons_self
    obtain ⟨nT, nd⟩ := List.nodup_cons.mp nd
    obtain ⟨u, v, eu, ev, p⟩ := at_ 0 T rfl
    rw [Nat.add_zero] at eu ev
    obtain ⟨x, ex, r1⟩ := vals_getV rx eu
    obtain ⟨y, ey, r2⟩ := vals_getV ry ev
    have I2 : Inv X pn σ (upd H1 T (.tup [x, y])) { s with heap := h', toks := tk } := I1.take (h' := h') (t' := tk) (fun b ob _ e => e) (I0.fpOk le free) ⟨by show 2 ≤ sizeLine; decide, [u, v], .cons r1 (.cons r2 .nil), ⟨_, p, rfl, _, rfl⟩⟩
    obtain ⟨H2, I3, k, q⟩ := take_pairs I0 rx ry ts (i + 1) _ I2 (fun T' hT => ⟨(h T' (List.mem_cons_of_mem _ hT)).1, by rw [upd_ne (fun z => nT (by rw [← z]; exact hT))]; exact (h T' (List.mem_cons_of_mem _ hT)).2⟩) nd fun j T' hj => by
      obtain ⟨x, y, a1, a2, a3⟩ := at_ (j + 1) T' hj
      rw [show i + (j + 1) = i + 1 + j by omega] at a1 a2
      exact ⟨x, y, a1, a2, a3⟩
    refine ⟨H2, I3, fun c hc => ?_, fun j T' hj => ?_⟩
    · rw [k c fun z => hc (List.mem_cons_of_mem _ z), upd_ne (fun z => hc (by rw [z]; exact List.mem_cons_self))]
    · cases j with
      | zero =>
        cases hj
        rw [Nat.add_zero]
        refine ⟨x, y, ex, ey, ?_⟩
        rw [k T nT]
        exact upd_same
      | succ j =>
        obtain ⟨x, y, a1, a2, a3⟩ := q j T' hj
        rw [show i + 1 + j = i + (j + 1) by omega] at a1 a2
        exact ⟨x, y, a1, a2, a3⟩
theorem pe_lz {X : Cx} {e e2 : Expr} {ta : TA} {p p2 pos pos2 : Pos} (calm : X.calm = true) (hg : Gl X "zip") (hm : X.mg "zip" = none) (hgl : Gl X "list") (hml : X.mg "list" = none) (ha : PA X [e, e2] ta)
    (hs : starEach [e, e2] X.env = (false, eval e X.env) :: starEach [e2] X.env := by rfl) (hpl : (backTo pos (starEach [e2] X.env)).any (·.1) = false := by rfl) :
    PE X (.Call (.Name "list" p) [.Call (.Name "zip" p2) [e, e2] [] pos] [] pos2) (tLz X.K ta) := by
  refine ⟨fun pn s σ H Q I want => ?_⟩
  refine Call_ (ld_blt I hgl hml PyProof.Rows.boot_list (PyProof.Rows.callWith_type1 (PyProof.Rows.args_cons (Call_ (ld_blt I hg hm PyProof.Rows.boot_zip (PyProof.Rows.callWith_type1 (thn (ha.run pos pn s σ H _ I want) fun us s1 got => ?_) hs hpl))))))
  obtain ⟨vs, H1, I1, r1, a, b, xs, ys, ex, qa, qb, same, few, q⟩ := got
  subst ex
  cases r1 with
  | cons r rr =>
    cases rr with
    | cons r' rr =>
      cases rr
      cases r
      cases r'
      obtain ⟨its, rv, p1, _⟩ := I1.list qa
      obtain ⟨its2, rv2, p2, _⟩ := I1.list qb
      refine call_zip_2 p1.isList p2.isList fun h' hz hTI hTO h1 h2 hsz hk => PyProof.Rows.args_nil ?_
      have e1 := rv.length
      have e2 := rv2.length
      refine call_listZip (h0 := s1.heap) (I1.ok.hd calm) (PySem.W.ktu_apart s1.heap.objs.size a b p1.lt p2.lt) (fun c hc => ?_) (by simp; omega) (by simp; omega) h1 h2 (p1.isList.at fun o e => hk _ _ e) (p2.isList.at fun o e => hk _ _ e) hTI hz hTO hk (by rw [hsz]; exact Nat.le_add_right _ _) fun h3 ts n1 n2 n3 n4 n5 n6 => ?_
      · have old : s1.heap.objs.size ≤ c := by
          simp only [List.mem_cons, List.not_mem_nil, or_false] at hc
          rcases hc with h | h | h | h | h <;> rw [h] <;> first | exact Nat.le_refl _ | exact Nat.le_add_right _ _
        cases q : s1.heap.get? c with
        | none => rfl
        | some o => exact absurd (Heap.lt_size q) (Nat.not_lt.mpr old)
      · have I2 : Inv X pn σ H1 { s1 with heap := h3 } := I1.kept (t' := s1.toks) n6
        have fresh : ∀ T ∈ ts, s1.heap.objs.size ≤ T ∧ H1 T = none := fun T hT => ⟨(n3 T hT).1, I1.hok.fresh (n3 T hT).1⟩
        obtain ⟨c, hS⟩ := n5
        have freeS : H1 (s1.heap.objs.size + 5) = none := I1.hok.fresh (Nat.le_add_right _ _)
        obtain ⟨H2, I3, k3, q3⟩ := take_pairs (h' := h3) (tk := s1.toks) I1 rv rv2 ts 0 H1 I2 fresh n2 fun j T hj => by
          obtain ⟨x, y, a1, a2, a3⟩ := n4 j T hj
          rw [Nat.zero_add]
          exact ⟨x, y, by simpa using a1, by simpa using a2, a3⟩
        rw [hsz] at hS n3
        have nS : s1.heap.objs.size + 5 ∉ ts := fun z => (n3 _ z).2 rfl
        have I4 : Inv X pn σ (upd H2 (s1.heap.objs.size + 5) (.lst (ts.map V.ref))) { s1 with heap := h3 } := I3.take (h' := h3) (t' := s1.toks) (fun b ob _ e => e) (I1.fpOk (Nat.le_add_right _ _) (by rw [k3 _ nS]; exact freeS)) ⟨by rw [List.length_map, n1, sizeLine_eq]; simp; omega, ts.map Value.ref, c, vals_refs ts, hS⟩
        rw [hsz]
        refine ⟨.ref _, _, I4, rfl, q _ ts _ freeS (by rw [n1]; simp [← e1]) n2 nS (fun T hT => (fresh T hT).2) (fun c hc hn => ?_) upd_same fun j T hj => ?_⟩
        · rw [upd_ne hc, k3 c hn]
        · obtain ⟨x, y, a1, a2, a3⟩ := q3 j T hj
          rw [Nat.zero_add] at a1 a2
          refine ⟨x, y, a1, a2, ?_⟩
          rw [upd_ne (fun z => nS (by rw [← z]; exact List.mem_of_getElem? hj))]
          exact a3
end DZ
set_option Elab.async false
set_option linter.all false
set_option maxRecDepth 100000
set_option maxHeartbeats 4000000
namespace DL
open PySem PySem.Spec PyProof.Rows L2
/-! ### sorted, without repetition -/
def ins (x : Int) : List Int → List Int
  | [] => [x]
  | y :: r => if x < y then x :: y :: r else if x = y then y :: r else y :: ins x r
def uq : List Int → List Int
  | [] => []
  | x :: r => ins x (uq r)
theorem mem_ins {x k : Int} : ∀ {l : List Int}, k ∈ ins x l ↔ k = x ∨ k ∈ l
  | [] => by simp [ins]
  | y :: r => by
    unfold ins
    by_cases h1 : x < y
    · rw [if_pos h1]; simp
    · rw [if_neg h1]
      by_cases h2 : x = y
      · rw [if_pos h2]; subst h2; simp
      · rw [if_neg h2, List.mem_cons, mem_ins, List.mem_cons]
        constructor
        · rintro (h | h | h)
          · exact .inr (.inl h)
          · exact .inl h
          · exact .inr (.inr h)
        · rintro (h | h | h)
          · exact .inr (.inl h)
          · exact .inl h
          · exact .inr (.inr h)
theorem mem_uq {k : Int} : ∀ {l : List Int}, k ∈ uq l ↔ k ∈ l
  | [] => by simp [uq]
  | x :: r => by unfold uq; rw [mem_ins, mem_uq, List.mem_cons]
theorem ins_lt {x : Int} : ∀ {l : List Int}, l.Pairwise (· < ·) → (ins x l).Pairwise (· < ·)
  | [], _ => by simp [ins]
  | y :: r, h => by
    obtain ⟨h1, h2⟩ := List.pairwise_cons.mp h
    unfold ins
    by_cases c1 : x < y
    · rw [if_pos c1]
      refine List.pairwise_cons.mpr ⟨fun z hz => ?_, h⟩
      rcases List.mem_cons.mp hz with rfl | hz
      · exact c1
      · have := h1 z hz
        omega
    · rw [if_neg c1]
      by_cases c2 : x = y
      · rw [if_pos c2]; exact h
      · rw [if_neg c2]
        refine List.pairwise_cons.mpr ⟨fun z hz => ?_, ins_lt h2⟩
        rcases mem_ins.mp hz with rfl | hz
        · omega
        · exact h1 z hz
theorem uq_lt : ∀ (l : List Int), (uq l).Pairwise (· < ·)
  | [] => List.Pairwise.nil
  | x :: r => ins_lt (uq_lt r)
theorem lt_ext : ∀ {a b : List Int}, a.Pairwise (· < ·) → b.Pairwise (· < ·) → (∀ k, k ∈ a ↔ k ∈ b) → a = b
  | [], [], _, _, _ => rfl
  | [], y :: r, _, _, h => absurd ((h y).mpr List.mem_cons_self) (by simp)
  | x :: r, [], _, _, h => absurd ((h x).mp List.mem_cons_self) (by simp)
  | x :: r, y :: t, ha, hb, h => by
    obtain ⟨a1, a2⟩ := List.pairwise_cons.mp ha
    obtain ⟨b1, b2⟩ := List.pairwise_cons.mp hb
    have exy : x = y := by
      rcases List.mem_cons.mp ((h x).mp List.mem_cons_self) with e | e
      · exact e
      · rcases List.mem_cons.mp ((h y).mpr List.mem_cons_self) with e2 | e2
        · exact e2.symm
        · have q1 := b1 x e
          have q2 := a1 y e2
          omega
    subst exy
    rw [lt_ext a2 b2 fun k => ?_]
    constructor
    · intro hk
      rcases List.mem_cons.mp ((h k).mp (List.mem_cons_of_mem _ hk)) with e | e
      · have := a1 k hk
        omega
      · exact e
    · intro hk
      rcases List.mem_cons.mp ((h k).mpr (List.mem_cons_of_mem _ hk)) with e | e
      · have := b1 k hk
        omega
      · exact e
theorem uq_self {l : List Int} (h : l.Pairwise (· < ·)) : uq l = l := lt_ext (uq_lt l) h fun _ => mem_uq
def srt (l : List Int) : List Int := l.mergeSort fun a b => decide (a ≤ b)

/-! ### sets -/
def rS (w : World) (ns : List Int) : Res := fun _ _ H' v => ∃ p n, v = .ref p ∧ H' p = some (SetO w p (fun j => decide (j ∈ ns)) n) ∧ n ≤ ns.length
section
variable {G : Gm} {a b c e elt tg iter : Expr} {es : List Expr} {δ : Sto} {d d1 d2 : PyData} {ds : List PyData} {R Ra : Res} {pos p p2 pos2 : Pos} {x : Str} {k : Bool} {ns : List Int} {scope : Scope} {js : List Nat}
theorem b1R {id : String} {r : List V → Hp → VK → Prop} (hc : ∀ X, XOk G X → CallR X (.builtin id) r) (hx : x ∈ BI) (hg : G.sc.names.lookup x = some .globalImplicit) (hv : bootBuiltins x = some (.builtin id)) (ha : DP G a δ Ra) (bk : Back R)
    (hr : ∀ H0 F H v (Q : VK), Same F H → Ra H0 F H v → (∀ v F' H', Grow F H F' H' → R H F' H' v → Q v H') → r [v] H Q) (hs : ∀ env, starEach [a] env = [(false, eval a env)])
    (hn : x ≠ "__name__") (hdb : (x == ("__debug__" : Str)) = false) : DP G (.Call (.Name x p) [a] [] pos) δ R :=
  dp_of fun X hX => ⟨_, pe_callB (hc X hX) (by unfold Gl Env.kindOf; rw [hX.sc]; exact hg) (bi_glob hx hX) hv (pa_cons pe_m pa_nil (hs X.env)) hn hdb (hs X.env) rfl, fun F0 H0 F H σ S Q q => ha X hX F0 H0 F H σ S _ fun v F1 H1 g1 r1 => hr H F1 H1 v Q g1.sub r1 fun x F3 H3 g3 r3 => q x F3 H3 (g1.trans g3) (bk _ _ _ _ _ g1.hh r3)⟩
theorem setOf (ha : DC G a δ d) (hd : d = .list (ns.map .int) ∨ d = .tuple (ns.map .int)) (hz : ns.length ≤ 1000) (hg : G.sc.names.lookup ("set" : Str) = some .globalImplicit := by rfl) (hs : ∀ env, starEach [a] env = [(false, eval a env)] := by intro _; rfl) :
    DP G (.Call (.Name "set" p) [a] [] pos) δ (rS G.m.w ns) :=
  b1ty (r := DZ.rSetI G.m.K G.m.w) (fun X hX => hX.K ▸ hX.w ▸ DZ.cr_setI hX.calm) (by decide) hg PyProof.Rows.boot_set ha (fun _ _ _ _ _ _ r => r) (fun F H v Q s r q => by
    obtain ⟨p, xs, e, h1, h2⟩ := r.inSeq s hd
    rw [h2.ints] at h1
    exact ⟨p, ns, by rw [e], h1, hz, fun z n hz' hn => q _ F _ (Grow.newN s hz') ⟨z, n, rfl, upd_same, hn⟩⟩) hs (by decide) (by decide)
theorem setL (ha : DC G a δ (.list (ns.map .int))) (hz : ns.length ≤ 1000) (hg : G.sc.names.lookup ("set" : Str) = some .globalImplicit := by rfl) (hs : ∀ env, starEach [a] env = [(false, eval a env)] := by intro _; rfl) : DP G (.Call (.Name "set" p) [a] [] pos) δ (rS G.m.w ns) := setOf ha (.inl rfl) hz hg hs
theorem setT (ha : DC G a δ (.tuple (ns.map .int))) (hz : ns.length ≤ 1000) (hg : G.sc.names.lookup ("set" : Str) = some .globalImplicit := by rfl) (hs : ∀ env, starEach [a] env = [(false, eval a env)] := by intro _; rfl) : DP G (.Call (.Name "set" p) [a] [] pos) δ (rS G.m.w ns) := setOf ha (.inr rfl) hz hg hs
/-- sorted of a set -/
theorem sortS (ha : DP G a δ (rS G.m.w ns)) (hz : ns.length < 64) (hg : G.sc.names.lookup ("sorted" : Str) = some .globalImplicit := by rfl) (hs : ∀ env, starEach [a] env = [(false, eval a env)] := by intro _; rfl) : DN G (.Call (.Name "sorted" p) [a] [] pos) δ ((uq ns).map .int) :=
  b1R (r := rSortedSet G.m.w) (fun X hX => hX.w ▸ cr_sortedSet hX.calm) (by decide) hg (by decide +kernel) ha back_N (fun H0 F H v Q s r q => by
    obtain ⟨p, n, rfl, h1, h2⟩ := r
    refine ⟨p, _, n, rfl, h1, by omega, fun ms z hp hm _ hz' => ?_⟩
    rw [lt_ext hp (uq_lt ns) fun k => by rw [hm k, mem_uq, decide_eq_true_eq]]
    exact q _ F _ (Grow.newN s hz') ⟨z, _, rfl, hz', upd_same, s.free hz', .of_ints _⟩) hs (by decide) (by decide)
/-- {elt for tg in iter} -/
theorem setC {α : Type} {own : List (Str × Nat)} {xs : List α} {enc : α → PyData} {δ2 : α → Sto} {f : α → Int} (hi : DI G tg iter δ (xs.map enc)) (ok : blkC G.N G.sc scope own = true) (sub : ∀ j ∈ js, j ∈ own.map (·.2)) (ht : ∀ a, a ∈ xs → DG (G.blk scope) tg js (wipeD δ (own.map (·.2))) (enc a) (δ2 a))
    (he : ∀ a, a ∈ xs → DE (G.blk scope) elt (δ2 a) (.int (f a))) (hz : xs.length ≤ 1000) (hs : ∀ env x, foldedSetIterable iter env x = pure x := by intro _ _; rfl) : DP G (.SetComp elt [⟨tg, iter, [], 0⟩] scope pos) δ (rS G.m.w (xs.map f)) :=
  dp_of fun X hX => ⟨_, DZ.pe_si (ow := own) hX.calm hX.nd (pi_g hX) (by rw [hX.N, hX.sc]; exact blkOk_by ok) (fun s H C cl fp => pg_g (xok_blk hX s H scope C cl fp)) (fun s H C cl fp => pe_g (xok_blk hX s H scope C cl fp)) (hs X.env), fun F0 H0 F H σ S Q q => by
    rw [hX.w]
    refine gmi_of hi F0 H0 F H σ S _ fun J F1 H1 g1 wk D hD => ?_
    have S1 := S.grow g1
    refine ⟨fun i m H' => m = xs.length - i ∧ i ≤ xs.length ∧ ∃ F' n, Grow F1 H1 F' H' ∧ H' D = some (SetO G.m.w D (fun j => decide (j ∈ (xs.take i).map f)) n) ∧ F' D = none ∧ n ≤ i, ⟨xs.length, rfl, Nat.zero_le _, F1, 0, Grow.newN S1.sub hD, ?_, S1.sub.free hD, Nat.le_refl _⟩, ?_⟩
    · rw [upd_same]
      rfl
    rintro i m H' ⟨rfl, hi, F', n, gr, hD', hFD, hn⟩
    have lm : (xs.map enc).length = xs.length := List.length_map _
    by_cases hlt : i < xs.length
    · refine .inr ⟨wk.go i F' H' gr.ff gr.sub (by rw [lm]; exact hlt), fun H2 => ∃ F2 n2, Grow F1 H1 F2 H2 ∧ H2 D = some (SetO G.m.w D (fun j => decide (j ∈ (xs.take (i + 1)).map f)) n2) ∧ F2 D = none ∧ n2 ≤ i + 1, fun H2 h2 => ⟨xs.length - (i + 1), by omega, rfl, hlt, h2⟩, fun x H2 hy => ?_⟩
      obtain ⟨F2, d, g2, ed, rd⟩ := wk.yld i F' H' x H2 gr.ff gr.sub hy (by rw [lm]; exact hlt)
      have ea : xs[i]? = some xs[i] := List.getElem?_eq_getElem hlt
      rw [List.getElem?_map, ea] at ed
      have ed' : enc xs[i] = d := Option.some.inj ed
      subst ed'
      have hm : xs[i] ∈ xs := List.getElem_mem hlt
      have gA := gr.trans g2
      have S2 := (S1.grow gA).wipe (own.map (·.2))
      refine gmg_of (ht _ hm) F0 H0 F2 H2 (wipe σ _) x S2 rd _ fun σ2 S3 w => ⟨(w.mono sub).wipe, ?_⟩
      refine gm_of (he _ hm) F0 H0 F2 H2 σ2 S3 _ fun v F4 H4 g4 r4 => ?_
      have gB := g2.trans g4
      have kD : H4 D = some (SetO G.m.w D (fun j => decide (j ∈ (xs.take i).map f)) n) := gB.hh _ _ hD'
      have nD : F4 D = none := grow_none gB hD' hFD
      cases r4
      refine ⟨f xs[i], _, n, rfl, kD, by unfold scanBound; omega, F4, (if decide (f xs[i] ∈ (xs.take i).map f) = true then n else n + 1), (gA.trans g4).change hD nD, upd_same.trans ?_, nD, ?_⟩
      · congr 2
        funext j
        have tk : xs.take (i + 1) = xs.take i ++ [xs[i]] := by rw [List.take_add_one, ea]; rfl
        rw [tk, List.map_append]
        by_cases h1 : j ∈ (xs.take i).map f
        · simp [h1]
        · by_cases h2 : j = f xs[i]
          · simp [h1, h2]
          · simp [h1, h2]
      · split <;> omega
    · have ei : i = xs.length := by omega
      subst ei
      rw [List.take_length] at hD'
      exact .inl ⟨wk.stop _ F' H' gr.ff gr.sub (by rw [lm]; exact Nat.le_refl _), q _ F' H' (g1.trans gr) ⟨D, n, rfl, hD', by rw [List.length_map]; exact hn⟩⟩⟩
theorem lenN (ha : DN G a δ ds) (hg : G.sc.names.lookup ("len" : Str) = some .globalImplicit := by rfl) (hs : ∀ env, starEach [a] env = [(false, eval a env)] := by intro _; rfl) : DE G (.Call (.Name "len" p) [a] [] pos) δ (.int ds.length) := lenL (dnc ha) hg hs
/-- sorted of ints -/
theorem sortI (ha : DC G a δ (.list (ns.map .int))) (hg : G.sc.names.lookup ("sorted" : Str) = some .globalImplicit := by rfl) (hs : ∀ env, starEach [a] env = [(false, eval a env)] := by intro _; rfl) : DN G (.Call (.Name "sorted" p) [a] [] pos) δ ((srt ns).map .int) :=
  b1 (r := rSortedI G.m.K) (fun X hX => hX.K ▸ cr_sortedI) (by decide) hg (by decide +kernel) ha back_N (fun F H v Q s r q => by
    obtain ⟨p, xs, e, h1, h2⟩ := r.inList s
    rw [h2.ints] at h1
    refine ⟨p, ns, by rw [e], SqL.of h1, fun ms z hp ho hz => ?_⟩
    have em : ms = srt ns := by
      refine List.Perm.eq_of_pairwise (le := fun x y : Int => x ≤ y) (fun a b _ _ h1 h2 => Int.le_antisymm h1 h2) ho ?_ (hp.trans (List.mergeSort_perm ns _).symm)
      have := List.pairwise_mergeSort (le := fun a b : Int => decide (a ≤ b)) (fun a b c h1 h2 => by simp at *; omega) (fun a b => by simp; omega) ns
      exact this.imp fun h => by simpa using h
    subst em
    exact q _ F _ (Grow.newN s hz) ⟨z, _, rfl, hz, upd_same, s.free hz, .of_ints _⟩) hs (by decide) (by decide)
end
end DL
set_option Elab.async false
set_option linter.all false
set_option maxRecDepth 100000
set_option maxHeartbeats 4000000
namespace DL
open PySem PySem.Spec PyProof.Rows L2
/-! ### sorted of tuples -/
def dLe (a b : PyData) : Bool := PySem.W.dataLe false (fun d : PyData => d) a b
def srtD (ds : List PyData) : List PyData := ds.mergeSort dLe
/-- what may be sorted: tuples, the first empty; or tuples none of which is -/
def SrtOk (ds : List PyData) : Prop := PySem.W.AllAlike ds ∧ (∀ d ∈ ds, d.depth ≤ 10) ∧ ds.length ≤ 100000 ∧ ((∃ r, ds = .tuple [] :: r ∧ ∀ d ∈ r, ∃ xs, d = .tuple xs) ∨ ∀ d ∈ ds, ∃ x r, d = .tuple (x :: r))
def rSortD (K : PySem.W.Frag) : List V → Hp → VK → Prop := fun vs H Q => ∃ (a : Addr) (ps : List (V × PyData)), vs = [V.ref a] ∧ SqL K H a (ps.map (·.1)) ∧ (∀ p ∈ ps, Dp K H p.1 p.2) ∧ SrtOk (ps.map (·.2)) ∧
  ∀ p : Addr, H p = none → Q (.ref p) (upd H p (.lst ((ps.mergeSort fun x y => dLe x.2 y.2).map (·.1))))
theorem each_of {R : Value → V × PyData → Prop} : ∀ {ps : List (V × PyData)} {us : List Value}, Vals (ps.map (·.1)) us → (∀ p ∈ ps, ∀ u, RelV p.1 u → R u p) → PySem.W.EachIs R us ps
  | [], us, r, h => by
    cases r
    exact .nil
  | p :: ps, us, r, h => by
    cases r with
    | cons r1 r2 => exact .cons (h p List.mem_cons_self _ r1) (each_of r2 fun q hq => h q (List.mem_cons_of_mem _ hq))
theorem vals_each : ∀ {us : List Value} {ps : List (V × PyData)}, PySem.W.EachIs (fun (u : Value) (p : V × PyData) => RelV p.1 u) us ps → Vals (ps.map (·.1)) us
  | _, _, .nil => .nil
  | _, _, .cons h t => .cons h (vals_each t)
theorem cr_sortD {X : Cx} (few : X.A.units + 20 < cLine) : CallR X (.builtin "sorted") (rSortD X.K) := by
  intro pn s σ H vs us Q I r h
  obtain ⟨a, ps, rfl, hs, hd, ⟨ok1, ok2, ok3, ok4⟩, q⟩ := h
  obtain ⟨its, rv, hl, hz⟩ := I.list hs
  rw [Vals.ref1 r]
  have e1 : PySem.W.EachIs (fun (u : Value) (p : V × PyData) => RelV p.1 u) its ps := each_of rv fun p _ u h => h
  have e2 : PySem.W.EachIs (fun (u : Value) (p : V × PyData) => ∃ as, Reads s.heap u p.2 as) its ps := each_of rv fun p hp u h => Dp.reads I p.2 p.1 u (hd p hp) h
  have len : ps.length ≤ sizeLine := by
    rw [List.length_map] at hz
    exact hz
  have deep : ∀ b, b ∈ ps → X.A.units + 2 + b.2.depth < cLine := fun b hb => by
    have := ok2 b.2 (List.mem_map.mpr ⟨b, hb, rfl⟩)
    omega
  have fin : ∀ out : List Value, out.length = ps.length → PySem.W.EachIs (fun (u : Value) (p : V × PyData) => RelV p.1 u) out (ps.mergeSort (PySem.W.dataLe false fun p : V × PyData => p.2)) → EP X pn σ Q (.ref (s.heap.objs.size + 1)) { s with heap := PyProof.Rows.sortedAll s.heap its (List.toArray out) } := fun out ho eo => by
    obtain ⟨ep, at_⟩ := PyProof.Rows.sortedAll_at s.heap its out.toArray
    have le2 : ((ps.mergeSort fun x y => dLe x.2 y.2).map (·.1)).length ≤ sizeLine := by
      rw [List.length_map, List.length_mergeSort]
      exact len
    exact ⟨.ref _, _, I.laid (t' := s.toks) (o := .lst ((ps.mergeSort fun x y => dLe x.2 y.2).map (·.1))) (fun _ _ => PyProof.Rows.sortedAll_old) (Nat.le_succ _) ⟨le2, out, ep, vals_each eo, at_⟩, rfl, q _ (I.hok.fresh (Nat.le_succ _))⟩
  rcases ok4 with ⟨rest, e, tup⟩ | ne
  · cases ps with
    | nil => cases e
    | cons b0 bs =>
      obtain ⟨h0, hr⟩ := List.cons.inj e
      exact DZ.sorted_emptyFirst (b0 := b0) (bs := bs) (enc := (·.2)) hl.isList e1 e2 h0 (fun b hb => tup b.2 (by rw [← hr]; exact List.mem_map.mpr ⟨b, hb, rfl⟩)) ok1 len deep fin
  · exact PySem.W.sorted_data (enc := fun p : V × PyData => p.2) hl.isList e1 e2 ok1 (.inl ne) len deep fin
theorem zipA {K : PySem.W.Frag} {F : Hp} : ∀ {ds : List PyData} {vs : List V}, RpA K F vs ds → ∃ ps : List (V × PyData), ps.map (·.1) = vs ∧ ps.map (·.2) = ds ∧ ∀ p ∈ ps, Rp K F p.1 p.2
  | [], vs, h => by
    cases h
    exact ⟨[], rfl, rfl, fun p hp => nomatch hp⟩
  | d :: ds, vs, h => by
    cases h with
    | cons h1 h2 =>
      obtain ⟨ps, e1, e2, h3⟩ := zipA h2
      refine ⟨(_, d) :: ps, by rw [List.map_cons, e1], by rw [List.map_cons, e2], fun p hp => ?_⟩
      rcases List.mem_cons.mp hp with rfl | hp
      · exact h1
      · exact h3 p hp
theorem zipB {K : PySem.W.Frag} {F : Hp} : ∀ {ps : List (V × PyData)}, (∀ p ∈ ps, Rp K F p.1 p.2) → RpA K F (ps.map (·.1)) (ps.map (·.2))
  | [], _ => .nil
  | p :: ps, h => .cons (h p List.mem_cons_self) (zipB fun q hq => h q (List.mem_cons_of_mem _ hq))
section
variable {G : Gm} {a b c e elt tg iter : Expr} {es : List Expr} {δ : Sto} {d d1 d2 : PyData} {ds : List PyData} {R Ra : Res} {pos p p2 p3 pos2 : Pos} {x : Str} {k : Bool} {ns : List Int} {scope : Scope} {js : List Nat} {j n : Nat}
theorem room20 {X : Cx} (hX : XOk G X) : X.A.units + 20 < cLine := by
  have := hX.room.units
  omega
theorem sortD (ha : DC G a δ (.list ds)) (ok : SrtOk ds) (cl : ∀ d ∈ ds, d.canLay0 = true) (hg : G.sc.names.lookup ("sorted" : Str) = some .globalImplicit := by rfl) (hs : ∀ env, starEach [a] env = [(false, eval a env)] := by intro _; rfl) : DN G (.Call (.Name "sorted" p) [a] [] pos) δ (srtD ds) :=
  b1 (r := rSortD G.m.K) (fun X hX => hX.K ▸ cr_sortD (room20 hX)) (by decide) hg (by decide +kernel) ha back_N (fun F H v Q s r q => by
    obtain ⟨p, xs, e, h1, h2⟩ := r.inList s
    obtain ⟨ps, e1, e2, h3⟩ := zipA h2
    refine ⟨p, ps, by rw [e], by rw [e1]; exact SqL.of h1, fun p hp => Rp.dp (cl _ (by rw [← e2]; exact List.mem_map.mpr ⟨p, hp, rfl⟩)) ((h3 p hp).mono s), by rw [e2]; exact ok, fun z hz => q _ F _ (Grow.newN s hz) ⟨z, _, rfl, hz, upd_same, s.free hz, ?_⟩⟩
    have em : srtD ds = (ps.mergeSort fun x y => dLe x.2 y.2).map (·.2) := by
      unfold srtD
      rw [← e2]
      exact (List.map_mergeSort (f := fun x : V × PyData => x.2) (r := fun x y => dLe x.2 y.2) (s := dLe) fun a _ b _ => rfl).symm
    rw [em]
    exact zipB fun p hp => h3 p (List.mem_mergeSort.mp hp)) hs (by decide) (by decide)
end
end DL
set_option Elab.async false
set_option linter.all false
set_option maxRecDepth 100000
set_option maxHeartbeats 4000000
namespace DL
open PySem PySem.Spec PyProof.Rows L2
/-! ### isinstance -/
def tyD : PyData → String
  | .none => "NoneType"
  | .bool _ => "bool"
  | .int _ => "int"
  | .str _ => "str"
  | .list _ => "list"
  | .tuple _ => "tuple"
  | .dict _ => "list"
theorem tyx_of {K : PySem.W.Frag} {F H : Hp} {v : V} {d : PyData} (s : Same F H) (h : RpC K F H v d) : TyX K H v (.type (tyD d)) := by
  rcases h with h | ⟨p, xs, ds, rfl, rfl, h1, h2⟩
  · cases h with
    | non => exact .base .non
    | bl b => exact .base (.bl b)
    | int i => exact .base (.int i)
    | str x => exact .base (.str x)
    | lst h1 h2 => exact .base (.lst (s _ _ h1))
    | tup h1 h2 =>
      rcases h1 with (h | ⟨o, h⟩) | ⟨o, its, n, h, c, _⟩
      · exact .base (.tup (s _ _ h))
      · exact .fTuple (s _ _ h)
      · exact .kTuple h c
    | scr e1 h1 =>
      rcases h1 with (h | ⟨o, h⟩) | ⟨o, its, n, h, c, _⟩
      · exact .base (.lst (s _ _ h))
      · exact .base (.frz (s _ _ h))
      · exact .kList h c
  · exact .base (.lst h1)
section
variable {G : Gm} {a b c e e2 elt tg iter : Expr} {es : List Expr} {δ : Sto} {d d1 d2 : PyData} {ds es' : List PyData} {R Ra : Res} {pos p p2 p3 pos2 : Pos} {x T T2 : Str} {k k1 k2 : Bool} {ns : List Int} {scope : Scope} {js : List Nat} {j n : Nat} {lo hi : Option Int}
theorem pe_tyn {t : String} {X : Cx} (hX : XOk G X) (hx : x ∈ BI) (hg : G.sc.names.lookup x = some .globalImplicit) (hv : bootBuiltins x = some (.type t)) (hn : x ≠ "__name__") (hdb : (x == ("__debug__" : Str)) = false) : PE X (.Name x p) (tC (.ty t)) :=
  pe_bltn (by unfold Gl Env.kindOf; rw [hX.sc]; exact hg) (bi_glob hx hX) hv rfl hn hdb
/-- isinstance(a, T) -/
theorem isi (t : String) (ha : DC G a δ d) (hk : kitB (tyD d) t = some k) (hv : bootBuiltins x = some (.type t) := by decide +kernel) (hx : x ∈ BI := by decide) (hgx : G.sc.names.lookup x = some .globalImplicit := by rfl) (hg : G.sc.names.lookup ("isinstance" : Str) = some .globalImplicit := by rfl)
    (hs : ∀ env, starEach [a, .Name x p2] env = (false, eval a env) :: starEach [.Name x p2] env := by intro _; rfl) (hn : x ≠ "__name__" := by decide) (hdb : (x == ("__debug__" : Str)) = false := by decide) : DE G (.Call (.Name "isinstance" p) [a, .Name x p2] [] pos) δ (.bool k) :=
  dp_of fun X hX => ⟨_, pe_callB (hX.K ▸ call_isi) (by unfold Gl Env.kindOf; rw [hX.sc]; exact hg) (bi_glob (by decide) hX) (by decide +kernel) (pa_cons pe_m (pa_cons (pe_tyn hX hx hgx hv hn hdb) pa_nil (by rfl)) (hs X.env)) (by decide) (by decide) (hs X.env) (by rfl), fun F0 H0 F H σ S Q q => ha X hX F0 H0 F H σ S _ fun v F1 H1 g r => by
    show rIsi G.m.K [v, .ty t] H1 Q
    exact ⟨v, .ty t, _, .type t, k, rfl, .ty t, tyx_of g.sub r, kit_ty hk, q _ F1 H1 g (.bl _)⟩⟩
/-- isinstance(a, (T, U)) -/
theorem isi2 (t u : String) (ha : DC G a δ d) (h1 : kitB (tyD d) t = some k1) (h2 : kitB (tyD d) u = some k2) (hv : bootBuiltins x = some (.type t) := by decide +kernel) (hv2 : bootBuiltins T = some (.type u) := by decide +kernel) (hx : x ∈ BI := by decide) (hx2 : T ∈ BI := by decide)
    (hgx : G.sc.names.lookup x = some .globalImplicit := by rfl) (hgx2 : G.sc.names.lookup T = some .globalImplicit := by rfl) (hg : G.sc.names.lookup ("isinstance" : Str) = some .globalImplicit := by rfl)
    (hs : ∀ env, starEach [a, .Tuple [.Name x p2, .Name T p3] n pos2] env = (false, eval a env) :: starEach [.Tuple [.Name x p2, .Name T p3] n pos2] env := by intro _; rfl) (hn : x ≠ "__name__" := by decide) (hdb : (x == ("__debug__" : Str)) = false := by decide) (hn2 : T ≠ "__name__" := by decide) (hdb2 : (T == ("__debug__" : Str)) = false := by decide) :
    DE G (.Call (.Name "isinstance" p) [a, .Tuple [.Name x p2, .Name T p3] n pos2] [] pos) δ (.bool (k1 || k2)) :=
  dp_of fun X hX => ⟨_, pe_callB (hX.K ▸ call_isiT) (by unfold Gl Env.kindOf; rw [hX.sc]; exact hg) (bi_glob (by decide) hX) (by decide +kernel) (pa_cons pe_m (pa_cons (pe_tup (pa_cons (pe_tyn hX hx hgx hv hn hdb) (pa_cons (pe_tyn hX hx2 hgx2 hv2 hn2 hdb2) pa_nil (by rfl)) (by rfl))) pa_nil (by rfl)) (hs X.env)) (by decide) (by decide) (hs X.env) (by rfl), fun F0 H0 F H σ S Q q => ha X hX F0 H0 F H σ S _ fun v F1 H1 g r => by
    refine ⟨by show 2 ≤ sizeLine; rw [sizeLine_eq]; decide, fun z hz => ?_⟩
    show rIsiT G.m.K [v, .ref z] (upd H1 z (.tup [.ty t, .ty u])) Q
    have gn : Grow F1 H1 F1 (upd H1 z (.tup [.ty t, .ty u])) := Grow.newN g.sub hz
    refine ⟨v, z, [.ty t, .ty u], _, [.type t, .type u], k1 || k2, rfl, upd_same, .cons (.ty t) (.cons (.ty u) .nil), tyx_of gn.sub (r.grow gn), ?_, q _ _ _ (g.trans gn) (.bl _)⟩
    refine kitAny_cons (kit_ty h1) (fun e => ?_) fun e => by rw [e]; rfl
    refine kitAny_cons (kit_ty h2) (fun e2 => ?_) fun e2 => by rw [e2, Bool.or_true]
    rw [e, e2]
    rfl⟩
/-- tuple[::-1] -/
theorem backT {n : Nat} (ha : DC G a δ (.tuple ds)) : DE G (.Subscript a (.Slice none none (some (.UnaryOp .USub (.Constant (.int 1) n p) p2)) p3) pos) δ (.tuple ds.reverse) :=
  dp_of fun X hX => ⟨DZ.tBackT G.m.K (tmE X a), hX.K ▸ DZ.pe_backT pe_m, evp_1 (ta := tmE X a) (k := fun x H1 Q => ∃ a xs, x = .ref a ∧ SqT G.m.K H1 a xs ∧ ∀ p, H1 p = none → Q (.ref p) (upd H1 p (.tup xs.reverse))) (ha X hX) back_E fun F H v Q s r q => by
    obtain ⟨p, xs, e, h1, h2⟩ := r.inTup
    exact ⟨p, xs, e, sqt_mono s h1, fun l hl => q _ _ _ (Grow.new s hl) (.tup (SqT.of upd_same) (h2.rev.mono (same_new (s.free hl))))⟩⟩
/-- enumerate of a tuple -/
theorem iET {elts : List Expr} {kk : Nat} {tpos : Pos} (h : DE G e δ (.tuple ds)) (hg : G.sc.names.lookup ("enumerate" : Str) = some .globalImplicit := by rfl) (hs : ∀ env, starEach [e] env = [(false, eval e env)] := by intro _; rfl) :
    DI G (.Tuple elts kk tpos) (.Call (.Name "enumerate" p) [e] [] pos) δ (enumD ds) :=
  di_of fun X hX => ⟨DZ.iEnT G.m.K (tCons (tmE X e) tNil), hX.K ▸ DZ.pi_enumT (by unfold Gl Env.kindOf; rw [hX.sc]; exact hg) (bi_glob (by decide) hX) (pa_cons pe_m pa_nil (hs X.env)) (hs X.env), fun F0 H0 F H σ S R q => h X hX F0 H0 F H σ S _ fun v F1 H1 g r => by
    cases r with
    | tup h1 h2 =>
      refine ⟨_, _, rfl, sqt_mono g.sub h1, q _ F1 H1 g ⟨fun i F H sF sH hi => ?_, fun i F H x H' sF sH hy hi => ?_, fun i F H sF sH hi => ?_⟩⟩
      · rw [enumD_len] at hi
        obtain ⟨v, e1, _⟩ := h2.get (List.getElem?_eq_getElem hi)
        exact ⟨_, v, sqt_mono sH (sqt_mono sF h1), e1⟩
      · obtain ⟨T, x1, rfl, hT, rfl, y1⟩ := hy
        obtain ⟨d1, e1, q1⟩ := h2.getV (y1 _ (sqt_mono sH (sqt_mono sF h1)))
        have g := Grow.new (o := .tup [.int (i : Nat), x1]) sH hT
        exact ⟨_, _, g, enumD_get e1, .tup (SqT.of upd_same) (.cons (.int _) (.cons ((q1.mono sF).mono g.ff) .nil))⟩
      · rw [enumD_len] at hi
        exact ⟨_, sqt_mono sH (sqt_mono sF h1), by rw [h2.length]; exact hi⟩⟩
/-- new tracked tuples, frozen one after the other -/
theorem grow_list {K : PySem.W.Frag} {xs ys : List V} {ds es : List PyData} {F : Hp} (rx : RpA K F xs ds) (ry : RpA K F ys es) : ∀ (ts : List Addr) (i : Nat) (F1 H1 H2 : Hp), Same F F1 → Same F1 H1 → ts.Nodup → (∀ T ∈ ts, H1 T = none) → (∀ c, c ∉ ts → H2 c = H1 c) →
    (∀ (j : Nat) (T : Addr), ts[j]? = some T → ∃ x y, xs[i + j]? = some x ∧ ys[i + j]? = some y ∧ H2 T = some (.tup [x, y])) → i + ts.length = ds.length → ds.length = es.length → ∃ F2, Grow F1 H1 F2 H2 ∧ RpA K F2 (ts.map V.ref) (zipD (ds.drop i) (es.drop i))
  | [], i, F1, H1, H2, sF, sH, _, _, k, _, hl, he => by
    have e : H2 = H1 := funext fun c => k c (by simp)
    subst e
    refine ⟨F1, Grow.refl sH, ?_⟩
    rw [List.drop_of_length_le (by simp at hl; omega)]
    exact .nil
  | T :: ts, i, F1, H1, H2, sF, sH, nd, fr, k, at_, hl, he => by
    obtain ⟨nT, nd⟩ := List.nodup_cons.mp nd
    obtain ⟨x, y, ex, ey, hT⟩ := at_ 0 T rfl
    rw [Nat.add_zero] at ex ey
    have g1 := Grow.new (o := .tup [x, y]) sH (fr T List.mem_cons_self)
    obtain ⟨F2, g2, r2⟩ := grow_list rx ry ts (i + 1) (upd F1 T (.tup [x, y])) (upd H1 T (.tup [x, y])) H2 (sF.trans g1.ff) g1.sub nd (fun T' h => by rw [upd_ne (fun z => nT (by rw [← z]; exact h))]; exact fr T' (List.mem_cons_of_mem _ h)) (fun c hc => by
      by_cases e : c = T
      · rw [e, upd_same, hT]
      · rw [upd_ne e]
        exact k c (by simp only [List.mem_cons, not_or]; exact ⟨e, hc⟩)) (fun j T' hj => by
      obtain ⟨x, y, a1, a2, a3⟩ := at_ (j + 1) T' hj
      rw [show i + (j + 1) = i + 1 + j by omega] at a1 a2
      exact ⟨x, y, a1, a2, a3⟩) (by rw [List.length_cons] at hl; omega) he
    have lt : i < ds.length := by rw [List.length_cons] at hl; omega
    have lt2 : i < es.length := by omega
    obtain ⟨d, ed, rd⟩ := rx.getV ex
    obtain ⟨e, ee, re⟩ := ry.getV ey
    have e1 : ds.drop i = d :: ds.drop (i + 1) := by
      rw [List.drop_eq_getElem_cons lt]
      rw [List.getElem?_eq_getElem lt] at ed
      rw [Option.some.inj ed]
    have e2 : es.drop i = e :: es.drop (i + 1) := by
      rw [List.drop_eq_getElem_cons lt2]
      rw [List.getElem?_eq_getElem lt2] at ee
      rw [Option.some.inj ee]
    rw [e1, e2]
    have sA := sF.trans (g1.ff.trans g2.ff)
    exact ⟨F2, g1.trans g2, .cons (.tup (SqT.of (g2.ff _ _ upd_same)) (.cons (rd.mono sA) (.cons (re.mono sA) .nil))) r2⟩
/-- list(zip(a, b)), lists of one length -/
theorem lz (h : DE G e δ (.list ds)) (h2 : DE G e2 δ (.list es')) (hl : ds.length = es'.length) (hz : ds.length ≤ 1000) (hg : G.sc.names.lookup ("zip" : Str) = some .globalImplicit := by rfl) (hgl : G.sc.names.lookup ("list" : Str) = some .globalImplicit := by rfl)
    (hs : ∀ env, starEach [e, e2] env = (false, eval e env) :: starEach [e2] env := by intro _; rfl) (hs2 : ∀ env, starEach [e2] env = [(false, eval e2 env)] := by intro _; rfl) :
    DN G (.Call (.Name "list" p) [.Call (.Name "zip" p2) [e, e2] [] pos] [] pos2) δ (zipD ds es') :=
  dp_of fun X hX => ⟨DZ.tLz G.m.K (tCons (tmE X e) (tCons (tmE X e2) tNil)), hX.K ▸ DZ.pe_lz hX.calm (by unfold Gl Env.kindOf; rw [hX.sc]; exact hg) (bi_glob (by decide) hX) (by unfold Gl Env.kindOf; rw [hX.sc]; exact hgl) (bi_glob (by decide) hX) (pa_cons pe_m (pa_cons pe_m pa_nil (hs2 X.env)) (hs X.env)) (hs X.env) (by rw [hs2]; rfl), fun F0 H0 F H σ S Q q => h X hX F0 H0 F H σ S _ fun v F1 H1 g r => h2 X hX F0 H0 F1 H1 σ (S.grow g) _ fun u F2 H2 g2 r2 => by
    have r' := r.mono g2.ff
    cases r' with
    | @lst a1 xs1 _ b1 c1 =>
      cases r2 with
      | @lst a2 xs2 _ b2 c2 =>
        refine ⟨a1, a2, xs1, xs2, rfl, SqL.of (g2.sub _ _ b1), SqL.of (g2.sub _ _ b2), by rw [c1.length, c2.length]; exact hl, by rw [c1.length]; exact hz, fun Z ts H3 hS hn nd nS fr k hS3 at_ => ?_⟩
        have gA := g.trans g2
        -- first the pairs, then the list
        have mid : ∃ F3, Grow F2 H2 F3 (fun c => if c = Z then none else H3 c) ∧ RpA G.m.K F3 (ts.map V.ref) (zipD (ds.drop 0) (es'.drop 0)) := by
          refine grow_list c1 c2 ts 0 F2 H2 _ (Same.refl _) g2.sub nd fr (fun c hc => ?_) (fun j T hj => ?_) (by rw [Nat.zero_add, hn, c1.length]) hl
          · by_cases e : c = Z
            · rw [if_pos e, e, hS]
            · rw [if_neg e]
              exact k c e hc
          · obtain ⟨x, y, a1, a2, a3⟩ := at_ j T hj
            rw [Nat.zero_add]
            refine ⟨x, y, a1, a2, ?_⟩
            rw [if_neg (fun z => nS (by rw [← z]; exact List.mem_of_getElem? hj))]
            exact a3
        obtain ⟨F3, g3, r3⟩ := mid
        have e3 : H3 = upd (fun c => if c = Z then none else H3 c) Z (.lst (ts.map V.ref)) := by
          funext c
          by_cases e : c = Z
          · rw [e, upd_same, hS3]
          · rw [upd_ne e, if_neg e]
        have gN := Grow.newN (p := Z) (o := .lst (ts.map V.ref)) g3.sub (by rw [if_pos rfl])
        rw [← e3] at gN
        refine q _ F3 H3 ((gA.trans g3).trans gN) ⟨Z, _, rfl, gA.hh.free hS, hS3, g3.sub.free (by rw [if_pos rfl]), r3⟩⟩
/-- list or list, by truth, a new one each -/
theorem orN {rest : List Expr} (ha : DN G a δ ds) (h2 : ds = [] → DN G (.BoolOp .Or (b :: rest) pos) δ es') : DN G (.BoolOp .Or (a :: b :: rest) pos) δ (if ds = [] then es' else ds) :=
  dp_of fun X hX => ⟨tOrT G.m.K (tmE X a) (tmE X (.BoolOp .Or (b :: rest) pos)), hX.K ▸ pe_orT pe_m pe_m, fun F0 H0 F H σ S Q q => ha X hX F0 H0 F H σ S _ fun v F1 H1 g r => by
    obtain ⟨p, xs, e, h1, h3, h4, r'⟩ := r
    subst e
    have hl := r'.length
    refine ⟨!xs.isEmpty, .inl ⟨xs, SqL.of h3, rfl⟩, ?_⟩
    by_cases hd : ds = []
    · have : xs = [] := by
        rw [hd] at hl
        exact List.eq_nil_of_length_eq_zero hl
      subst this
      rw [if_neg (by simp)]
      refine h2 hd X hX F0 H0 F1 H1 σ (S.grow g) _ fun u F2 H2 g2 r2 => ?_
      rw [if_pos hd] at q
      exact q u F2 H2 (g.trans g2) (RpN.back g.hh r2)
    · have : xs ≠ [] := by
        intro z
        rw [z] at hl
        exact hd (List.eq_nil_of_length_eq_zero hl.symm)
      rw [if_pos (by cases xs <;> simp_all)]
      rw [if_neg hd] at q
      exact q _ F1 H1 g ⟨p, xs, rfl, h1, h3, h4, r'⟩⟩
/-- a slice of a list -/
def cutD (ds : List PyData) (lo hi : Option Int) : List PyData := (ds.drop (HT.sIx ds.length 0 lo)).take (HT.sIx ds.length ds.length hi - HT.sIx ds.length 0 lo)
def DO (G : Gm) (e : Option Expr) (δ : Sto) (o : Option Int) : Prop := (e = none ∧ o = none) ∨ ∃ x i, e = some x ∧ o = some i ∧ DC G x δ (.int i)
theorem oN : DO G none δ none := .inl ⟨rfl, rfl⟩
theorem oI {i : Int} (h : DC G e δ (.int i)) : DO G (some e) δ (some i) := .inr ⟨e, i, rfl, rfl, h⟩
theorem po_do {X : Cx} (hX : XOk G X) {eo : Option Expr} {o : Option Int} (h : DO G eo δ o) : ∃ t, PO X eo t ∧ ∀ F0 H0 F H σ, Stt G.m.K F0 H0 F H σ δ → ∀ Q : Option Int → Hp → Prop, (∀ F' H', Grow F H F' H' → Q o H') → t σ H Q := by
  rcases h with ⟨rfl, rfl⟩ | ⟨x, i, rfl, rfl, h⟩
  · exact ⟨_, po_none, fun F0 H0 F H σ S Q q => q F H (Grow.refl S.sub)⟩
  · exact ⟨_, po_some pe_m, fun F0 H0 F H σ S Q q => h X hX F0 H0 F H σ S _ fun v F' H' g r => ⟨i, r.inInt, q F' H' g⟩⟩
theorem cutL {lo hi : Option Int} {el eh : Option Expr} (ha : DC G a δ (.list ds)) (hlo : DO G el δ lo) (hhi : DO G eh δ hi) : DN G (.Subscript a (.Slice el eh none p) pos) δ (cutD ds lo hi) :=
  dp_of fun X hX => by
    obtain ⟨tl, pl, el'⟩ := po_do hX hlo
    obtain ⟨th, ph, eh'⟩ := po_do hX hhi
    refine ⟨tSl (rSlL G.m.K) (tmE X a) tl th, hX.K ▸ pe_slice sl_list pe_m pl ph, fun F0 H0 F H σ S Q q => ha X hX F0 H0 F H σ S _ fun v F1 H1 g1 r1 => el' F0 H0 F1 H1 σ (S.grow g1) _ fun F2 H2 g2 => eh' F0 H0 F2 H2 σ (S.grow (g1.trans g2)) _ fun F3 H3 g3 => ?_⟩
    obtain ⟨p, xs, e, h1, h2⟩ := (r1.grow (g2.trans g3)).inList g3.sub
    refine ⟨p, xs, e, SqL.of h1, fun z hz => ?_⟩
    have gg := (g1.trans g2).trans g3
    refine q _ F3 _ (gg.trans (Grow.newN g3.sub hz)) ⟨z, _, rfl, gg.hh.free hz, upd_same, g3.sub.free hz, ?_⟩
    unfold cutV cutD
    rw [h2.length]
    exact (h2.drop _).take _
/-- the script: ints that are only read -/
abbrev scrD (ns : List Int) : PyData := .dict (ns.map fun i => (.int i, .none))
theorem scr_inj : ∀ {a b : List Int}, a.map (fun i => (PyData.int i, PyData.none)) = b.map (fun i => (PyData.int i, PyData.none)) → a = b
  | [], [], _ => rfl
  | [], _ :: _, h => nomatch h
  | _ :: _, [], h => nomatch h
  | x :: a, y :: b, h => by
    obtain ⟨h1, h2⟩ := List.cons.inj (show (PyData.int x, PyData.none) :: a.map _ = (PyData.int y, PyData.none) :: b.map _ from h)
    rw [PyData.int.inj (Prod.mk.inj h1).1, scr_inj h2]
/-- a slice of the script -/
theorem cutS {ms : List Int} {lo hi : Option Int} {el eh : Option Expr} (ha : DE G a δ (scrD ms)) (hlo : DO G el δ lo) (hhi : DO G eh δ hi) : DN G (.Subscript a (.Slice el eh none p) pos) δ (cutD (ms.map .int) lo hi) :=
  dp_of fun X hX => by
    obtain ⟨tl, pl, el'⟩ := po_do hX hlo
    obtain ⟨th, ph, eh'⟩ := po_do hX hhi
    refine ⟨tSl (rSlL G.m.K) (tmE X a) tl th, hX.K ▸ pe_slice sl_list pe_m pl ph, fun F0 H0 F H σ S Q q => ha X hX F0 H0 F H σ S _ fun v F1 H1 g1 r1 => el' F0 H0 F1 H1 σ (S.grow g1) _ fun F2 H2 g2 => eh' F0 H0 F2 H2 σ (S.grow (g1.trans g2)) _ fun F3 H3 g3 => ?_⟩
    obtain ⟨p, xs, e, h1, h2⟩ : ∃ p xs, v = .ref p ∧ SqL G.m.K H3 p xs ∧ RpA G.m.K F3 xs (ms.map .int) := by
      cases Rp.mono (g2.trans g3).ff r1 with
      | scr e1 h1 =>
        rw [← scr_inj e1] at h1
        exact ⟨_, _, rfl, sql_mono g3.sub h1, .of_ints ms⟩
    refine ⟨p, xs, e, h1, fun z hz => ?_⟩
    have gg := (g1.trans g2).trans g3
    refine q _ F3 _ (gg.trans (Grow.newN g3.sub hz)) ⟨z, _, rfl, gg.hh.free hz, upd_same, g3.sub.free hz, ?_⟩
    unfold cutV cutD
    rw [h2.length]
    exact (h2.drop _).take _
end
end DL
set_option Elab.async false
set_option linter.all false
set_option maxRecDepth 100000
set_option maxHeartbeats 4000000
namespace DL
open PySem PySem.Spec PyProof.Rows L2
/-! ### an object apart, taken for one that was there -/
section
variable {K : PySem.W.Frag} {F0 H0 F H F' H' F1 H1 : Hp} {σ : L2.St} {δ : Sto} {D : Addr} {o o' : HO}
theorem Stt.hide (S : Stt K F0 H0 F1 H1 σ δ) (hD : H1 D = none) (g : Grow F1 H1 F H) (e : H D = some o) (hF : F D = none) : Stt K F0 (upd H0 D o) F H σ δ := by
  have S2 := S.grow g
  have h0 : H0 D = none := S.gr.hh.free hD
  refine ⟨fun b x q => ?_, ⟨S2.gr.ff, fun b x q => ?_, S2.gr.sub, fun a x q => ?_⟩, S2.len, S2.va, fun i ds h => ?_, S2.ap, fun i p o h => ?_, S2.op, S2.oq⟩
  · rw [upd_ne (ne_of_none q (S.s0.free h0))]
    exact S.s0 b x q
  · by_cases hb : b = D
    · subst hb
      rw [upd_same] at q
      rw [e, q]
    · rw [upd_ne hb] at q
      exact S2.gr.hh b x q
  · rcases S2.gr.nw a x q with z | z
    · exact .inl z
    · by_cases ha : a = D
      · subst ha
        rw [hF] at q
        cases q
      · exact .inr (by rw [upd_ne ha]; exact z)
  · obtain ⟨p, xs, e1, e2, e3, e4, e5⟩ := S2.ow i ds h
    obtain ⟨p', xs', f1, f2, _⟩ := S.ow i ds h
    rw [e1] at f1
    cases f1
    exact ⟨p, xs, e1, e2, e3, by rw [upd_ne (ne_of_none f2 hD)]; exact e4, e5⟩
  · obtain ⟨e1, e2, e3, e4⟩ := S2.ob i p o h
    obtain ⟨f1, f2, _⟩ := S.ob i p o h
    obtain ⟨x, hx⟩ := f2.some
    exact ⟨e1, e2, e3, by rw [upd_ne (ne_of_none hx hD)]; exact e4⟩
theorem Stt.swap (S : Stt K F0 (upd H0 D o) F H σ δ) (h0 : F0 D = none) (hF : F D = none) : Stt K F0 (upd H0 D o') F (upd H D o') σ δ := by
  have own : ∀ p, (upd H0 D o) p = none → p ≠ D := fun p h z => by
    rw [z, upd_same] at h
    cases h
  have u : ∀ {p : Addr}, p ≠ D → (upd H0 D o') p = (upd H0 D o) p := fun {p} h => by rw [upd_ne h, upd_ne h]
  refine ⟨fun b x q => ?_, ⟨S.gr.ff, fun b x q => ?_, fun b x q => ?_, fun a x q => ?_⟩, S.len, S.va, fun i ds h => ?_, S.ap, fun i p o h => ?_, S.op, S.oq⟩
  · have n := ne_of_none q h0
    rw [u n]
    exact S.s0 b x q
  · by_cases hb : b = D
    · subst hb
      rw [upd_same] at q ⊢
      exact q
    · rw [u hb] at q
      rw [upd_ne hb]
      exact S.gr.hh b x q
  · rw [upd_ne (ne_of_none q hF)]
    exact S.gr.sub b x q
  · rcases S.gr.nw a x q with z | z
    · exact .inl z
    · exact .inr (by rw [u (own a z)]; exact z)
  · obtain ⟨p, xs, e1, e2, e3, e4, e5⟩ := S.ow i ds h
    exact ⟨p, xs, e1, by rw [upd_ne (own p e4)]; exact e2, e3, by rw [u (own p e4)]; exact e4, e5⟩
  · obtain ⟨e1, e2, e3, e4⟩ := S.ob i p o h
    exact ⟨e1, e2.heap (upd_ne (own p e4)), e3, by rw [u (own p e4)]; exact e4⟩
end
/-! ### two clauses -/
def flat2 {α β : Type} (ys : α → List β) (q : α → β → Bool) (f : α → β → PyData) (xs : List α) : List PyData := xs.flatMap fun a => ((ys a).filter (q a)).map (f a)
theorem evn_lc2 {α β : Type} {K : PySem.W.Frag} {wi wi1 : TI} {g g1 : TG} {tt tt1 : TT} {te : TE} {vs vs1 js js1 : List Nat} {δ : Sto} {δ2 : α → Sto} {δ3 : α → β → Sto} {q : α → β → Bool} {f : α → β → PyData} {xs : List α} {enc : α → PyData} {ys : α → List β} {enc1 : β → PyData}
    (hi : IvP K wi δ (xs.map enc)) (hg : ∀ a, a ∈ xs → GvP K g js (wipeD δ vs) (enc a) (δ2 a)) (hj : ∀ j ∈ js, j ∈ vs) (ht : ∀ a, a ∈ xs → EvT K tt (δ2 a) true) (hi1 : ∀ a, a ∈ xs → IvP K wi1 (δ2 a) ((ys a).map enc1)) (hv : ∀ j ∈ vs1, j ∈ vs) (hg1 : ∀ a b, a ∈ xs → b ∈ ys a → GvP K g1 js1 (wipeD (δ2 a) vs1) (enc1 b) (δ3 a b)) (hj1 : ∀ j ∈ js1, j ∈ vs1)
    (ht1 : ∀ a b, a ∈ xs → b ∈ ys a → EvT K tt1 (δ3 a b) (q a b)) (he : ∀ a b, a ∈ xs → b ∈ ys a → q a b = true → EvP K te (δ3 a b) (rE K (f a b))) (hz : xs.length ≤ 300) (hz1 : ∀ a ∈ xs, (ys a).length ≤ 300) :
    EvP K (tLc2 wi g tt wi1 g1 tt1 te vs vs1) δ (rN K (flat2 ys q f xs)) := fun F0 H0 F H σ S Q qq => hi F0 H0 F H σ S _ fun J F1 H1 g1' wk D hD => by
  have S1 := S.grow g1'
  refine ⟨fun i m H' => m = xs.length - i ∧ i ≤ xs.length ∧ ∃ F' acc, Grow F1 H1 F' H' ∧ H' D = some (.lst acc) ∧ F' D = none ∧ acc.length ≤ 300 * i ∧ RpA K F' acc (flat2 ys q f (xs.take i)), ⟨xs.length, rfl, Nat.zero_le _, F1, [], Grow.newN S1.sub hD, upd_same, S1.sub.free hD, Nat.le_refl _, .nil⟩, ?_⟩
  rintro i m H' ⟨rfl, hi, F', acc, gr, hD', hFD, hl, ra⟩
  have lm : (xs.map enc).length = xs.length := List.length_map _
  by_cases hlt : i < xs.length
  · refine .inr ⟨wk.go i F' H' gr.ff gr.sub (by rw [lm]; exact hlt), fun H2 => ∃ F2 acc2, Grow F1 H1 F2 H2 ∧ H2 D = some (.lst acc2) ∧ F2 D = none ∧ acc2.length ≤ 300 * (i + 1) ∧ RpA K F2 acc2 (flat2 ys q f (xs.take (i + 1))), fun H2 h2 => ⟨xs.length - (i + 1), by omega, rfl, hlt, h2⟩, fun x H2 hy => ?_⟩
    obtain ⟨F2, d, g2, ed, rd⟩ := wk.yld i F' H' x H2 gr.ff gr.sub hy (by rw [lm]; exact hlt)
    have ea : xs[i]? = some xs[i] := List.getElem?_eq_getElem hlt
    rw [List.getElem?_map, ea] at ed
    have ed' : enc xs[i] = d := Option.some.inj ed
    subst ed'
    have hm : xs[i] ∈ xs := List.getElem_mem hlt
    have gA := gr.trans g2
    have tk : flat2 ys q f (xs.take (i + 1)) = flat2 ys q f (xs.take i) ++ ((ys xs[i]).filter (q xs[i])).map (f xs[i]) := by
      unfold flat2
      rw [List.take_add_one, ea, List.flatMap_append]
      show _ ++ List.flatMap _ [xs[i]] = _
      rw [List.flatMap_cons, List.flatMap_nil, List.append_nil]
    have hyl := hz1 _ hm
    have d2 : H2 D = some (.lst acc) := g2.hh _ _ hD'
    have f2 : F2 D = none := grow_none g2 hD' hFD
    have d0 : F0 D = none := S1.s0.free (S1.gr.hh.free hD)
    refine hg _ hm F0 (upd H0 D (.lst acc)) F2 H2 (wipe σ vs) x ((S1.hide hD gA d2 f2).wipe vs) rd _ fun σ2 S3 w => ⟨(w.mono hj).wipe, ?_⟩
    refine ht _ hm F0 _ F2 H2 σ2 S3 _ fun F3 H3 g3 => ?_
    simp only [if_true]
    refine hi1 _ hm F0 _ F3 H3 σ2 (S3.grow g3) _ fun J1 F4 H4 g4 wk1 => ?_
    have g34 := g3.trans g4
    have gB := g2.trans g34
    have k1 : H4 D = some (.lst acc) := gB.hh _ _ hD'
    have k2 : F4 D = none := grow_none gB hD' hFD
    refine ⟨fun j k H' => k = (ys xs[i]).length - j ∧ j ≤ (ys xs[i]).length ∧ ∃ F' acc, Same F4 F' ∧ Grow F1 H1 F' H' ∧ Stt K F0 (upd H0 D (.lst acc)) F' H' σ2 (δ2 xs[i]) ∧ H' D = some (.lst acc) ∧ F' D = none ∧ acc.length ≤ 300 * i + j ∧ RpA K F' acc (flat2 ys q f (xs.take i) ++ (((ys xs[i]).take j).filter (q xs[i])).map (f xs[i])), ⟨(ys xs[i]).length, rfl, Nat.zero_le _, F4, acc, Same.refl _, gA.trans g34, S3.grow g34, k1, k2, hl, by rw [List.take_zero, List.filter_nil, List.map_nil, List.append_nil]; exact ra.mono gB.ff⟩, ?_⟩
    rintro j k H5 ⟨rfl, hj5, F5, acc5, sF5, gr5, S5, D5, FD5, l5, r5⟩
    have lm1 : ((ys xs[i]).map enc1).length = (ys xs[i]).length := List.length_map _
    by_cases hlt5 : j < (ys xs[i]).length
    · refine .inr ⟨wk1.go j F5 H5 sF5 S5.sub (by rw [lm1]; exact hlt5), fun H6 => ∃ F' acc, Same F4 F' ∧ Grow F1 H1 F' H6 ∧ Stt K F0 (upd H0 D (.lst acc)) F' H6 σ2 (δ2 xs[i]) ∧ H6 D = some (.lst acc) ∧ F' D = none ∧ acc.length ≤ 300 * i + (j + 1) ∧ RpA K F' acc (flat2 ys q f (xs.take i) ++ (((ys xs[i]).take (j + 1)).filter (q xs[i])).map (f xs[i])), fun H6 h6 => ⟨(ys xs[i]).length - (j + 1), by omega, rfl, hlt5, h6⟩, fun y H6 hy6 => ?_⟩
      obtain ⟨F6, d6, g6, ed6, rd6⟩ := wk1.yld j F5 H5 y H6 sF5 S5.sub hy6 (by rw [lm1]; exact hlt5)
      have ea6 : (ys xs[i])[j]? = some (ys xs[i])[j] := List.getElem?_eq_getElem hlt5
      rw [List.getElem?_map, ea6] at ed6
      have ed7 : enc1 (ys xs[i])[j] = d6 := Option.some.inj ed6
      subst ed7
      have hm6 : (ys xs[i])[j] ∈ ys xs[i] := List.getElem_mem hlt5
      have tk6 : (ys xs[i]).take (j + 1) = (ys xs[i]).take j ++ [(ys xs[i])[j]] := by rw [List.take_add_one, ea6]; rfl
      refine hg1 _ _ hm hm6 F0 _ F6 H6 (wipe σ2 vs1) y ((S5.grow g6).wipe vs1) rd6 _ fun σ3 S7 w7 => ⟨(w7.mono hj1).wipe, ?_⟩
      refine ht1 _ _ hm hm6 F0 _ F6 H6 σ3 S7 _ fun F8 H8 g8 => ?_
      cases hp : q xs[i] (ys xs[i])[j] with
      | false =>
        have gg := g6.trans g8
        refine ⟨F8, acc5, sF5.trans gg.ff, gr5.trans gg, S5.grow gg, gg.hh _ _ D5, grow_none gg D5 FD5, by omega, ?_⟩
        rw [tk6, List.filter_append, List.filter_cons_of_neg (by rw [hp]; exact Bool.false_ne_true), List.filter_nil, List.append_nil]
        exact r5.mono gg.ff
      | true =>
        refine he _ _ hm hm6 hp F0 _ F8 H8 σ3 (S7.grow g8) _ fun v F9 H9 g9 r9 => ?_
        have gg := (g6.trans g8).trans g9
        have k5 : H9 D = some (.lst acc5) := gg.hh _ _ D5
        have k6 : F9 D = none := grow_none gg D5 FD5
        refine ⟨acc5, k5, by rw [sizeLine_eq]; omega, F9, acc5 ++ [v], sF5.trans gg.ff, (gr5.trans gg).change hD k6, (S5.grow gg).swap d0 k6, upd_same, k6, by rw [List.length_append]; simp only [List.length_singleton]; omega, ?_⟩
        rw [tk6, List.filter_append, List.filter_cons_of_pos hp, List.filter_nil, List.map_append, ← List.append_assoc]
        exact (r5.mono gg.ff).append (.cons r9 .nil)
    · have ej : j = (ys xs[i]).length := by omega
      subst ej
      refine .inl ⟨wk1.stop _ F5 H5 sF5 S5.sub (by rw [lm1]; exact Nat.le_refl _), F5, acc5, gr5, D5, FD5, by omega, ?_⟩
      rw [tk]
      rw [List.take_length] at r5
      exact r5
  · have ei : i = xs.length := by omega
    subst ei
    refine .inl ⟨wk.stop _ F' H' gr.ff gr.sub (by rw [lm]; exact Nat.le_refl _), qq _ F' H' (g1'.trans gr) ⟨D, acc, rfl, g1'.hh.free hD, hD', hFD, ?_⟩⟩
    rw [List.take_length] at ra
    exact ra
end DL
set_option Elab.async false
set_option linter.all false
set_option maxRecDepth 100000
set_option maxHeartbeats 4000000
namespace DL
open PySem PySem.Spec PyProof.Rows L2
section
variable {G : Gm} {a b c e e2 elt tg iter tg1 iter1 kx vx : Expr} {es : List Expr} {rest : List Stmt} {ifs ifs1 : List Expr} {δ : Sto} {d d1 d2 : PyData} {ds es' : List PyData} {R Ra : Res} {pos p p2 p3 pos2 spos : Pos} {x T T2 : Str} {k k1 k2 : Bool} {ns : List Int} {scope : Scope} {js js1 : List Nat} {j n : Nat} {P : Po}
/-- name = [.. for .. for ..] -/
theorem s_setLc2 {α β : Type} (i : Nat) {own : List (Str × Nat)} {vs1 : List Nat} {xs : List α} {enc : α → PyData} {ys : α → List β} {enc1 : β → PyData} {δ2 : α → Sto} {δ3 : α → β → Sto} {q : α → β → Bool} {f : α → β → PyData}
    (hI : DI G tg iter δ (xs.map enc)) (ok : blkC G.N G.sc scope own = true) (sub : ∀ j ∈ js, j ∈ own.map (·.2)) (sub1 : ∀ j ∈ js1, j ∈ vs1) (subv : ∀ j ∈ vs1, j ∈ own.map (·.2)) (ht : ∀ a, a ∈ xs → DG (G.blk scope) tg js (wipeD δ (own.map (·.2))) (enc a) (δ2 a)) (hts : ∀ a, a ∈ xs → DTs (G.blk scope) ifs (δ2 a) true)
    (hI1 : ∀ a, a ∈ xs → DI (G.blk scope) tg1 iter1 (δ2 a) ((ys a).map enc1)) (ht1 : ∀ a b, a ∈ xs → b ∈ ys a → DG (G.blk scope) tg1 js1 (wipeD (δ2 a) vs1) (enc1 b) (δ3 a b)) (hts1 : ∀ a b, a ∈ xs → b ∈ ys a → DTs (G.blk scope) ifs1 (δ3 a b) (q a b))
    (he : ∀ a b, a ∈ xs → b ∈ ys a → q a b = true → DE (G.blk scope) elt (δ3 a b) (f a b)) (hz : xs.length ≤ 300) (hz1 : ∀ a ∈ xs, (ys a).length ≤ 300)
    (k : DS G rest (δ.set i (.va (.list (flat2 ys q f xs)))) P) (hi : G.N[i]? = some x := by rfl) (hx : G.sc.names.lookup x = some .local := by rfl) (hk : G.sc.kind = .function := by rfl) (hl : (p.line == pos.line) = true := by rfl) (ha : (scope.names.any fun (n, k) => n == x && (k == .local || k == .cell)) = false := by decide +kernel)
    (hs : ∀ env x, foldedSetIterable iter env x = pure x := by intro _ _; rfl) (hs1 : ∀ env x, foldedSetIterable iter1 env x = pure x := by intro _ _; rfl) : DS G (.Assign [.Name x p] (.ListComp elt [⟨tg, iter, ifs, 0⟩, ⟨tg1, iter1, ifs1, 0⟩] scope pos) spos :: rest) δ P :=
  s_cons (ds1_of fun X hX => ⟨_, ps_setLc2 (i := i) (own := own) (vs1 := vs1) hX.calm hX.nd (by rw [hX.N]; exact hi) (by rw [hX.sc]; exact hx) (sw_true (by rw [hX.sc]; exact hk) (by rw [hX.sc]; exact hx) hl ha) (pi_g hX) (by rw [hX.N, hX.sc]; exact blkOk_by ok) subv (fun s H C cl fp => pg_g (xok_blk hX s H scope C cl fp)) (fun s H C cl fp => pts_g (xok_blk hX s H scope C cl fp)) (fun s H C cl fp => pi_g (xok_blk hX s H scope C cl fp)) (fun s H C cl fp => pg_g (xok_blk hX s H scope C cl fp)) (fun s H C cl fp => pts_g (xok_blk hX s H scope C cl fp)) (fun s H C cl fp => pe_g (xok_blk hX s H scope C cl fp)) (hs X.env) hs1,
    fun F0 H0 F H σ S D w => ev_ne (evn_lc2 (K := G.m.K) (wi := gmI G tg iter) (g := gmG (G.blk scope) tg) (tt := gmTs (G.blk scope) ifs) (wi1 := gmI (G.blk scope) tg1 iter1) (g1 := gmG (G.blk scope) tg1) (tt1 := gmTs (G.blk scope) ifs1) (te := gmE (G.blk scope) elt) (gmi_of hI) (fun a h => gmg_of (ht a h)) sub (fun a h => hts a h) (fun a h => gmi_of (hI1 a h)) subv (fun a b h h1 => gmg_of (ht1 a b h h1)) sub1 (fun a b h h1 => hts1 a b h h1) (fun a b h h1 h2 => gm_of (he a b h h1 h2)) hz hz1) F0 H0 F H σ S _ fun v F' H' g r => w.nx _ F' H' _ k g.ff ((S.grow g).set i r)⟩)

/-! ### objects of one's own, by place -/
/-- the list at the slot, as it stands -/
theorem vb {q : Addr} (i : Nat) (hN : G.N[i]? = some x := by rfl) (hs : δ[i]? = some (.ob q (.l ds)) := by rfl) (hv : Vis G.sc x := by first | exact Or.inl rfl | exact Or.inr (Or.inl rfl) | exact Or.inr (Or.inr rfl)) (hd : (x == ("__debug__" : Str)) = false := by decide) (hcd : (x == ("__classdict__" : Str)) = false := by decide) :
    DC G (.Name x pos) δ (.list ds) := dp_of fun X hX => ⟨tVar i, pe_var (by rw [hX.N]; exact hN) (by rw [hX.sc]; exact hv) hd hcd, fun F0 H0 F H σ S Q qq => by
  obtain ⟨e, ⟨xs, h1, r⟩, h2, h3⟩ := S.ob i q _ hs
  exact ⟨.ref q, e, qq _ F H (Grow.refl S.sub) (.inr ⟨q, xs, ds, rfl, rfl, h1, r⟩)⟩⟩
theorem s_appB {q : Addr} (i : Nat) {mpos cpos p1 : Pos} (he : DE G e δ d) (k : DS G rest (δ.set i (.ob q (.l (ds ++ [d])))) P) (hz : ds.length ≤ 100000) (hi : δ[i]? = some (.ob q (.l ds)) := by rfl) (hN : G.N[i]? = some x := by rfl) (hv : Vis G.sc x := by first | exact Or.inl rfl | exact Or.inr (Or.inl rfl) | exact Or.inr (Or.inr rfl)) (hl : (mpos.endLine == cpos.line) = true := by rfl)
    (hs : ∀ env, starEach [e] env = [(false, eval e env)] := by intro _; rfl) (hd : (x == ("__debug__" : Str)) = false := by decide) (hcd : (x == ("__classdict__" : Str)) = false := by decide) : DS G (.Expr (.Call (.Attribute (.Name x p1) "append" mpos) [e] [] cpos) pos :: rest) δ P :=
  s_cons (ds1_of fun X hX => ⟨tDrop (tBM G.m.K "list" rAppend (tVar i) (tCons (tmE X e) tNil)), ps_expr (hX.K ▸ pe_bm PySem.F.plainAttrs_list PySem.F.slot_list_append PySem.F.type_list_append mt_append (pe_var (i := i) (by rw [hX.N]; exact hN) (by rw [hX.sc]; exact hv) hd hcd) (pa_cons pe_m pa_nil (hs X.env)) rfl (few1 hs cpos X.env) hl (hs X.env) rfl) rfl, fun F0 H0 F H σ S D w => by
    obtain ⟨e1, ⟨xs, h1, r⟩, h2, h3⟩ := S.ob i q _ hi
    refine ⟨.ref q, e1, .inl ⟨rfl, xs, .inl (.inl h1)⟩, he X hX F0 H0 F H σ S _ fun v F' H' g rv => ?_⟩
    have S' := S.grow g
    obtain ⟨e1', ⟨xs', h1', r'⟩, h2', h3'⟩ := S'.ob i q _ hi
    refine ⟨q, xs', v, rfl, rfl, h1', by rw [r'.length, sizeLine_eq]; omega, ?_⟩
    exact w.nx _ F' _ _ k g.ff (S'.chgO hi ⟨_, upd_same, r'.append (.cons rv .nil)⟩)⟩)

/-! ### dicts of int keys -/
def dLook (ks : List (Int × PyData)) (k : Int) : Option PyData := (ks.find? fun q => decide (q.1 = k)).map (·.2)
def dPut (ks : List (Int × PyData)) (k : Int) (v : PyData) : List (Int × PyData) := if (ks.any fun q => decide (q.1 = k)) = true then ks.map (fun q => if q.1 = k then (q.1, v) else q) else ks ++ [(k, v)]
theorem kvr_cons {K : PySem.W.Frag} {F : Hp} {k : Key} {v : V} {xs : List (Key × V)} {i : Int} {d : PyData} {ks : List (Int × PyData)} : KvR K F ((k, v) :: xs) ((i, d) :: ks) ↔ k = .inl i ∧ Rp K F v d ∧ KvR K F xs ks := by
  constructor
  · rintro ⟨h1, h2⟩
    cases h2 with
    | cons a b =>
      have e := List.cons.inj h1
      exact ⟨e.1, a, e.2, b⟩
  · rintro ⟨h1, h2, h3, h4⟩
    refine ⟨?_, .cons h2 h4⟩
    rw [List.map_cons, List.map_cons, h3]
    exact congrArg (· :: _) h1
theorem kvr_look {K : PySem.W.Frag} {F : Hp} : ∀ {xs : List (Key × V)} {ks : List (Int × PyData)} (k : Int), KvR K F xs ks → (dLook ks k = none ∧ valV xs (.inl k) = none) ∨ ∃ d v, dLook ks k = some d ∧ valV xs (.inl k) = some v ∧ Rp K F v d
  | [], [], k, _ => .inl ⟨rfl, rfl⟩
  | [], _ :: _, k, h => by
    have := h.1
    simp at this
  | _ :: _, [], k, h => by
    have := h.1
    simp at this
  | (q, v) :: xs, (i, d) :: ks, k, h => by
    obtain ⟨rfl, h2, h3⟩ := kvr_cons.mp h
    by_cases e : i = k
    · subst e
      refine .inr ⟨d, v, ?_, valV_pos rfl, h2⟩
      unfold dLook
      rw [List.find?_cons_of_pos (by simp)]
      rfl
    · have e1 : dLook ((i, d) :: ks) k = dLook ks k := by
        unfold dLook
        rw [List.find?_cons_of_neg (by simpa using e)]
      have e2 : valV ((Sum.inl i, v) :: xs) (Sum.inl k : Key) = valV xs (.inl k) := valV_neg (by intro z; exact e (Sum.inl.inj z))
      rw [e1, e2]
      exact kvr_look k h3
theorem kvr_any {K : PySem.W.Frag} {F : Hp} : ∀ {xs : List (Key × V)} {ks : List (Int × PyData)} (k : Int), KvR K F xs ks → (xs.any fun kv => decide (kv.1 = (Sum.inl k : Key))) = (ks.any fun q => decide (q.1 = k))
  | [], [], k, _ => rfl
  | [], _ :: _, k, h => by
    have := h.1
    simp at this
  | _ :: _, [], k, h => by
    have := h.1
    simp at this
  | (q, v) :: xs, (i, d) :: ks, k, h => by
    obtain ⟨rfl, h2, h3⟩ := kvr_cons.mp h
    rw [List.any_cons, List.any_cons, kvr_any k h3]
    congr 1
    by_cases e : i = k
    · simp [e]
    · have : ¬ (Sum.inl i : Key) = Sum.inl k := fun z => e (Sum.inl.inj z)
      simp [e, this]
theorem kvr_map {K : PySem.W.Frag} {F : Hp} {k : Int} {w : V} {e : PyData} (r : Rp K F w e) : ∀ {xs : List (Key × V)} {ks : List (Int × PyData)}, KvR K F xs ks → KvR K F (xs.map fun kv => if kv.1 = (Sum.inl k : Key) then (kv.1, w) else kv) (ks.map fun q => if q.1 = k then (q.1, e) else q)
  | [], [], _ => ⟨rfl, .nil⟩
  | [], _ :: _, h => by
    have := h.1
    simp at this
  | _ :: _, [], h => by
    have := h.1
    simp at this
  | (q, v) :: xs, (i, d) :: ks, h => by
    obtain ⟨rfl, h2, h3⟩ := kvr_cons.mp h
    have ih := kvr_map (k := k) r h3
    rw [List.map_cons, List.map_cons]
    by_cases c : i = k
    · subst c
      rw [if_pos rfl, if_pos rfl]
      exact kvr_cons.mpr ⟨rfl, r, ih⟩
    · rw [if_neg (fun z => c (Sum.inl.inj z)), if_neg c]
      exact kvr_cons.mpr ⟨rfl, h2, ih⟩
theorem kvr_put {K : PySem.W.Frag} {F : Hp} {xs : List (Key × V)} {ks : List (Int × PyData)} {k : Int} {w : V} {e : PyData} (h : KvR K F xs ks) (r : Rp K F w e) : KvR K F (putK xs (.inl k) w) (dPut ks k e) := by
  unfold putK dPut
  rw [kvr_any k h]
  split
  · exact kvr_map r h
  · refine ⟨?_, ?_⟩
    · rw [List.map_append, List.map_append, h.1]
      rfl
    · rw [List.map_append, List.map_append]
      exact h.2.append (.cons r .nil)
theorem kvr_len {K : PySem.W.Frag} {F : Hp} {xs : List (Key × V)} {ks : List (Int × PyData)} (h : KvR K F xs ks) : xs.length = ks.length := by
  have := congrArg List.length h.1
  simpa using this
variable {q : Addr} {ks : List (Int × PyData)} {key : Int}
/-- d[k] -/
theorem dGet (i : Nat) (hk : DC G e δ (.int key)) (hl : dLook ks key = some d) (hi : δ[i]? = some (.ob q (.d ks)) := by rfl) (hN : G.N[i]? = some x := by rfl) (hv : Vis G.sc x := by first | exact Or.inl rfl | exact Or.inr (Or.inl rfl) | exact Or.inr (Or.inr rfl)) (hs : NoSl e := by intro _ _; rfl) (hd : (x == ("__debug__" : Str)) = false := by decide) (hcd : (x == ("__classdict__" : Str)) = false := by decide) :
    DE G (.Subscript (.Name x p) e pos) δ d := dp_of fun X hX => ⟨_, pe_dget (by have := hX.room.units; omega) (pe_var (i := i) (by rw [hX.N]; exact hN) (by rw [hX.sc]; exact hv) hd hcd) pe_m hs, fun F0 H0 F H σ S Q qq => by
  obtain ⟨e1, ⟨xs, h1, r⟩, h2, h3⟩ := S.ob i q _ hi
  refine ⟨.ref q, e1, hk X hX F0 H0 F H σ S _ fun v F' H' g rv => ?_⟩
  obtain ⟨e1', ⟨xs', h1', r'⟩, _⟩ := (S.grow g).ob i q _ hi
  rcases kvr_look key r' with ⟨z, _⟩ | ⟨d', w, z1, z2, z3⟩
  · rw [hl] at z
    cases z
  · rw [hl] at z1
    cases z1
    refine ⟨q, w, rfl, ?_, qq w F' H' g z3⟩
    rw [rv.inInt, ← z2]
    exact DGet.k (k := .inl key) h1'⟩
theorem kvr_some {K : PySem.W.Frag} {F : Hp} {xs : List (Key × V)} (h : KvR K F xs ks) (k : Int) : (valV xs (.inl k)).isSome = (dLook ks k).isSome := by
  rcases kvr_look k h with ⟨z1, z2⟩ | ⟨d', w, z1, z2, z3⟩ <;> rw [z1, z2] <;> rfl
/-- k in d, k not in d -/
theorem dIn (i : Nat) (hk : DC G e δ (.int key)) (hi : δ[i]? = some (.ob q (.d ks)) := by rfl) (hN : G.N[i]? = some x := by rfl) (hv : Vis G.sc x := by first | exact Or.inl rfl | exact Or.inr (Or.inl rfl) | exact Or.inr (Or.inr rfl)) (hd : (x == ("__debug__" : Str)) = false := by decide) (hcd : (x == ("__classdict__" : Str)) = false := by decide) :
    DK G .In e (.Name x p) δ (dLook ks key).isSome := dk_of fun X hX => ⟨_, pc_din (by have := hX.room.units; omega) pe_m (pe_var (i := i) (by rw [hX.N]; exact hN) (by rw [hX.sc]; exact hv) hd hcd), fun F0 H0 F H σ S Q qq => hk X hX F0 H0 F H σ S _ fun v F' H' g rv => by
  obtain ⟨e1, ⟨xs, h1, r⟩, h2, h3⟩ := (S.grow g).ob i q _ hi
  refine ⟨.ref q, e1, q, valV xs (.inl key), rfl, ?_, ?_⟩
  · rw [rv.inInt]
    exact DGet.k (k := .inl key) h1
  · rw [kvr_some r]
    exact qq _ F' H' g (.bl _)⟩
theorem dNi (i : Nat) (hk : DC G e δ (.int key)) (hi : δ[i]? = some (.ob q (.d ks)) := by rfl) (hN : G.N[i]? = some x := by rfl) (hv : Vis G.sc x := by first | exact Or.inl rfl | exact Or.inr (Or.inl rfl) | exact Or.inr (Or.inr rfl)) (hd : (x == ("__debug__" : Str)) = false := by decide) (hcd : (x == ("__classdict__" : Str)) = false := by decide) :
    DK G .NotIn e (.Name x p) δ (!(dLook ks key).isSome) := dk_of fun X hX => ⟨_, pc_dnotin (by have := hX.room.units; omega) pe_m (pe_var (i := i) (by rw [hX.N]; exact hN) (by rw [hX.sc]; exact hv) hd hcd), fun F0 H0 F H σ S Q qq => hk X hX F0 H0 F H σ S _ fun v F' H' g rv => by
  obtain ⟨e1, ⟨xs, h1, r⟩, h2, h3⟩ := (S.grow g).ob i q _ hi
  refine ⟨.ref q, e1, q, valV xs (.inl key), rfl, ?_, ?_⟩
  · rw [rv.inInt]
    exact DGet.k (k := .inl key) h1
  · rw [kvr_some r]
    exact qq _ F' H' g (.bl _)⟩
/-- d[k] = v -/
theorem s_dput (i : Nat) {vE : Expr} (hv' : DE G vE δ d) (hk : DE G e δ (.int key)) (k : DS G rest (δ.set i (.ob q (.d (dPut ks key d)))) P) (hz : ks.length ≤ 100000) (hi : δ[i]? = some (.ob q (.d ks)) := by rfl) (hN : G.N[i]? = some x := by rfl) (hv : Vis G.sc x := by first | exact Or.inl rfl | exact Or.inr (Or.inl rfl) | exact Or.inr (Or.inr rfl))
    (hs : ∀ env, swapsWith vE (some (.Subscript (.Name x p) e p2)) pos.line env = pure false := by intro _; rfl) (hd : (x == ("__debug__" : Str)) = false := by decide) (hcd : (x == ("__classdict__" : Str)) = false := by decide) : DS G (.Assign [.Subscript (.Name x p) e p2] vE pos :: rest) δ P :=
  s_cons (ds1_of fun X hX => ⟨_, ps_dput (by have := hX.room.units; omega) (pe_var (i := i) (by rw [hX.N]; exact hN) (by rw [hX.sc]; exact hv) hd hcd) pe_m pe_m (hs X.env), fun F0 H0 F H σ S D w => hv' X hX F0 H0 F H σ S _ fun v F1 H1 g1 r1 => by
    have S1 := S.grow g1
    obtain ⟨e1, _⟩ := S1.ob i q _ hi
    refine ⟨.ref q, e1, hk X hX F0 H0 F1 H1 σ S1 _ fun u F2 H2 g2 r2 => ?_⟩
    have S2 := S1.grow g2
    obtain ⟨_, ⟨xs, h1, r⟩, h2, h3⟩ := S2.ob i q _ hi
    have eu : u = .int key := RpC.inInt (H := H2) (.inl r2)
    subst eu
    refine ⟨q, upd H2 q (.dK (putK xs (.inl key) v)), rfl, DPut.k (k := .inl key) h1 (by rw [kvr_len r, sizeLine_eq]; omega), ?_⟩
    exact w.nx _ F2 _ _ k (g1.trans g2).ff (S2.chgO hi ⟨_, upd_same, kvr_put r (r1.mono g2.ff)⟩)⟩)
theorem Stt.setNewO {K : PySem.W.Frag} {F0 H0 F H F' H' : Hp} {σ : L2.St} (S : Stt K F0 H0 F H σ δ) (g : Grow F H F' H') {p : Addr} {o : Obd} (i : Nat) (h1 : H p = none) (r : ObR K F' H' p o) (h2 : F' p = none) : Stt K F0 H0 F' H' (σ.set i (some (.ref p))) (δ.set i (.ob p o)) := by
  refine (S.grow g).setO i h2 (S.gr.hh.free h1) r (fun j es hj hc => ?_) fun j q o hj hc => ?_
  · obtain ⟨q, ys, a1, a2, _⟩ := S.ow j es hj
    rw [hc] at a1
    cases a1
    rw [h1] at a2
    cases a2
  · obtain ⟨a1, a2, _⟩ := S.ob j q o hj
    obtain ⟨x, hx⟩ := a2.some
    rw [hc, h1] at hx
    cases hx
/-- name = {} -/
theorem s_dnew (i : Nat) (k : ∀ q : Addr, DS G rest (δ.set i (.ob q (.d []))) P) (hi : G.N[i]? = some x := by rfl) (hx : Loc G.sc x := by first | exact Or.inl rfl | exact Or.inr rfl) (hs : ∀ env, swapsWith (.Dict [] [] p2) (some (.Name x p)) pos.line env = pure false := by intro _; rfl)
    (hf : G.fn x = true ∨ G.sc.names.lookup x = some .local := by first | exact .inl rfl | exact .inr rfl) : DS G (.Assign [.Name x p] (.Dict [] [] p2) pos :: rest) δ P :=
  s_cons (ds1_of fun X hX => ⟨_, ps_set (i := i) hX.nd (by rw [hX.N]; exact hi) (by rw [hX.sc]; exact hx) pe_dnewK (hs X.env) (by rw [hX.fn, hX.sc]; exact hf), fun F0 H0 F H σ S D w => fun z hz => by
    have g : Grow F H F (upd H z (.dK [])) := Grow.newN S.sub hz
    exact w.nx _ F _ _ (k z) (Same.refl F) (S.setNewO g i hz ⟨[], upd_same, rfl, .nil⟩ (S.sub.free hz))⟩)
end
end DL
set_option Elab.async false
set_option linter.all false
set_option maxRecDepth 100000
set_option maxHeartbeats 4000000
namespace DZ
open PySem PySem.Spec PyProof.Rows L2 DL
theorem sw_dict {kx vx : Expr} {gs : List Comprehension} {scope : Scope} {pos py : Pos} {y : Str} {l : Nat} {env : Env} (hk : env.scope.kind = .function) (hy : env.scope.names.lookup y = some .local) (hl : (py.line == pos.line) = true)
    (ha : (scope.names.any fun (n, k) => n == y && (k == .local || k == .cell)) = false) : swapsWith (.DictComp kx vx gs scope pos) (some (.Name y py)) l env = pure true := by
  have ky : env.kindOf y = some .local := hy
  have hb : env.blockKind = .function := by
    unfold Env.blockKind
    rw [hk]
    rfl
  unfold swapsWith
  simp only [hb, ky, ha, Expr.pos, hl]
  rfl
/-- name = {..: .. for ..} -/
theorem ps_setDc {X : Cx} {i : Nat} {y : PySem.Str} {py : Pos} {kx vx tg iter : Expr} {ifs : List Expr} {scope : Scope} {ow : List (PySem.Str × Nat)} {pos spos : Pos} {wi : TI} {g : TG} {tt : TT} {tk tv : TE} (calm : X.calm = true) (nd : X.N.Nodup) (hy : X.N[i]? = some y) (hyl : X.env.scope.names.lookup y = some .local)
    (hsw : swapsWith (.DictComp kx vx [⟨tg, iter, ifs, 0⟩] scope pos) (some (.Name y py)) spos.line X.env = pure true) (hi : PI X tg iter wi) (ok : BlkOk X.N X.env.scope scope ow)
    (hg : ∀ (s : Shared) (H : Hp) (C : Addr) (cl : List (PySem.Str × Addr)) (fp : List Addr), PG (X.blk s H scope (compEnvC scope cl C X.env) fp) tg g) (ht : ∀ (s : Shared) (H : Hp) (C : Addr) (cl : List (PySem.Str × Addr)) (fp : List Addr), PTs (X.blk s H scope (compEnvC scope cl C X.env) fp) ifs tt)
    (hk : ∀ (s : Shared) (H : Hp) (C : Addr) (cl : List (PySem.Str × Addr)) (fp : List Addr), PE (X.blk s H scope (compEnvC scope cl C X.env) fp) kx tk)
    (he : ∀ (s : Shared) (H : Hp) (C : Addr) (cl : List (PySem.Str × Addr)) (fp : List Addr), PE (X.blk s H scope (compEnvC scope cl C X.env) fp) vx tv) (hs : ∀ x, foldedSetIterable iter X.env x = pure x := by intro _; rfl) :
    PS X (.Assign [.Name y py] (.DictComp kx vx [⟨tg, iter, ifs, 0⟩] scope pos) spos) (tAsg (tDc wi g tt tk tv (ow.map (·.2))) (gName i)) := by
  refine ⟨fun pn s σ H D I want => ?_⟩
  rw [exec_Assign_Name_used _ _ _ _ hsw]
  refine wpAny_bind (wpAny_standAt (wpAny_bind ?_))
  show wpAny _ X.A (do let _ ← comprehension (.DictComp kx vx [⟨tg, iter, ifs, 0⟩] scope pos) scope X.env (firstIterPos [⟨tg, iter, ifs, 0⟩] pos) newDict false (eval iter X.env) (some (assign (.Name y py) X.env))) _ _ s
  have want : tDc wi g tt tk tv (ow.map (·.2)) σ H (fun x H1 => gName i x σ H1 D.nx) := want
  refine wpAny_bind (thn (dc_core (Qf := fun _ s' => SP X pn D .next s') calm nd I hi ok hg ht hk he hs want fun L C s' m H' I' q hn f => ?_) fun _ s' hq => wpAny_pure (wpAny_pure hq))
  show wpAny _ _ (assign (.Name y py) X.env (.ref L)) _ _ _
  refine wpAny_assign_Name (store_ok2 (v := V.ref L) I' nd hy (.inl hyl) rfl (fun s2 I2 ⟨c, sb, hc⟩ => ?_) (.inr hyl))
  obtain ⟨f0, f1, f2, f3, f4, f5⟩ := f
  have apart : C ≠ c := by
    rcases hc with z | z
    · rw [z]
      exact f1
    · exact fun e => f4 y c z e.symm
  exact ⟨m, hn.sameBut sb apart, fun h3 sb3 => ⟨_, H', I2.turned (t' := s2.toks) (fun b o hb e => (sb3.2 b hb).trans e) f0 f1 f3 f4 f5, q⟩⟩
end DZ
namespace DL
open PySem PySem.Spec PyProof.Rows L2
/-! ### a dict comprehension, keys apart -/
theorem evd_dc {α : Type} {K : PySem.W.Frag} {wi : TI} {g : TG} {tt : TT} {tk tv : TE} {vs js : List Nat} {δ : Sto} {δ2 : α → Sto} {kf : α → Int} {f : α → PyData} {xs : List α} {enc : α → PyData}
    (hi : IvP K wi δ (xs.map enc)) (hg : ∀ a, a ∈ xs → GvP K g js (wipeD δ vs) (enc a) (δ2 a)) (hj : ∀ j ∈ js, j ∈ vs) (ht : ∀ a, a ∈ xs → EvT K tt (δ2 a) true) (hk : ∀ a, a ∈ xs → EvP K tk (δ2 a) (rE K (.int (kf a)))) (he : ∀ a, a ∈ xs → EvP K tv (δ2 a) (rE K (f a))) (hz : xs.length ≤ 100000) (nd : (xs.map kf).Nodup) :
    ∀ F0 H0 F H σ, Stt K F0 H0 F H σ δ → ∀ Q : VK, (∀ p F' H', Grow F H F' H' → H p = none → F' p = none → ObR K F' H' p (.d (xs.map fun a => (kf a, f a))) → Q (.ref p) H') → tDc wi g tt tk tv vs σ H Q := fun F0 H0 F H σ S Q q => hi F0 H0 F H σ S _ fun J F1 H1 g1 wk D hD => by
  have S1 := S.grow g1
  refine ⟨fun i m H' => m = xs.length - i ∧ i ≤ xs.length ∧ ∃ F' acc, Grow F1 H1 F' H' ∧ H' D = some (.dK acc) ∧ F' D = none ∧ KvR K F' acc ((xs.take i).map fun a => (kf a, f a)), ⟨xs.length, rfl, Nat.zero_le _, F1, [], Grow.newN S1.sub hD, upd_same, S1.sub.free hD, rfl, .nil⟩, ?_⟩
  rintro i m H' ⟨rfl, hi, F', acc, gr, hD', hFD, ra⟩
  have lm : (xs.map enc).length = xs.length := List.length_map _
  by_cases hlt : i < xs.length
  · refine .inr ⟨wk.go i F' H' gr.ff gr.sub (by rw [lm]; exact hlt), fun H2 => ∃ F2 acc2, Grow F1 H1 F2 H2 ∧ H2 D = some (.dK acc2) ∧ F2 D = none ∧ KvR K F2 acc2 ((xs.take (i + 1)).map fun a => (kf a, f a)), fun H2 h2 => ⟨xs.length - (i + 1), by omega, rfl, hlt, h2⟩, fun x H2 hy => ?_⟩
    obtain ⟨F2, d, g2, ed, rd⟩ := wk.yld i F' H' x H2 gr.ff gr.sub hy (by rw [lm]; exact hlt)
    have ea : xs[i]? = some xs[i] := List.getElem?_eq_getElem hlt
    rw [List.getElem?_map, ea] at ed
    have ed' : enc xs[i] = d := Option.some.inj ed
    subst ed'
    have hm : xs[i] ∈ xs := List.getElem_mem hlt
    have gA := gr.trans g2
    have tk : xs.take (i + 1) = xs.take i ++ [xs[i]] := by rw [List.take_add_one, ea]; rfl
    refine hg _ hm F0 H0 F2 H2 (wipe σ vs) x ((S1.grow gA).wipe vs) rd _ fun σ2 S3 w => ⟨(w.mono hj).wipe, ?_⟩
    refine ht _ hm F0 H0 F2 H2 σ2 S3 _ fun F3 H3 g3 => ?_
    simp only [if_true]
    refine hk _ hm F0 H0 F3 H3 σ2 (S3.grow g3) _ fun y F4 H4 g4 r4 => ?_
    refine he _ hm F0 H0 F4 H4 σ2 (S3.grow (g3.trans g4)) _ fun v F5 H5 g5 r5 => ?_
    cases r4
    have gB := g2.trans ((g3.trans g4).trans g5)
    have k1 : H5 D = some (.dK acc) := gB.hh _ _ hD'
    have k2 : F5 D = none := grow_none gB hD' hFD
    have k3 : KvR K F5 acc ((xs.take i).map fun a => (kf a, f a)) := ⟨ra.1, ra.2.mono gB.ff⟩
    refine ⟨acc, .inl (kf xs[i]), rfl, k1, ?_, F5, _, (gr.trans gB).change hD k2, upd_same, k2, ?_⟩
    · rw [kvr_len k3, List.length_map, List.length_take, sizeLine_eq]
      omega
    · have := kvr_put (k := kf xs[i]) k3 r5
      rw [tk, List.map_append]
      have no : ((xs.take i).map fun a => (kf a, f a)).any (fun q => decide (q.1 = kf xs[i])) = false := by
        rw [List.any_eq_false]
        intro q hq
        obtain ⟨a, ha, rfl⟩ := List.mem_map.mp hq
        have n2 : (xs.map kf) = (xs.take i).map kf ++ (kf xs[i] :: (xs.drop (i + 1)).map kf) := by
          conv => lhs; rw [← List.take_append_drop i xs, List.map_append, List.drop_eq_getElem_cons hlt, List.map_cons]
        rw [n2] at nd
        have := (List.nodup_append.mp nd).2.2 (kf a) (List.mem_map.mpr ⟨a, ha, rfl⟩) (kf xs[i]) List.mem_cons_self
        simpa using this
      unfold dPut at this
      rw [if_neg (by rw [no]; exact Bool.false_ne_true)] at this
      exact this
  · have ei : i = xs.length := by omega
    subst ei
    rw [List.take_length] at ra
    exact .inl ⟨wk.stop _ F' H' gr.ff gr.sub (by rw [lm]; exact Nat.le_refl _), q D F' H' (g1.trans gr) (g1.hh.free hD) hFD ⟨acc, hD', ra⟩⟩
section
variable {G : Gm} {a b c e e2 elt tg iter tg1 iter1 kx vx : Expr} {es : List Expr} {rest : List Stmt} {ifs ifs1 : List Expr} {δ : Sto} {d d1 d2 : PyData} {ds es' : List PyData} {R Ra : Res} {pos p p2 p3 pos2 spos : Pos} {x T T2 : Str} {k k1 k2 : Bool} {ns : List Int} {scope : Scope} {js js1 : List Nat} {j n : Nat} {P : Po}
/-- name = {k: v for ..}, a dict of one's own -/
theorem s_setDc {α : Type} (i : Nat) {own : List (Str × Nat)} {xs : List α} {enc : α → PyData} {δ2 : α → Sto} {kf : α → Int} {f : α → PyData}
    (hI : DI G tg iter δ (xs.map enc)) (ok : blkC G.N G.sc scope own = true) (sub : ∀ j ∈ js, j ∈ own.map (·.2)) (ht : ∀ a, a ∈ xs → DG (G.blk scope) tg js (wipeD δ (own.map (·.2))) (enc a) (δ2 a)) (hts : ∀ a, a ∈ xs → DTs (G.blk scope) ifs (δ2 a) true)
    (hk' : ∀ a, a ∈ xs → DE (G.blk scope) kx (δ2 a) (.int (kf a))) (he : ∀ a, a ∈ xs → DE (G.blk scope) vx (δ2 a) (f a)) (hz : xs.length ≤ 100000) (nd : (xs.map kf).Nodup)
    (k : ∀ q : Addr, DS G rest (δ.set i (.ob q (.d (xs.map fun a => (kf a, f a))))) P) (hi : G.N[i]? = some x := by rfl) (hx : G.sc.names.lookup x = some .local := by rfl) (hk : G.sc.kind = .function := by rfl) (hl : (p.line == pos.line) = true := by rfl) (ha : (scope.names.any fun (n, k) => n == x && (k == .local || k == .cell)) = false := by decide +kernel)
    (hs : ∀ env x, foldedSetIterable iter env x = pure x := by intro _ _; rfl) : DS G (.Assign [.Name x p] (.DictComp kx vx [⟨tg, iter, ifs, 0⟩] scope pos) spos :: rest) δ P :=
  s_cons (ds1_of fun X hX => ⟨_, DZ.ps_setDc (i := i) (ow := own) hX.calm hX.nd (by rw [hX.N]; exact hi) (by rw [hX.sc]; exact hx) (DZ.sw_dict (by rw [hX.sc]; exact hk) (by rw [hX.sc]; exact hx) hl ha) (pi_g hX) (by rw [hX.N, hX.sc]; exact blkOk_by ok) (fun s H C cl fp => pg_g (xok_blk hX s H scope C cl fp)) (fun s H C cl fp => pts_g (xok_blk hX s H scope C cl fp)) (fun s H C cl fp => pe_g (xok_blk hX s H scope C cl fp)) (fun s H C cl fp => pe_g (xok_blk hX s H scope C cl fp)) (hs X.env),
    fun F0 H0 F H σ S D w => evd_dc (K := G.m.K) (wi := gmI G tg iter) (g := gmG (G.blk scope) tg) (tt := gmTs (G.blk scope) ifs) (tk := gmE (G.blk scope) kx) (tv := gmE (G.blk scope) vx) (gmi_of hI) (fun a h => gmg_of (ht a h)) sub (fun a h => hts a h) (fun a h => gm_of (hk' a h)) (fun a h => gm_of (he a h)) hz nd F0 H0 F H σ S _ fun z F' H' g hz' hF r =>
      w.nx _ F' H' _ (k z) g.ff (S.setNewO g i hz' r hF)⟩)
/-! ### the items of a dict of one's own, in a comprehension -/
end
section
variable {K : PySem.W.Frag} {F F' : Hp} {z : Addr} {od : Obj} {xs : List (Key × V)}
theorem drop_ne {a : Addr} {o : HO} (hz : F z = some (.frz od (.dK xs))) (h : F a = some o) (n : o ≠ .frz od (.dK xs)) : a ≠ z := fun e => by
  rw [e, hz] at h
  exact n (Option.some.inj h).symm
theorem sqt_drop (hz : F z = some (.frz od (.dK xs))) (k : ∀ a o, a ≠ z → F a = some o → F' a = some o) {a : Addr} {ys : List V} (h : SqT K F a ys) : SqT K F' a ys := by
  rcases h with (h | ⟨o, h⟩) | h
  · exact .inl (.inl (k _ _ (drop_ne hz h (fun q => nomatch q)) h))
  · exact .inl (.inr ⟨o, k _ _ (drop_ne hz h (fun q => by cases q)) h⟩)
  · exact .inr h
theorem sql_drop (hz : F z = some (.frz od (.dK xs))) (k : ∀ a o, a ≠ z → F a = some o → F' a = some o) {a : Addr} {ys : List V} (h : SqL K F a ys) : SqL K F' a ys := by
  rcases h with (h | ⟨o, h⟩) | h
  · exact .inl (.inl (k _ _ (drop_ne hz h (fun q => nomatch q)) h))
  · exact .inl (.inr ⟨o, k _ _ (drop_ne hz h (fun q => by cases q)) h⟩)
  · exact .inr h
mutual
theorem Rp.drop (hz : F z = some (.frz od (.dK xs))) (k : ∀ a o, a ≠ z → F a = some o → F' a = some o) : ∀ {d : PyData} {v : V}, Rp K F v d → Rp K F' v d
  | .none, v, h => by cases h; exact .non
  | .bool b, v, h => by cases h; exact .bl b
  | .int i, v, h => by cases h; exact .int i
  | .str x, v, h => by cases h; exact .str x
  | .list ds, v, h => by
    cases h with
    | lst h1 h2 => exact .lst (k _ _ (drop_ne hz h1 (fun q => nomatch q)) h1) (RpA.drop' hz k h2)
  | .tuple ds, v, h => by
    cases h with
    | tup h1 h2 => exact .tup (sqt_drop hz k h1) (RpA.drop' hz k h2)
  | .dict _, v, h => by
    cases h with
    | scr e1 h1 => exact .scr e1 (sql_drop hz k h1)
theorem RpA.drop' (hz : F z = some (.frz od (.dK xs))) (k : ∀ a o, a ≠ z → F a = some o → F' a = some o) : ∀ {ds : List PyData} {vs : List V}, RpA K F vs ds → RpA K F' vs ds
  | [], vs, h => by cases h; exact .nil
  | d :: ds, vs, h => by
    cases h with
    | cons h1 h2 => exact .cons (Rp.drop hz k h1) (RpA.drop' hz k h2)
end
end
/-- the reading of a comprehension in one state -/
theorem evn_at {α : Type} {K : PySem.W.Frag} {wi : TI} {g : TG} {tt : TT} {te : TE} {vs js : List Nat} {δ : Sto} {δ2 : α → Sto} {p : α → Bool} {f : α → PyData} {xs : List α} {enc : α → PyData} {F0 H0 F H : Hp} {σ : L2.St} {Q : VK} (S : Stt K F0 H0 F H σ δ)
    (hi : ∀ R : It → Hp → Prop, (∀ J F' H', Grow F H F' H' → Walk K J F' (xs.map enc) → R J H') → wi σ H R) (hg : ∀ a, a ∈ xs → GvP K g js (wipeD δ vs) (enc a) (δ2 a)) (hj : ∀ j ∈ js, j ∈ vs) (ht : ∀ a, a ∈ xs → EvT K tt (δ2 a) (p a)) (he : ∀ a, a ∈ xs → p a = true → EvP K te (δ2 a) (rE K (f a))) (hz : xs.length ≤ 100000)
    (q : ∀ v F' H', Grow F H F' H' → RpN K H F' H' v ((xs.filter p).map f) → Q v H') : tLc wi g tt te vs σ H Q := by
  refine hi _ fun J F1 H1 g1 wk D hD => ?_
  have S1 := S.grow g1
  refine ⟨fun i m H' => m = xs.length - i ∧ i ≤ xs.length ∧ ∃ F' acc, Grow F1 H1 F' H' ∧ H' D = some (.lst acc) ∧ F' D = none ∧ acc.length ≤ i ∧ RpA K F' acc (((xs.take i).filter p).map f), ⟨xs.length, rfl, Nat.zero_le _, F1, [], Grow.newN S1.sub hD, upd_same, S1.sub.free hD, Nat.le_refl _, .nil⟩, ?_⟩
  rintro i m H' ⟨rfl, hi, F', acc, gr, hD', hFD, hl, ra⟩
  have lm : (xs.map enc).length = xs.length := List.length_map _
  by_cases hlt : i < xs.length
  · refine .inr ⟨wk.go i F' H' gr.ff gr.sub (by rw [lm]; exact hlt), fun H2 => ∃ F2 acc2, Grow F1 H1 F2 H2 ∧ H2 D = some (.lst acc2) ∧ F2 D = none ∧ acc2.length ≤ i + 1 ∧ RpA K F2 acc2 (((xs.take (i + 1)).filter p).map f), fun H2 h2 => ⟨xs.length - (i + 1), by omega, rfl, hlt, h2⟩, fun x H2 hy => ?_⟩
    obtain ⟨F2, d, g2, ed, rd⟩ := wk.yld i F' H' x H2 gr.ff gr.sub hy (by rw [lm]; exact hlt)
    have ea : xs[i]? = some xs[i] := List.getElem?_eq_getElem hlt
    rw [List.getElem?_map, ea] at ed
    have ed' : enc xs[i] = d := Option.some.inj ed
    subst ed'
    have hm : xs[i] ∈ xs := List.getElem_mem hlt
    have gA := gr.trans g2
    have S2 := (S1.grow gA).wipe vs
    have tk : xs.take (i + 1) = xs.take i ++ [xs[i]] := by rw [List.take_add_one, ea]; rfl
    have keep : ∀ {F3 H3 : Hp}, Grow F2 H2 F3 H3 → H3 D = some (.lst acc) ∧ F3 D = none ∧ RpA K F3 acc (((xs.take i).filter p).map f) := fun {F3 H3} g3 => by
      have gB := g2.trans g3
      refine ⟨gB.hh _ _ hD', ?_, ra.mono gB.ff⟩
      cases e : F3 D with
      | none => rfl
      | some o =>
        rcases gB.nw D o e with z | z
        · rw [hFD] at z; cases z
        · rw [hD'] at z; cases z
    refine hg _ hm F0 H0 F2 H2 (wipe σ vs) x S2 rd _ fun σ2 S3 w => ⟨(w.mono hj).wipe, ?_⟩
    refine ht _ hm F0 H0 F2 H2 σ2 S3 _ fun F3 H3 g3 => ?_
    cases hp : p xs[i] with
    | false =>
      obtain ⟨k1, k2, k3⟩ := keep g3
      refine ⟨F3, acc, gA.trans g3, k1, k2, by omega, ?_⟩
      rw [tk, List.filter_append, List.filter_cons_of_neg (by rw [hp]; exact Bool.false_ne_true), List.filter_nil, List.append_nil]
      exact k3
    | true =>
      refine he _ hm hp F0 H0 F3 H3 σ2 (S3.grow g3) _ fun v F4 H4 g4 r4 => ?_
      obtain ⟨k1, k2, k3⟩ := keep (g3.trans g4)
      refine ⟨acc, k1, by rw [sizeLine_eq]; omega, F4, acc ++ [v], ((gA.trans g3).trans g4).change hD k2, upd_same, k2, by rw [List.length_append]; simp only [List.length_singleton]; omega, ?_⟩
      rw [tk, List.filter_append, List.filter_cons_of_pos hp, List.filter_nil, List.map_append]
      exact k3.append (.cons r4 .nil)
  · have ei : i = xs.length := by omega
    subst ei
    refine .inl ⟨wk.stop _ F' H' gr.ff gr.sub (by rw [lm]; exact Nat.le_refl _), q _ F' H' (g1.trans gr) ⟨D, acc, rfl, g1.hh.free hD, hD', hFD, ?_⟩⟩
    rw [List.take_length] at ra
    exact ra
section
variable {G : Gm} {elt tg : Expr} {δ : Sto} {pos p spos mpos cpos : Pos} {x : Str} {scope : Scope} {js : List Nat} {ks : List (Int × PyData)} {q : Addr}
theorem kvr_get {K : PySem.W.Frag} {F : Hp} : ∀ {xs : List (Key × V)} {ks : List (Int × PyData)} {i : Nat} {k : Key} {v : V}, KvR K F xs ks → xs[i]? = some (k, v) → ∃ n d, ks[i]? = some (n, d) ∧ k = .inl n ∧ Rp K F v d
  | [], [], i, k, v, _, h => by simp at h
  | [], _ :: _, _, _, _, h, _ => by
    have := h.1
    simp at this
  | _ :: _, [], _, _, _, h, _ => by
    have := h.1
    simp at this
  | (k0, v0) :: xs, (n, d) :: ks, 0, k, v, h, e => by
    cases e
    obtain ⟨rfl, h2, h3⟩ := kvr_cons.mp h
    exact ⟨n, d, rfl, rfl, h2⟩
  | (k0, v0) :: xs, (n, d) :: ks, i + 1, k, v, h, e => by
    obtain ⟨rfl, h2, h3⟩ := kvr_cons.mp h
    exact kvr_get (i := i) h3 e
def itemD (q : Int × PyData) : PyData := .tuple [.int q.1, q.2]
/-- [.. for k, v in d.items()] -/
theorem lcItems (i : Nat) {elts : List Expr} {kk : Nat} {tpos : Pos} {own : List (Str × Nat)} {δ2 : Int × PyData → Sto} {f : Int × PyData → PyData} (hi : δ[i]? = some (.ob q (.d ks))) (ok : blkC G.N G.sc scope own = true) (sub : ∀ j ∈ js, j ∈ own.map (·.2)) (ht : ∀ a, a ∈ ks → DG (G.blk scope) (.Tuple elts kk tpos) js (wipeD (δ.set i .un) (own.map (·.2))) (itemD a) (δ2 a))
    (he : ∀ a, a ∈ ks → DE (G.blk scope) elt (δ2 a) (f a)) (hz : ks.length ≤ 100000) (hN : G.N[i]? = some x := by rfl) (hv : Vis G.sc x := by first | exact Or.inl rfl | exact Or.inr (Or.inl rfl) | exact Or.inr (Or.inr rfl)) (hd : (x == ("__debug__" : Str)) = false := by decide) (hcd : (x == ("__classdict__" : Str)) = false := by decide)
    (hl : (mpos.endLine == cpos.line) = true := by rfl) (hs : ∀ env y, foldedSetIterable (.Call (.Attribute (.Name x p) "items" mpos) [] [] cpos) env y = pure y := by intro _ _; rfl) : DN G (.ListComp elt [⟨.Tuple elts kk tpos, .Call (.Attribute (.Name x p) "items" mpos) [] [] cpos, [], 0⟩] scope pos) δ (ks.map f) :=
  dp_of fun X hX => ⟨_, pe_lock (pe_lc (own := own) hX.calm hX.nd (pi_items (pe_var (i := i) (by rw [hX.N]; exact hN) (by rw [hX.sc]; exact hv) hd hcd) rfl hl) (by rw [hX.N, hX.sc]; exact blkOk_by ok) (fun s H C cl fp => pg_g (xok_blk hX s H scope C cl fp)) (fun s H C cl fp => pts_nil) (fun s H C cl fp => pe_g (xok_blk hX s H scope C cl fp)) (hs X.env)), fun F0 H0 F H σ S Q qq => by
    obtain ⟨e1, ⟨xs, h1, r⟩, h2, h3⟩ := S.ob i q _ hi
    refine ⟨q, .dK xs, h1, trivial, fun od => ?_⟩
    have lz := kvr_len r
    have S' : Stt G.m.K F0 H0 (upd F q (.frz od (.dK xs))) (upd H q (.frz od (.dK xs))) σ (δ.set i .un) := by
      have ff : Same F (upd F q (.frz od (.dK xs))) := same_new h2
      refine ⟨S.s0, ⟨S.gr.ff.trans ff, fun b y e => ?_, fun b y e => ?_, fun a y e => ?_⟩, by rw [List.length_set]; exact S.len, fun j d h => ?_, fun j ds h => ?_, fun j k ds es p hjk a1 a2 a3 => ?_, fun j p o h => ?_, fun j k p p2 o u hjk a1 a2 => ?_, fun j k p o ds a1 a2 => ?_⟩
      · rw [upd_ne (ne_of_none e h3)]
        exact S.gr.hh b y e
      · by_cases hb : b = q
        · subst hb
          rw [upd_same] at e ⊢
          exact e
        · rw [upd_ne hb] at e ⊢
          exact S.gr.sub b y e
      · by_cases ha : a = q
        · exact .inr (by rw [ha]; exact h3)
        · rw [upd_ne ha] at e
          exact S.gr.nw a y e
      · rcases get_set_two h with ⟨rfl, e2, _⟩ | ⟨hj, h⟩
        · cases e2
        · exact let ⟨v, a, b⟩ := S.va j d h; ⟨v, a, b.mono ff⟩
      · rcases get_set_two h with ⟨rfl, e2, _⟩ | ⟨hj, h⟩
        · cases e2
        · obtain ⟨p, ys, a1, a2, a3, a4, a5⟩ := S.ow j ds h
          have np : p ≠ q := fun z => by
            subst z
            exact S.oq i j p _ ds hi h a1
          exact ⟨p, ys, a1, by rw [upd_ne np]; exact a2, by rw [upd_ne np]; exact a3, a4, a5.mono ff⟩
      · rcases get_set_two a1 with ⟨rfl, e2, _⟩ | ⟨hj, a1⟩
        · cases e2
        · rcases get_set_two a2 with ⟨rfl, e2, _⟩ | ⟨hk, a2⟩
          · cases e2
          · exact S.ap j k ds es p hjk a1 a2 a3
      · rcases get_set_two h with ⟨rfl, e2, _⟩ | ⟨hj, h⟩
        · cases e2
        · obtain ⟨a1, a2, a3, a4⟩ := S.ob j p o h
          have np : p ≠ q := S.op j i p q o _ (Ne.symm hj) h hi
          exact ⟨a1, (a2.mono ff).heap (upd_ne np), by rw [upd_ne np]; exact a3, a4⟩
      · rcases get_set_two a1 with ⟨rfl, e2, _⟩ | ⟨hj, a1⟩
        · cases e2
        · rcases get_set_two a2 with ⟨rfl, e2, _⟩ | ⟨hk, a2⟩
          · cases e2
          · exact S.op j k p p2 o u hjk a1 a2
      · rcases get_set_two a1 with ⟨rfl, e2, _⟩ | ⟨hj, a1⟩
        · cases e2
        · rcases get_set_two a2 with ⟨rfl, e2, _⟩ | ⟨hk, a2⟩
          · cases e2
          · exact S.oq j k p o ds a1 a2
    have rx : KvR G.m.K (upd F q (.frz od (.dK xs))) xs ks := ⟨r.1, r.2.mono (same_new h2)⟩
    refine evn_at (K := G.m.K) (wi := iItems (tVar i)) (g := gmG (G.blk scope) (.Tuple elts kk tpos)) (te := gmE (G.blk scope) elt) (p := fun _ => true) (xs := ks) (enc := itemD) (f := f) (Q := fun v H' => H' q = some (.frz od (.dK xs)) ∧ Q v (upd H' q (.dK xs))) S' (fun R hR => ?_) (fun a h => gmg_of (ht a h)) sub (fun a h => fun F0 H0 F H σ S Q q => q F H (Grow.refl S.sub)) (fun a h _ => gm_of (he a h)) hz fun v F' H' g rv => ?_
    · refine ⟨.ref q, e1, q, od, xs, rfl, upd_same, hR _ _ _ (Grow.refl S'.sub) ⟨fun j F1 H1 sF sH hj => ?_, fun j F1 H1 y H' sF sH hy hj => ?_, fun j F1 H1 sF sH hj => ?_⟩⟩
      · rw [List.length_map] at hj
        exact ⟨sH _ _ (sF _ _ upd_same), by omega⟩
      · obtain ⟨T, k, v, ek, rfl, hT, rfl⟩ := hy
        obtain ⟨n, d, en, rfl, rd⟩ := kvr_get rx ek
        have g := Grow.new (o := .tup [kV (.inl n), v]) sH hT
        refine ⟨_, _, g, ?_, .tup (SqT.of upd_same) (.cons (.int n) (.cons ((rd.mono sF).mono g.ff) .nil))⟩
        rw [List.getElem?_map, en]
        rfl
      · rw [List.length_map] at hj
        exact ⟨sH _ _ (sF _ _ upd_same), by omega⟩
    · have lock : H' q = some (.frz od (.dK xs)) := g.hh _ _ upd_same
      have lockF : F' q = some (.frz od (.dK xs)) := g.ff _ _ upd_same
      refine ⟨lock, qq v (fun a => if a = q then none else F' a) (upd H' q (.dK xs)) ⟨fun b y e => ?_, fun b y e => ?_, fun b y e => ?_, fun a y e => ?_⟩ ?_⟩
      · have n := ne_of_none e h2
        show (if b = q then none else F' b) = some y
        rw [if_neg n]
        exact g.ff b y (by rw [upd_ne n]; exact e)
      · by_cases hb : b = q
        · subst hb
          rw [upd_same, ← h1, e]
        · rw [upd_ne hb]
          exact g.hh b y (by rw [upd_ne hb]; exact e)
      · have e : (if b = q then none else F' b) = some y := e
        by_cases hb : b = q
        · rw [if_pos hb] at e
          cases e
        · rw [if_neg hb] at e
          rw [upd_ne hb]
          exact g.sub b y e
      · have e : (if a = q then none else F' a) = some y := e
        by_cases ha : a = q
        · rw [if_pos ha] at e
          cases e
        · rw [if_neg ha] at e
          rcases g.nw a y e with z | z
          · rw [upd_ne ha] at z
            exact .inl z
          · rw [upd_ne ha] at z
            exact .inr z
      · obtain ⟨p, ys, rfl, b1, b2, b3, b4⟩ := rv
        have np : p ≠ q := fun z => by
          rw [z, upd_same] at b1
          cases b1
        rw [upd_ne np] at b1
        refine ⟨p, ys, rfl, b1, by rw [upd_ne np]; exact b2, ?_, ?_⟩
        · show (if p = q then none else F' p) = none
          rw [if_neg np]
          exact b3
        · rw [List.filter_eq_self.mpr (fun _ _ => rfl)] at b4
          refine RpA.drop' lockF (fun a o ha e => ?_) b4
          show (if a = q then none else F' a) = some o
          rw [if_neg ha]
          exact e⟩
end
end DL
set_option Elab.async false
set_option linter.all false
set_option maxRecDepth 100000
set_option maxHeartbeats 4000000
namespace DL
open PySem PySem.Spec PyProof.Rows L2
/-! ### expressions that write at objects of one's own -/
abbrev PsE := Sto → PyData → Prop
def EvX (K : PySem.W.Frag) (te : TE) (δ : Sto) (Ps : PsE) : Prop := ∀ F0 H0 F H σ, Stt K F0 H0 F H σ δ → ∀ Q : VK, (∀ v d δ' F' H', Ps δ' d → Same F F' → Stt K F0 H0 F' H' σ δ' → Rp K F' v d → Q v H') → te σ H Q
def EvXT (K : PySem.W.Frag) (tt : TT) (δ : Sto) (Ps : Sto → Bool → Prop) : Prop := ∀ F0 H0 F H σ, Stt K F0 H0 F H σ δ → ∀ Q : Bool → Hp → Prop, (∀ b δ' F' H', Ps δ' b → Same F F' → Stt K F0 H0 F' H' σ δ' → Q b H') → tt σ H Q
def EvXA (K : PySem.W.Frag) (ta : TA) (δ : Sto) (Ps : Sto → List PyData → Prop) : Prop := ∀ F0 H0 F H σ, Stt K F0 H0 F H σ δ → ∀ Q : List V → Hp → Prop, (∀ vs ds δ' F' H', Ps δ' ds → Same F F' → Stt K F0 H0 F' H' σ δ' → RpA K F' vs ds → Q vs H') → ta σ H Q
def DX (G : Gm) (e : Expr) (δ : Sto) (Ps : PsE) : Prop := ∀ X, XOk G X → EvX G.m.K (tmE X e) δ Ps
def DXT (G : Gm) (e : Expr) (δ : Sto) (Ps : Sto → Bool → Prop) : Prop := ∀ X, XOk G X → EvXT G.m.K (tmT X e) δ Ps
def DXW (G : Gm) (e : Expr) (δ : Sto) (Ps : Sto → Bool → Prop) : Prop := ∀ X, XOk G X → EvXT G.m.K (tmW X e) δ Ps
def DXA (G : Gm) (es : List Expr) (δ : Sto) (Ps : Sto → List PyData → Prop) : Prop := ∀ X, XOk G X → EvXA G.m.K (tmA X es) δ Ps
theorem RpA.erase {K : PySem.W.Frag} {F : Hp} : ∀ {ds : List PyData} {vs : List V} (j : Nat), RpA K F vs ds → RpA K F (vs.eraseIdx j) (ds.eraseIdx j)
  | [], vs, j, h => by
    cases h
    exact .nil
  | d :: ds, vs, 0, h => by
    cases h with
    | cons a b => exact b
  | d :: ds, vs, j + 1, h => by
    cases h with
    | cons a b => exact .cons a (RpA.erase j b)
section
variable {G : Gm} {a b c e e2 elt tg iter : Expr} {es : List Expr} {rest sa sb body : List Stmt} {δ : Sto} {d d1 d2 : PyData} {ds es' : List PyData} {pos p p2 p3 pos2 spos : Pos} {x : Str} {k n : Nat} {P : Po} {Ps Pa : PsE} {Pt Pu : Sto → Bool → Prop}
theorem dx_of (h : ∀ X, XOk G X → ∃ t, PE X e t ∧ EvX G.m.K t δ Ps) : DX G e δ Ps := fun X hX F0 H0 F H σ S Q q pins s I => by
  obtain ⟨t, h1, h2⟩ := h X hX
  exact h1.run pins s σ H Q I (h2 F0 H0 F H σ S Q q)
theorem dxt_of (h : ∀ X, XOk G X → ∃ t, PT X e t ∧ EvXT G.m.K t δ Pt) : DXT G e δ Pt := fun X hX F0 H0 F H σ S Q q pins s I => by
  obtain ⟨t, h1, h2⟩ := h X hX
  exact h1.run pins s σ H Q I (h2 F0 H0 F H σ S Q q)
theorem dxw_of (h : ∀ X, XOk G X → ∃ t, PW X e t ∧ EvXT G.m.K t δ Pt) : DXW G e δ Pt := fun X hX F0 H0 F H σ S Q q wh pins s I => by
  obtain ⟨t, h1, h2⟩ := h X hX
  exact h1.run wh pins s σ H Q I (h2 F0 H0 F H σ S Q q)
theorem DX.imp {Ps' : PsE} (h : DX G e δ Ps) (k : ∀ δ' d, Ps δ' d → Ps' δ' d) : DX G e δ Ps' := fun X hX F0 H0 F H σ S Q q => h X hX F0 H0 F H σ S Q fun v d δ' F' H' p => q v d δ' F' H' (k _ _ p)
theorem DXT.imp {Pt' : Sto → Bool → Prop} (h : DXT G e δ Pt) (k : ∀ δ' d, Pt δ' d → Pt' δ' d) : DXT G e δ Pt' := fun X hX F0 H0 F H σ S Q q => h X hX F0 H0 F H σ S Q fun v δ' F' H' p => q v δ' F' H' (k _ _ p)
/-- without a write -/
theorem x0 (h : DE G e δ d) (q : Ps δ d) : DX G e δ Ps := fun X hX F0 H0 F H σ S Q qq => h X hX F0 H0 F H σ S Q fun v F' H' g r => qq v d δ F' H' q g.ff (S.grow g) r
theorem xt0 {k : Bool} (h : DT G e δ k) (q : Pt δ k) : DXT G e δ Pt := fun X hX F0 H0 F H σ S Q qq => h X hX F0 H0 F H σ S Q fun F' H' g => qq k δ F' H' q g.ff (S.grow g)
/-- one operand -/
theorem x1 {kf : V → Hp → VK → Prop} {te : Cx → TE} (hp : ∀ X, XOk G X → PE X e (fun σ H Q => tmE X a σ H fun v H1 => kf v H1 Q)) (ha : DX G a δ Pa) (hk : ∀ δ1 d, Pa δ1 d → ∃ d2, Ps δ1 d2 ∧ ∀ F H v (Q : VK), Same F H → Rp G.m.K F v d → (∀ v F' H', Grow F H F' H' → Rp G.m.K F' v d2 → Q v H') → kf v H Q) : DX G e δ Ps :=
  dx_of fun X hX => ⟨_, hp X hX, fun F0 H0 F H σ S Q q => ha X hX F0 H0 F H σ S _ fun v d δ1 F1 H1 p1 s1 S1 r1 => by
    obtain ⟨d2, p2, hk⟩ := hk δ1 d p1
    exact hk F1 H1 v Q S1.sub r1 fun v F' H' g r => q v d2 δ1 F' H' p2 (s1.trans g.ff) (S1.grow g) r⟩
/-- two operands -/
theorem x2 {kf : V → V → Hp → VK → Prop} (hp : ∀ X, XOk G X → PE X e (fun σ H Q => tmE X a σ H fun v H1 => tmE X b σ H1 fun u H2 => kf v u H2 Q)) (ha : DX G a δ Pa)
    (hb : ∀ δ1 d1, Pa δ1 d1 → DX G b δ1 fun δ2 d2 => ∃ d3, Ps δ2 d3 ∧ ∀ F H v u (Q : VK), Same F H → Rp G.m.K F v d1 → Rp G.m.K F u d2 → (∀ v F' H', Grow F H F' H' → Rp G.m.K F' v d3 → Q v H') → kf v u H Q) : DX G e δ Ps :=
  dx_of fun X hX => ⟨_, hp X hX, fun F0 H0 F H σ S Q q => ha X hX F0 H0 F H σ S _ fun v d1 δ1 F1 H1 p1 s1 S1 r1 => hb δ1 d1 p1 X hX F0 H0 F1 H1 σ S1 _ fun u d2 δ2 F2 H2 p2 s2 S2 r2 => by
    obtain ⟨d3, p3, hk⟩ := p2
    exact hk F2 H2 v u Q S2.sub (r1.mono s2) r2 fun v F' H' g r => q v d3 δ2 F' H' p3 ((s1.trans s2).trans g.ff) (S2.grow g) r⟩
theorem xAdd (ha : DX G a δ Pa) (hb : ∀ δ1 d1, Pa δ1 d1 → ∃ i, d1 = .int i ∧ DX G b δ1 fun δ2 d2 => ∃ j, d2 = .int j ∧ Ps δ2 (.int (i + j))) : DX G (.BinOp a .Add b pos) δ Ps :=
  x2 (kf := fun v u H Q => rI0 (fun i j => .int (i + j)) v u H Q) (fun X hX => pe_op op_add pe_m pe_m) ha fun δ1 d1 p1 => by
    obtain ⟨i, rfl, hb⟩ := hb δ1 d1 p1
    refine hb.imp fun δ2 d2 ⟨j, e, p⟩ => ?_
    subst e
    exact ⟨_, p, fun F H v u Q s r1 r2 q => ⟨i, j, RpC.inInt (H := H) (.inl r1), RpC.inInt (H := H) (.inl r2), q _ F H (Grow.refl s) (.int _)⟩⟩
/-- int of a truth value -/
theorem xIntB (ha : DX G a δ fun δ1 d => ∃ k : Bool, d = .bool k ∧ Ps δ1 (.int (if k then 1 else 0))) (hg : G.sc.names.lookup ("int" : Str) = some .globalImplicit := by rfl) (hs : ∀ env, starEach [a] env = [(false, eval a env)] := by intro _; rfl) : DX G (.Call (.Name "int" p) [a] [] pos) δ Ps :=
  dx_of fun X hX => ⟨_, pe_callTy call_int1 (by unfold Gl Env.kindOf; rw [hX.sc]; exact hg) (bi_glob (by decide) hX) (by decide +kernel) (pa_cons pe_m pa_nil (hs X.env)) (by decide) (by decide) (hs X.env) rfl, fun F0 H0 F H σ S Q q => ha X hX F0 H0 F H σ S _ fun v d δ1 F1 H1 ⟨k, e, p⟩ s1 S1 r1 => by
    subst e
    exact .inr ⟨k, by rw [RpC.inBool (H := H1) (.inl r1)], q _ _ δ1 F1 H1 p s1 S1 (.int _)⟩⟩
/-- a == b, ints, as a value and as a test -/
theorem pcq {X : Cx} : PC X .Eq a b (tOp rEq (tmE X a) (tmE X b)) := pc_of op_eq pe_m pe_m
theorem xEq (ha : DX G a δ fun δ1 d => ∃ i : Int, d = .int i ∧ DX G b δ1 fun δ2 d2 => ∃ j : Int, d2 = .int j ∧ Ps δ2 (.bool (decide (i = j)))) (hm : behindInMarks .Eq b = false := by first | exact nomark _ | rfl) : DX G (.Compare a [.Eq] [b] pos) δ Ps :=
  dx_of fun X hX => ⟨_, pe_cmp pcq hm, fun F0 H0 F H σ S Q q => ha X hX F0 H0 F H σ S _ fun v d δ1 F1 H1 ⟨i, e, hb⟩ s1 S1 r1 => hb X hX F0 H0 F1 H1 σ S1 _ fun u d2 δ2 F2 H2 ⟨j, e2, p⟩ s2 S2 r2 => by
    subst e e2
    cases r1
    cases r2
    exact ⟨rfl, by rw [show decide (V.int i = V.int j) = decide (i = j) from decide_eq_decide.mpr ⟨fun h => V.int.inj h, fun h => by rw [h]⟩]; exact q _ _ δ2 F2 H2 p (s1.trans s2) S2 (.bl _)⟩⟩
/-- a test by its value -/
theorem xtV (h : DX G e δ fun δ1 d => ∃ k : Bool, d = .bool k ∧ Pt δ1 k) (he : ∀ env whole, isTrue e env whole = (do let v ← whole; standAt e.pos; holding [v] (truthy v)) := by intros; rfl) : DXT G e δ Pt :=
  dxt_of fun X hX => ⟨_, pt_val pe_m (he X.env), fun F0 H0 F H σ S Q q => h X hX F0 H0 F H σ S _ fun v d δ1 F1 H1 ⟨k, e, p⟩ s1 S1 r1 => by
    subst e
    exact ⟨k, RpC.inBool (H := H1) (.inl r1), q k δ1 F1 H1 p s1 S1⟩⟩
theorem xtEq (ha : DX G a δ fun δ1 d => ∃ i : Int, d = .int i ∧ DX G b δ1 fun δ2 d2 => ∃ j : Int, d2 = .int j ∧ Pt δ2 (decide (i = j))) (hm : behindInMarks .Eq b = false := by first | exact nomark _ | rfl) : DXT G (.Compare a [.Eq] [b] pos) δ Pt :=
  dxt_of fun X hX => ⟨_, pt_cmp pcq hm, fun F0 H0 F H σ S Q q => ha X hX F0 H0 F H σ S _ fun v d δ1 F1 H1 ⟨i, e, hb⟩ s1 S1 r1 => hb X hX F0 H0 F1 H1 σ S1 _ fun u d2 δ2 F2 H2 ⟨j, e2, p⟩ s2 S2 r2 => by
    subst e e2
    cases r1
    cases r2
    exact ⟨rfl, decide (i = j), by rw [show decide (V.int i = V.int j) = decide (i = j) from decide_eq_decide.mpr ⟨fun h => V.int.inj h, fun h => by rw [h]⟩], q _ δ2 F2 H2 p (s1.trans s2) S2⟩⟩
theorem xtNot (h : DXT G a δ fun δ1 k => Pt δ1 (!k)) : DXT G (.UnaryOp .Not a pos) δ Pt := dxt_of fun X hX => ⟨_, pt_not pt_m, fun F0 H0 F H σ S Q q => h X hX F0 H0 F H σ S _ fun k δ1 F1 H1 p s1 S1 => q (!k) δ1 F1 H1 p s1 S1⟩
theorem xw1 (h : DXT G a δ Pt) : DXW G (.BoolOp .And [a] pos) δ Pt := dxw_of fun X hX => ⟨_, pw_and1 pt_m, h X hX⟩
theorem xwo1 (h : DXT G a δ Pt) : DXW G (.BoolOp .Or [a] pos) δ Pt := dxw_of fun X hX => ⟨_, pw_or1 pt_m, h X hX⟩
theorem xwA {r : List Expr} (h : DXT G a δ fun δ1 k => (k = false ∧ Pt δ1 false) ∨ (k = true ∧ DXW G (.BoolOp .And (b :: r) pos) δ1 Pt)) : DXW G (.BoolOp .And (a :: b :: r) pos) δ Pt := dxw_of fun X hX => ⟨_, pw_and pt_m pw_m, fun F0 H0 F H σ S Q q => h X hX F0 H0 F H σ S _ fun k δ1 F1 H1 p s1 S1 => by
  rcases p with ⟨rfl, p⟩ | ⟨rfl, p⟩
  · exact q false δ1 F1 H1 p s1 S1
  · exact p X hX F0 H0 F1 H1 σ S1 Q fun k δ2 F2 H2 p s2 S2 => q k δ2 F2 H2 p (s1.trans s2) S2⟩
theorem xwO {r : List Expr} (h : DXT G a δ fun δ1 k => (k = true ∧ Pt δ1 true) ∨ (k = false ∧ DXW G (.BoolOp .Or (b :: r) pos) δ1 Pt)) : DXW G (.BoolOp .Or (a :: b :: r) pos) δ Pt := dxw_of fun X hX => ⟨_, pw_or pt_m pw_m, fun F0 H0 F H σ S Q q => h X hX F0 H0 F H σ S _ fun k δ1 F1 H1 p s1 S1 => by
  rcases p with ⟨rfl, p⟩ | ⟨rfl, p⟩
  · exact q true δ1 F1 H1 p s1 S1
  · exact p X hX F0 H0 F1 H1 σ S1 Q fun k δ2 F2 H2 p s2 S2 => q k δ2 F2 H2 p (s1.trans s2) S2⟩
theorem xtW (h : DXW G e δ Pt) : DXT G e δ Pt := dxt_of fun X hX => ⟨_, pw_m.pt, h X hX⟩
/-- argument lists -/
theorem xa0 {Pr : Sto → List PyData → Prop} (q : Pr δ []) : DXA G [] δ Pr := fun X hX F0 H0 F H σ S Q qq pos pins s I => pa_nil.run pos pins s σ H Q I (qq [] [] δ F H q (Same.refl F) S .nil)
theorem xaC {Pr : Sto → List PyData → Prop} (h : DX G e δ fun δ1 d => DXA G es δ1 fun δ2 ds => Pr δ2 (d :: ds)) (hs : ∀ env, starEach (e :: es) env = (false, eval e env) :: starEach es env := by intro _; rfl) : DXA G (e :: es) δ Pr := fun X hX F0 H0 F H σ S Q qq pos pins s I =>
  (pa_cons pe_m pa_m (hs X.env)).run pos pins s σ H Q I (h X hX F0 H0 F H σ S _ fun v d δ1 F1 H1 p1 s1 S1 r1 => p1 X hX F0 H0 F1 H1 σ S1 _ fun vs ds δ2 F2 H2 p2 s2 S2 r2 => qq (v :: vs) (d :: ds) δ2 F2 H2 p2 (s1.trans s2) S2 (.cons (r1.mono s2) r2))

/-! statements -/
theorem s_setX (i : Nat) (he : DX G e δ fun δ1 d => DS G rest (δ1.set i (.va d)) P) (hi : G.N[i]? = some x := by rfl) (hx : Loc G.sc x := by first | exact Or.inl rfl | exact Or.inr rfl) (hs : ∀ env, swapsWith e (some (.Name x p)) pos.line env = pure false := by intro _; rfl)
    (hf : G.fn x = true ∨ G.sc.names.lookup x = some .local := by first | exact .inl rfl | exact .inr rfl) : DS G (.Assign [.Name x p] e pos :: rest) δ P :=
  s_cons (ds1_of fun X hX => ⟨_, ps_set (i := i) hX.nd (by rw [hX.N]; exact hi) (by rw [hX.sc]; exact hx) pe_m (hs X.env) (by rw [hX.fn, hX.sc]; exact hf), fun F0 H0 F H σ S D w => he X hX F0 H0 F H σ S _ fun v d δ1 F1 H1 p1 s1 S1 r1 =>
    w.nx _ F1 H1 _ p1 s1 (S1.set i r1)⟩)
/-- name = [e], a list of one's own -/
theorem s_setX1 (i : Nat) (he : DX G e δ fun δ1 d => DS G rest (δ1.set i (.ow [d])) P) (hi : G.N[i]? = some x := by rfl) (hx : Loc G.sc x := by first | exact Or.inl rfl | exact Or.inr rfl) (hs : ∀ env, swapsWith (.List [e] p2) (some (.Name x p)) pos.line env = pure false := by intro _; rfl)
    (hf : G.fn x = true ∨ G.sc.names.lookup x = some .local := by first | exact .inl rfl | exact .inr rfl) (hse : ∀ env, starEach [e] env = [(false, eval e env)] := by intro _; rfl) : DS G (.Assign [.Name x p] (.List [e] p2) pos :: rest) δ P :=
  s_cons (ds1_of fun X hX => ⟨_, ps_set (i := i) hX.nd (by rw [hX.N]; exact hi) (by rw [hX.sc]; exact hx) (pe_lst (pa_cons pe_m pa_nil (hse X.env))) (hs X.env) (by rw [hX.fn, hX.sc]; exact hf), fun F0 H0 F H σ S D w => he X hX F0 H0 F H σ S _ fun v d δ1 F1 H1 p1 s1 S1 r1 => by
    refine ⟨by show 1 ≤ sizeLine; rw [sizeLine_eq]; decide, fun z hz => ?_⟩
    have g := Grow.newN (o := .lst [v]) S1.sub hz
    exact w.nx _ F1 _ _ p1 s1 (S1.setNew g i ⟨z, [v], rfl, hz, upd_same, S1.sub.free hz, .cons r1 .nil⟩)⟩)
theorem s_retX (he : DX G e δ P.rt) : DS G (.Return (some e) pos :: rest) δ P :=
  s_cons (ds1_of fun X hX => ⟨_, ps_ret pe_m, fun F0 H0 F H σ S D w => he X hX F0 H0 F H σ S _ fun v d δ1 F1 H1 p1 s1 S1 r1 => w.rt δ1 d v F1 H1 σ p1 s1 S1 r1⟩)
theorem s_ifX (hc : DXT G c δ fun δ1 k => if k = true then DS G sa δ1 (P.then G rest) else DS G sb δ1 (P.then G rest)) : DS G (.If c sa sb pos :: rest) δ P :=
  s_cons (ds1_of fun X hX => ⟨_, ps_if pt_m pss_m pss_m, fun F0 H0 F H σ S D w => hc X hX F0 H0 F H σ S _ fun k δ1 F1 H1 p1 s1 S1 => by
    cases k with
    | true => exact p1 X hX F0 H0 F1 H1 σ S1 D (w.later s1)
    | false => exact p1 X hX F0 H0 F1 H1 σ S1 D (w.later s1)⟩)
/-- x.append(e), x a list of one's own -/
theorem s_appX (i : Nat) {mpos cpos p1 : Pos} {q : Addr → Prop} (hi : ∃ ds, δ[i]? = some (.ow ds)) (he : DX G e δ fun δ1 d => ∃ ds, δ1[i]? = some (.ow ds) ∧ ds.length ≤ 100000 ∧ DS G rest (δ1.set i (.ow (ds ++ [d]))) P) (hN : G.N[i]? = some x := by rfl) (hv : Vis G.sc x := by first | exact Or.inl rfl | exact Or.inr (Or.inl rfl) | exact Or.inr (Or.inr rfl)) (hl : (mpos.endLine == cpos.line) = true := by rfl)
    (hs : ∀ env, starEach [e] env = [(false, eval e env)] := by intro _; rfl) (hd : (x == ("__debug__" : Str)) = false := by decide) (hcd : (x == ("__classdict__" : Str)) = false := by decide) : DS G (.Expr (.Call (.Attribute (.Name x p1) "append" mpos) [e] [] cpos) pos :: rest) δ P :=
  s_cons (ds1_of fun X hX => ⟨tDrop (tBM G.m.K "list" rAppend (tVar i) (tCons (tmE X e) tNil)), ps_expr (hX.K ▸ pe_bm PySem.F.plainAttrs_list PySem.F.slot_list_append PySem.F.type_list_append mt_append (pe_var (i := i) (by rw [hX.N]; exact hN) (by rw [hX.sc]; exact hv) hd hcd) (pa_cons pe_m pa_nil (hs X.env)) rfl (few1 hs cpos X.env) hl (hs X.env) rfl) rfl, fun F0 H0 F H σ S D w => by
    obtain ⟨ds, hi⟩ := hi
    obtain ⟨p, xs, e1, h1, h2, h3, r⟩ := S.ow i ds hi
    refine ⟨.ref p, e1, .inl ⟨rfl, xs, .inl (.inl h1)⟩, he X hX F0 H0 F H σ S _ fun v d δ1 F' H' ⟨ds', hi', hz, k⟩ s1 S' rv => ?_⟩
    obtain ⟨p', xs', e1', h1', h2', h3', r'⟩ := S'.ow i ds' hi'
    rw [e1] at e1'
    cases e1'
    exact ⟨p, xs', v, rfl, rfl, h1', by rw [r'.length, sizeLine_eq]; omega, w.nx _ F' _ _ k s1 (S'.chg hi' e1 h2' h3' (r'.append (.cons rv .nil)))⟩⟩)
/-- x.pop(e), x a list of one's own -/
theorem xPop (i : Nat) {mpos cpos p1 : Pos} (hi : ∃ ds, δ[i]? = some (.ow ds)) (he : DX G e δ fun δ1 d => ∃ (ds : List PyData) (k : Nat) (y : PyData), d = .int (k : Int) ∧ δ1[i]? = some (.ow ds) ∧ ds[k]? = some y ∧ ds.length ≤ 100000 ∧ Ps (δ1.set i (.ow (ds.eraseIdx k))) y) (hN : G.N[i]? = some x := by rfl) (hv : Vis G.sc x := by first | exact Or.inl rfl | exact Or.inr (Or.inl rfl) | exact Or.inr (Or.inr rfl)) (hl : (mpos.endLine == cpos.line) = true := by rfl)
    (hs : ∀ env, starEach [e] env = [(false, eval e env)] := by intro _; rfl) (hd : (x == ("__debug__" : Str)) = false := by decide) (hcd : (x == ("__classdict__" : Str)) = false := by decide) : DX G (.Call (.Attribute (.Name x p1) "pop" mpos) [e] [] cpos) δ Ps :=
  dx_of fun X hX => ⟨tBM G.m.K "list" rPopAt (tVar i) (tCons (tmE X e) tNil), hX.K ▸ pe_bm PySem.F.plainAttrs_list PySem.F.slot_list_pop PySem.F.type_list_pop mt_popAt (pe_var (i := i) (by rw [hX.N]; exact hN) (by rw [hX.sc]; exact hv) hd hcd) (pa_cons pe_m pa_nil (hs X.env)) rfl (few1 hs cpos X.env) hl (hs X.env) rfl, fun F0 H0 F H σ S Q q => by
    obtain ⟨ds, hi⟩ := hi
    obtain ⟨p, xs, e1, h1, h2, h3, r⟩ := S.ow i ds hi
    refine ⟨.ref p, e1, .inl ⟨rfl, xs, .inl (.inl h1)⟩, he X hX F0 H0 F H σ S _ fun v d δ1 F' H' ⟨ds', kk, y, ed, hi', hy, hz, k⟩ s1 S' rv => ?_⟩
    subst ed
    cases rv
    obtain ⟨p', xs', e1', h1', h2', h3', r'⟩ := S'.ow i ds' hi'
    rw [e1] at e1'
    cases e1'
    obtain ⟨w, ew, rw'⟩ := r'.get hy
    have lt : kk < xs'.length := lt_of_get ew
    have len := r'.length
    refine ⟨p, xs', _, kk, w, rfl, rfl, h1', by omega, by omega, ?_, ew, ?_⟩
    · rw [seqIndex_of (by omega) (by omega)]
      simp
    · refine q w y _ F' _ k s1 (S'.chg hi' e1 h2' h3' ?_) rw'
      exact RpA.erase kk r'⟩
end
end DL
set_option Elab.async false
set_option linter.all false
set_option maxRecDepth 100000
set_option maxHeartbeats 4000000
namespace DL
open PySem PySem.Spec PyProof.Rows L2
section
variable {K : PySem.W.Frag} {F0 H0 F H F' H' F1 H1 F2 H2 : Hp} {σ ws : L2.St} {δ δ1 δ2 : Sto} {as as' : List Sl} {vs : List V}
theorem stt_ars (s : Same F H) (hl : vs.length = as.length) (hok : ArOk as) (hva : ∀ (i : Nat) d, as[i]? = some (.va d) → ∃ v, vs[i]? = some v ∧ Rp K F v d) (hob : ∀ (i : Nat) p o, as[i]? = some (.ob p o) → vs[i]? = some (.ref p) ∧ ObR K F H p o ∧ F p = none)
    (hop : ∀ (i j : Nat) p q o u, i ≠ j → as[i]? = some (.ob p o) → as[j]? = some (.ob q u) → p ≠ q) : Stt K F (ers as H) F H (vs.map some) as where
  s0 := fun b x e => by
    rw [ers_of fun i o h => ?_]
    · exact s b x e
    · rw [(hob i b o h).2.2] at e
      cases e
  gr := ⟨Same.refl F, ers_sub, s, fun a o h => .inl h⟩
  len := by rw [List.length_map]; exact hl
  va := fun i d h => by
    obtain ⟨v, e, r⟩ := hva i d h
    exact ⟨v, by rw [List.getElem?_map, e]; rfl, r⟩
  ow := fun i ds h => by
    rcases hok i _ h with ⟨d, e⟩ | ⟨p, o, e⟩ <;> cases e
  ap := fun i j ds es p hij h => by
    rcases hok i _ h with ⟨d, e⟩ | ⟨p, o, e⟩ <;> cases e
  ob := fun i p o h => by
    obtain ⟨e, r, f⟩ := hob i p o h
    exact ⟨by rw [List.getElem?_map, e]; rfl, r, f, ers_none h⟩
  op := fun i j p q o u hij h1 h2 => hop i j p q o u hij h1 h2
  oq := fun i j p o ds h1 h2 => by
    rcases hok j _ h2 with ⟨d, e⟩ | ⟨p, o, e⟩ <;> cases e
/-- behind a call that writes at its arguments -/
theorem Stt.after (S : Stt K F0 H0 F1 H1 σ δ1) (A : Stt K F1 (ers as H1) F2 H2 ws as') (af : ArAf as as') (sF : Same F1 F2) (fr : ∀ (j : Nat) p o, as[j]? = some (.ob p o) → H0 p = none ∧ ∀ (i : Nat) ds, δ1[i]? = some (.ow ds) → σ[i]? ≠ some (some (.ref p))) (hl : δ2.length = δ1.length)
    (hd : ∀ i : Nat, (δ2[i]? = δ1[i]? ∧ ∀ p o, δ1[i]? = some (.ob p o) → ∀ (j : Nat) u, as[j]? ≠ some (.ob p u)) ∨ ∃ (p : Addr) (o o' : Obd) (j : Nat), δ1[i]? = some (.ob p o) ∧ δ2[i]? = some (.ob p o') ∧ as'[j]? = some (.ob p o')) : Stt K F0 H0 F2 H2 σ δ2 := by
  have inP : ∀ b, b ∈ (as.filterMap fun s => match s with | .ob p _ => some p | _ => none) ↔ ∃ (j : Nat) (o : Obd), as[j]? = some (.ob b o) := fun b => by
    rw [List.mem_filterMap]
    constructor
    · rintro ⟨s, hs, e⟩
      obtain ⟨j, hj⟩ := List.getElem?_of_mem hs
      cases s with
      | ob p o =>
        cases e
        exact ⟨j, o, hj⟩
      | un => cases e
      | va d => cases e
      | ow ds => cases e
    · rintro ⟨j, o, h⟩
      exact ⟨_, List.mem_of_getElem? h, rfl⟩
  have own' : ∀ (j : Nat) p o, as[j]? = some (.ob p o) → ∃ o', as'[j]? = some (.ob p o') := fun j p o h => by
    rcases af.2 j with ⟨q, u, u', e1, e2⟩ | ⟨n, _⟩
    · rw [h] at e1
      cases e1
      exact ⟨u', e2⟩
    · exact absurd h (n p o)
  have noF : ∀ (j : Nat) p o, as[j]? = some (.ob p o) → F2 p = none := fun j p o h => by
    obtain ⟨o', h'⟩ := own' j p o h
    exact (A.ob j p o' h').2.2.1
  have keep : ∀ b x, (∀ (j : Nat) o, as[j]? ≠ some (.ob b o)) → H1 b = some x → H2 b = some x := fun b x n e => A.gr.hh b x (by rw [ers_of n]; exact e)
  refine S.chgM (as.filterMap fun s => match s with | .ob p _ => some p | _ => none) hl (fun i => ?_) (fun p hp => ?_) ⟨S.gr.ff.trans sF, fun b x e => ?_, A.gr.sub, fun b x e => ?_⟩ sF (fun b x n e => ?_) (fun b x e f => ?_)
  · rcases hd i with ⟨e, n⟩ | ⟨p, o, o', j, e1, e2, e3⟩
    · exact .inl ⟨e, fun p o h hp => by
        obtain ⟨j, u, hj⟩ := (inP p).mp hp
        exact n p o h j u hj⟩
    · exact .inr ⟨p, o, o', e1, e2, (A.ob j p o' e3).2.1⟩
  · obtain ⟨j, o, h⟩ := (inP p).mp hp
    exact (fr j p o h).2
  · refine keep b x (fun j o h => ?_) (S.gr.hh b x e)
    rw [(fr j b o h).1] at e
    cases e
  · rcases A.gr.nw b x e with z | z
    · exact S.gr.nw b x z
    · by_cases h : ∃ (j : Nat) (o : Obd), as[j]? = some (.ob b o)
      · obtain ⟨j, o, h⟩ := h
        rw [noF j b o h] at e
        cases e
      · rw [ers_of fun j o q => h ⟨j, o, q⟩] at z
        exact .inr (S.gr.hh.free z)
  · exact keep b x (fun j o h => n ((inP b).mpr ⟨j, o, h⟩)) e
  · cases q : F2 b with
    | none => rfl
    | some y =>
      rcases A.gr.nw b y q with z | z
      · rw [f] at z
        cases z
      · by_cases h : ∃ (j : Nat) (o : Obd), as[j]? = some (.ob b o)
        · obtain ⟨j, o, h⟩ := h
          rw [noF j b o h] at q
          cases q
        · rw [ers_of fun j o q => h ⟨j, o, q⟩, e] at z
          cases z
theorem get_vas {ds : List PyData} {i : Nat} {s : Sl} (h : (ds.map Sl.va)[i]? = some s) : ∃ d, ds[i]? = some d ∧ s = .va d := by
  rw [List.getElem?_map] at h
  obtain ⟨d, e1, e2⟩ := Option.map_eq_some_iff.mp h
  exact ⟨d, e1, e2.symm⟩
end
section
variable {G : Gm} {a b c e e2 elt tg iter : Expr} {es : List Expr} {rest sa sb body : List Stmt} {δ : Sto} {d d1 d2 : PyData} {ds es' : List PyData} {pos p p2 p3 pos2 spos : Pos} {x y : Str} {k n : Nat} {P : Po} {Ps Pa : PsE} {Pt Pu : Sto → Bool → Prop} {Pre : List Sl → Prop} {R : RelO} {q : Addr} {w0 : Obd} {Pr : Sto → List PyData → Prop}
theorem ar1 {w : Obd} {as' : List Sl} (h : ArAf (.ob q w :: ds.map .va) as') : ∃ w', as' = .ob q w' :: ds.map fun _ => .un := by
  obtain ⟨hl, h⟩ := h
  rcases h 0 with ⟨p, o, o', e1, e2⟩ | ⟨n, _⟩
  · cases e1
    cases as' with
    | nil => cases e2
    | cons s r =>
      cases e2
      refine ⟨o', congrArg (_ :: ·) ?_⟩
      apply List.ext_getElem?
      intro i
      rcases h (i + 1) with ⟨p, o, o', e1, e2⟩ | ⟨n, e⟩
      · obtain ⟨d, _, z⟩ := get_vas (show (ds.map Sl.va)[i]? = _ from e1)
        cases z
      · have lr : r.length = ds.length := by simpa using hl
        by_cases lt : i < ds.length
        · rcases e with e | e
          · rw [show r[i]? = some .un from e, List.getElem?_map, List.getElem?_eq_getElem lt]
            rfl
          · have : r[i]? = none := e
            rw [List.getElem?_eq_none_iff] at this
            omega
        · rw [List.getElem?_eq_none (by omega), List.getElem?_eq_none (by rw [List.length_map]; omega)]
  · exact absurd rfl (n q w)
/-- f(x, ..), f writes at x, an object of one's own -/
theorem x_call1 (c : CalO G.m k x n Pre R) (i : Nat) (hi : δ[i]? = some (.ob q w0)) (ha : DXA G es δ Pr) (hR : ∀ δ1 ds, Pr δ1 ds → ∃ w, δ1[i]? = some (.ob q w) ∧ ds.length + 1 = n ∧ Pre (.ob q w :: ds.map .va) ∧ ∀ d w', R (.ob q w :: ds.map .va) d (.ob q w' :: ds.map fun _ => .un) → Ps (δ1.set i (.ob q w')) d)
    (hk : k ≤ G.k := by exact Nat.le_of_ble_eq_true rfl) (hg : G.sc.names.lookup x = some .globalImplicit := by rfl) (hN : G.N[i]? = some y := by rfl) (hv : Vis G.sc y := by first | exact Or.inl rfl | exact Or.inr (Or.inl rfl) | exact Or.inr (Or.inr rfl)) (hdb : (x == ("__debug__" : Str)) = false := by decide) (hd : (y == ("__debug__" : Str)) = false := by decide) (hcd : (y == ("__classdict__" : Str)) = false := by decide)
    (he : ∀ env, starEach (.Name y p2 :: es) env = (false, eval (.Name y p2) env) :: starEach es env := by intro _; rfl) (hpl : ∀ env, (backTo pos (starEach es env)).any (·.1) = false := by intro _; rfl) : DX G (.Call (.Name x p) (.Name y p2 :: es) [] pos) δ Ps :=
  dx_of fun X hX => by
    obtain ⟨f, fd, ps, F, hm, kp, b⟩ := c.ex
    refine ⟨tCall (spO G.m.K n Pre R) [] E0 (tCons (tVar i) (tmA X es)), pe_call (k := k) (f := f) (fd := fd) (ps := ps) ?_ (hX.room.mono hk) (by unfold Gl Env.kindOf; rw [hX.sc]; exact hg) (by rw [hX.mg]; exact hm) (by rw [hX.K]; exact kp) (by rw [hX.K]; exact b) .nil pass0 (pa_cons (pe_var (i := i) (by rw [hX.N]; exact hN) (by rw [hX.sc]; exact hv) hd hcd) pa_m (he X.env)) hdb (he X.env) (hpl X.env), ?_⟩
    · rw [hX.prog, hX.w, hX.K, hX.mg, hX.base]; exact F
    · intro F0 H0 F1 H1 σ S Q qq
      obtain ⟨e0, _⟩ := S.ob i q _ hi
      refine ⟨.ref q, e0, ha X hX F0 H0 F1 H1 σ S _ fun vs ds δ1 F2 H2 p2 s2 S2 r2 => ?_⟩
      obtain ⟨w, hw, hn, hP, hR⟩ := hR δ1 ds p2
      obtain ⟨_, a2, a3, a4⟩ := S2.ob i q w hw
      rw [List.append_nil]
      have A : Stt G.m.K F2 (ers (.ob q w :: ds.map .va) H2) F2 H2 ((.ref q :: vs).map some) (.ob q w :: ds.map .va) := by
        refine stt_ars S2.sub (by rw [List.length_cons, List.length_cons, List.length_map, r2.length]) (fun j s h => ?_) (fun j d h => ?_) (fun j p o h => ?_) fun j l p p' o u hjl h1 h2 => ?_
        · cases j with
          | zero => cases h; exact .inr ⟨_, _, rfl⟩
          | succ j =>
            obtain ⟨d, _, rfl⟩ := get_vas (show (ds.map Sl.va)[j]? = _ from h)
            exact .inl ⟨d, rfl⟩
        · cases j with
          | zero => cases h
          | succ j =>
            obtain ⟨d', e, z⟩ := get_vas (show (ds.map Sl.va)[j]? = _ from h)
            cases z
            exact r2.get e
        · cases j with
          | zero => cases h; exact ⟨rfl, a2, a3⟩
          | succ j =>
            obtain ⟨d', e, z⟩ := get_vas (show (ds.map Sl.va)[j]? = _ from h)
            cases z
        · cases j with
          | zero =>
            cases l with
            | zero => exact absurd rfl hjl
            | succ l =>
              obtain ⟨d', e, z⟩ := get_vas (show (ds.map Sl.va)[l]? = _ from h2)
              cases z
          | succ j =>
            obtain ⟨d', e, z⟩ := get_vas (show (ds.map Sl.va)[j]? = _ from h1)
            cases z
      have ok : ArOk (.ob q w :: ds.map .va) := fun j s h => by
        cases j with
        | zero => cases h; exact .inr ⟨_, _, rfl⟩
        | succ j =>
          obtain ⟨d, _, rfl⟩ := get_vas (show (ds.map Sl.va)[j]? = _ from h)
          exact .inl ⟨d, rfl⟩
      refine ⟨F2, .ob q w :: ds.map .va, A, by rw [List.length_cons, List.length_map]; exact hn, ok, hP, fun v d as' F3 H3 af hr sF A' rv => ?_⟩
      obtain ⟨w', rfl⟩ := ar1 af
      have only : ∀ (j : Nat) p o, (Sl.ob q w :: ds.map Sl.va)[j]? = some (.ob p o) → p = q ∧ j = 0 := fun j p o h => by
        cases j with
        | zero => cases h; exact ⟨rfl, rfl⟩
        | succ j =>
          obtain ⟨d', e, z⟩ := get_vas (show (ds.map Sl.va)[j]? = _ from h)
          cases z
      refine qq v d _ F3 H3 (hR d w' hr) (s2.trans sF) (S2.after A' af sF (fun j p o h => ?_) (List.length_set ..) fun j => ?_) rv
      · obtain ⟨rfl, _⟩ := only j p o h
        exact ⟨a4, fun l ds' hl => S2.oq i l p _ ds' hw hl⟩
      · by_cases hj : i = j
        · subst hj
          exact .inr ⟨q, w, w', 0, hw, get_set_at (lt_of_get hw), rfl⟩
        · refine .inl ⟨get_set_ne hj, fun p o hp l u hl => ?_⟩
          obtain ⟨rfl, _⟩ := only l p u hl
          exact S2.op i j p p w o hj hw hp rfl
end
end DL
set_option Elab.async false
set_option linter.all false
set_option maxRecDepth 100000
set_option maxHeartbeats 4000000
namespace DZ
open PySem PySem.Spec PyProof.Rows L2 DL
theorem sw_par {x y : PySem.Str} {a b : Expr} {px py pt pt2 : Pos} {kt k2 : Nat} {env : Env} (hk : env.scope.kind = .function) (hx : env.scope.names.lookup x = some .local) (hy : env.scope.names.lookup y = some .local) (hl : (py.line == px.line) = true) (hxy : (x == y) = false)
    (hs : ([a, b].any fun | .Starred .. => true | _ => false) = false) (hf : [a, b].all (foldedForSure 8) = false) (hc : [a, b].all (constantsAlone 8) = false) :
    swappedStores [.Tuple [.Name x px, .Name y py] kt pt] (.Tuple [a, b] k2 pt2) env = pure (some [x, y]) := by
  have kx : env.kindOf x = some .local := hx
  have ky : env.kindOf y = some .local := hy
  have hb : env.blockKind = .function := by
    unfold Env.blockKind
    rw [hk]
    rfl
  have hyx : (y == x) = false := by rw [BEq.comm]; exact hxy
  have du : ([x, y].eraseDups.length != [x, y].length) = false := by
    simp [List.eraseDups, List.eraseDupsBy, List.eraseDupsBy.loop, hxy, hyx]
  have hl2 : py.line = px.line := by simpa using hl
  unfold swappedStores
  simp only [hb, hs, hf, hc, Expr.pos, List.head?_cons, Option.map_some, Option.getD_some, List.filterMap_cons, List.filterMap_nil, kx, ky, hl2, beq_self_eq_true, Bool.and_self, if_true]
  rw [if_neg (by simp)]
  refine (if_neg (fun z => Bool.false_ne_true (hs.symm.trans z))).trans ?_
  refine (if_neg (fun z => ?_)).trans rfl
  have z2 : (([x, y].length != [Expr.Name x px, Expr.Name y py].length) || ([x, y].eraseDups.length != [x, y].length)) = true := z
  rw [du] at z2
  simp at z2
end DZ
namespace DL
open PySem PySem.Spec PyProof.Rows L2
section
variable {G : Gm} {a b c e e2 elt tg iter : Expr} {es : List Expr} {rest sa sb body : List Stmt} {δ : Sto} {d d1 d2 : PyData} {ds es' : List PyData} {pos p p2 p3 pos2 spos px py pt pt2 : Pos} {x y : Str} {k n kt k2 : Nat} {P : Po} {Ps Pa : PsE} {Pt Pu : Sto → Bool → Prop} {Pre : List Sl → Prop} {R : RelO} {q : Addr} {w0 : Obd} {Pr : Sto → List PyData → Prop} {js : List Nat}
/-- what two names take: data, a new list -/
def putP (K : PySem.W.Frag) (s : Sl) : Res := match s with
  | .va d => rE K d
  | .ow ds => rN K ds
  | _ => fun _ _ _ _ => False
theorem Stt.putSl {K : PySem.W.Frag} {F0 H0 F H F' H' : Hp} {σ : L2.St} {v : V} {s : Sl} (S : Stt K F0 H0 F H σ δ) (g : Grow F H F' H') (i : Nat) (r : putP K s H F' H' v) : Stt K F0 H0 F' H' (σ.set i (some v)) (δ.set i s) := by
  cases s with
  | va d => exact (S.grow g).set i r
  | ow ds => exact S.setNew g i r
  | un => exact r.elim
  | ob p o => exact r.elim
theorem putP_grow {K : PySem.W.Frag} {s : Sl} {H F1 H1 F' H' : Hp} {v : V} (g : Grow F1 H1 F' H') (r : putP K s H F1 H1 v) : putP K s H F' H' v := by
  cases s with
  | va d => exact Rp.mono g.ff r
  | ow ds => exact RpN.grow g r
  | un => exact r
  | ob p o => exact r
/-- x, y = a, b -/
theorem s_par (i j : Nat) {s1 s2 : Sl} (h1 : DP G a δ (putP G.m.K s1)) (h2 : DP G b δ (putP G.m.K s2)) (k : DS G rest ((δ.set i s1).set j s2) P) (hij : i ≠ j := by decide) (hi : G.N[i]? = some x := by rfl) (hj : G.N[j]? = some y := by rfl) (hx : G.sc.names.lookup x = some .local := by rfl) (hy : G.sc.names.lookup y = some .local := by rfl)
    (hk : G.sc.kind = .function := by rfl) (hl : (py.line == px.line) = true := by rfl) (hxy : (x == y) = false := by decide) (hs : ([a, b].any fun | .Starred .. => true | _ => false) = false := by rfl) (hf : [a, b].all (foldedForSure 8) = false := by first | rfl | decide +kernel) (hc : [a, b].all (constantsAlone 8) = false := by first | rfl | decide +kernel)
    (hse : ∀ env, starEach [a, b] env = (false, eval a env) :: starEach [b] env := by intro _; rfl) (hse2 : ∀ env, starEach [b] env = [(false, eval b env)] := by intro _; rfl) (hw : ∀ env, swapsWithSole [.Tuple [.Name x px, .Name y py] kt pt] (.Tuple [a, b] k2 pt2) pos.line env = pure false := by intro _; rfl) :
    DS G (.Assign [.Tuple [.Name x px, .Name y py] kt pt] (.Tuple [a, b] k2 pt2) pos :: rest) δ P :=
  s_cons (ds1_of fun X hX => ⟨_, ps_par (i := i) (j := j) (ta := tCons (tmE X a) (tCons (tmE X b) tNil)) hX.calm hX.nd (by rw [hX.N]; exact hi) (by rw [hX.N]; exact hj) hij (by rw [hX.sc]; exact hx) (by rw [hX.sc]; exact hy) (pa_cons pe_m (pa_cons pe_m pa_nil (hse2 X.env)) (hse X.env)) (DZ.sw_par (by rw [hX.sc]; exact hk) (by rw [hX.sc]; exact hx) (by rw [hX.sc]; exact hy) hl hxy hs hf hc) (hw X.env), fun F0 H0 F H σ S D w => h1 X hX F0 H0 F H σ S _ fun v F1 H1 g1 r1 => h2 X hX F0 H0 F1 H1 σ (S.grow g1) _ fun u F2 H2 g2 r2 => by
    refine ⟨v, u, rfl, w.nx _ F2 H2 _ k (g1.trans g2).ff ?_⟩
    have S1 := S.putSl g1 i r1
    exact S1.putSl g2 j r2⟩)
/-- x[i] = e, x a list of one's own -/
theorem s_setIx (i : Nat) {ix : Expr} (he : DX G e δ fun δ1 d => ∃ (ds : List PyData) (j : Int) (jj : Nat), δ1[i]? = some (.ow ds) ∧ DE G ix δ1 (.int j) ∧ ixN ds.length j = some jj ∧ DS G rest (δ1.set i (.ow (ds.set jj d))) P) (hN : G.N[i]? = some x := by rfl) (hv : Vis G.sc x := by first | exact Or.inl rfl | exact Or.inr (Or.inl rfl) | exact Or.inr (Or.inr rfl))
    (hs : ∀ env, swapsWithSole [.Subscript (.Name x p) ix p2] e pos.line env = pure false := by intro _; rfl) (hw : ∀ env, swappedStores [.Subscript (.Name x p) ix p2] e env = pure none := by intro _; rfl) (h1 : ∀ env, (assignEach [.Subscript (.Name x p) ix p2] env).map (·.2) = [assign (.Subscript (.Name x p) ix p2) env] := by intro _; rfl) (hd : (x == ("__debug__" : Str)) = false := by decide) (hcd : (x == ("__classdict__" : Str)) = false := by decide)
    (ha : ∀ env v, assign (.Subscript (.Name x p) ix p2) env v = (do
      let ov ← holding [v] (eval (.Name x p) env)
      let iv ← holding [v, ov] (eval ix env)
      standAt p2
      holding [v, ov, iv] (setItem ov iv v)
      release [v, ov, iv] []) := by intro _ _; rfl) : DS G (.Assign [.Subscript (.Name x p) ix p2] e pos :: rest) δ P :=
  s_cons (ds1_of fun X hX => ⟨_, ps_asg pe_m (pg_sub (pe_var (i := i) (by rw [hX.N]; exact hN) (by rw [hX.sc]; exact hv) hd hcd) pe_m set_list (ha X.env)) (hs X.env) (hw X.env) (h1 X.env), fun F0 H0 F H σ S D w => he X hX F0 H0 F H σ S _ fun v d δ1 F1 H1 ⟨ds, j, jj, hi, hx, hjj, k⟩ s1 S1 r1 => by
    obtain ⟨p, xs, e1, h1, h2, h3, r⟩ := S1.ow i ds hi
    refine ⟨.ref p, e1, hx X hX F0 H0 F1 H1 σ S1 _ fun u F2 H2 g2 r2 => ?_⟩
    have S2 := S1.grow g2
    obtain ⟨p', xs', e1', h1', h2', h3', r'⟩ := S2.ow i ds hi
    rw [e1] at e1'
    cases e1'
    cases r2
    refine ⟨p, xs', j, jj, rfl, rfl, h1', by rw [r'.length]; exact hjj, ?_⟩
    exact w.nx _ F2 _ _ k (s1.trans g2.ff) (S2.chg hi e1 h2' h3' (r'.set jj (r1.mono g2.ff)))⟩)
theorem s_setIxB (i : Nat) {ix : Expr} (he : DX G e δ fun δ1 d => ∃ (q : Addr) (ds : List PyData) (j : Int) (jj : Nat), δ1[i]? = some (.ob q (.l ds)) ∧ DE G ix δ1 (.int j) ∧ ixN ds.length j = some jj ∧ DS G rest (δ1.set i (.ob q (.l (ds.set jj d)))) P) (hN : G.N[i]? = some x := by rfl) (hv : Vis G.sc x := by first | exact Or.inl rfl | exact Or.inr (Or.inl rfl) | exact Or.inr (Or.inr rfl))
    (hs : ∀ env, swapsWithSole [.Subscript (.Name x p) ix p2] e pos.line env = pure false := by intro _; rfl) (hw : ∀ env, swappedStores [.Subscript (.Name x p) ix p2] e env = pure none := by intro _; rfl) (h1 : ∀ env, (assignEach [.Subscript (.Name x p) ix p2] env).map (·.2) = [assign (.Subscript (.Name x p) ix p2) env] := by intro _; rfl) (hd : (x == ("__debug__" : Str)) = false := by decide) (hcd : (x == ("__classdict__" : Str)) = false := by decide)
    (ha : ∀ env v, assign (.Subscript (.Name x p) ix p2) env v = (do
      let ov ← holding [v] (eval (.Name x p) env)
      let iv ← holding [v, ov] (eval ix env)
      standAt p2
      holding [v, ov, iv] (setItem ov iv v)
      release [v, ov, iv] []) := by intro _ _; rfl) : DS G (.Assign [.Subscript (.Name x p) ix p2] e pos :: rest) δ P :=
  s_cons (ds1_of fun X hX => ⟨_, ps_asg pe_m (pg_sub (pe_var (i := i) (by rw [hX.N]; exact hN) (by rw [hX.sc]; exact hv) hd hcd) pe_m set_list (ha X.env)) (hs X.env) (hw X.env) (h1 X.env), fun F0 H0 F H σ S D w => he X hX F0 H0 F H σ S _ fun v d δ1 F1 H1 ⟨q, ds, j, jj, hi, hx, hjj, k⟩ s1 S1 r1 => by
    obtain ⟨e1, _⟩ := S1.ob i q _ hi
    refine ⟨.ref q, e1, hx X hX F0 H0 F1 H1 σ S1 _ fun u F2 H2 g2 r2 => ?_⟩
    have S2 := S1.grow g2
    obtain ⟨e1', ⟨xs', h1', r'⟩, h2', h3'⟩ := S2.ob i q _ hi
    cases r2
    refine ⟨q, xs', j, jj, rfl, rfl, h1', by rw [r'.length]; exact hjj, ?_⟩
    exact w.nx _ F2 _ _ k (s1.trans g2.ff) (S2.chgO hi ⟨_, upd_same, r'.set jj (r1.mono g2.ff)⟩)⟩)
/-- a tuple display with writes -/
theorem xTup {n : Nat} (h : DXA G es δ fun δ1 ds => ds.length ≤ 100000 ∧ Ps δ1 (.tuple ds)) : DX G (.Tuple es n pos) δ Ps := dx_of fun X hX => ⟨_, pe_tup pa_m, fun F0 H0 F H σ S Q q => h X hX F0 H0 F H σ S _ fun vs ds δ1 F1 H1 ⟨hz, p1⟩ s1 S1 r => by
  refine ⟨by rw [r.length, sizeLine_eq]; omega, fun p hp => ?_⟩
  have g := Grow.new (o := .tup vs) S1.sub hp
  exact q _ _ δ1 _ _ p1 (s1.trans g.ff) (S1.grow g) (.tup (SqT.of upd_same) (r.mono (same_new (S1.sub.free hp))))⟩
/-- tuple(list), sorted(ints), with writes -/
theorem xTupL (ha : DX G a δ fun δ1 d => ∃ ds, d = .list ds ∧ Ps δ1 (.tuple ds)) (hg : G.sc.names.lookup ("tuple" : Str) = some .globalImplicit := by rfl) (hs : ∀ env, starEach [a] env = [(false, eval a env)] := by intro _; rfl) : DX G (.Call (.Name "tuple" p) [a] [] pos) δ Ps :=
  dx_of fun X hX => ⟨_, pe_callTy (hX.K ▸ call_tuple_of) (by unfold Gl Env.kindOf; rw [hX.sc]; exact hg) (bi_glob (by decide) hX) (by decide +kernel) (pa_cons pe_m pa_nil (hs X.env)) (by decide) (by decide) (hs X.env) rfl, fun F0 H0 F H σ S Q q => ha X hX F0 H0 F H σ S _ fun v d δ1 F1 H1 ⟨ds, e, p⟩ s1 S1 r1 => by
    subst e
    cases r1 with
    | @lst a1 xs1 _ h1 h2 =>
      refine ⟨_, _, rfl, .inl ⟨SqL.of (S1.sub _ _ h1), fun l hl => ?_⟩⟩
      have g := Grow.new (o := .tup xs1) S1.sub hl
      exact q _ _ δ1 _ _ p (s1.trans g.ff) (S1.grow g) (.tup (SqT.of upd_same) (h2.mono (same_new (S1.sub.free hl))))⟩
theorem xSortI (ha : DX G a δ fun δ1 d => ∃ ns : List Int, d = .list (ns.map .int) ∧ Ps δ1 (.list ((srt ns).map .int))) (hg : G.sc.names.lookup ("sorted" : Str) = some .globalImplicit := by rfl) (hs : ∀ env, starEach [a] env = [(false, eval a env)] := by intro _; rfl) : DX G (.Call (.Name "sorted" p) [a] [] pos) δ Ps :=
  dx_of fun X hX => ⟨_, pe_callB (hX.K ▸ cr_sortedI) (by unfold Gl Env.kindOf; rw [hX.sc]; exact hg) (bi_glob (by decide) hX) (by decide +kernel) (pa_cons pe_m pa_nil (hs X.env)) (by decide) (by decide) (hs X.env) rfl, fun F0 H0 F H σ S Q q => ha X hX F0 H0 F H σ S _ fun v d δ1 F1 H1 ⟨ns, e, p⟩ s1 S1 r1 => by
    subst e
    cases r1 with
    | lst h1 h2 =>
      rw [h2.ints] at h1
      refine ⟨_, ns, rfl, SqL.of (S1.sub _ _ h1), fun ms z hp ho hz => ?_⟩
      have em : ms = srt ns := by
        refine List.Perm.eq_of_pairwise (le := fun x y : Int => x ≤ y) (fun a b _ _ h1 h2 => Int.le_antisymm h1 h2) ho ?_ (hp.trans (List.mergeSort_perm ns _).symm)
        have := List.pairwise_mergeSort (le := fun a b : Int => decide (a ≤ b)) (fun a b c h1 h2 => by simp at *; omega) (fun a b => by simp; omega) ns
        exact this.imp fun h => by simpa using h
      subst em
      have g := Grow.new (o := .lst ((srt ns).map V.int)) S1.sub hz
      exact q _ _ δ1 _ _ p (s1.trans g.ff) (S1.grow g) (.lst upd_same (.of_ints _))⟩
/-- list(range(n)) -/
theorem listR {j : Int} (h : DC G e δ (.int j)) (hb : 0 ≤ j ∧ j ≤ 100000) (hg : G.sc.names.lookup ("range" : Str) = some .globalImplicit := by rfl) (hgl : G.sc.names.lookup ("list" : Str) = some .globalImplicit := by rfl) (hs : ∀ env, starEach [e] env = (false, eval e env) :: starEach [] env := by intro _; rfl) : DN G (.Call (.Name "list" p) [.Call (.Name "range" p2) [e] [] pos] [] pos2) δ (rgD 0 j.toNat) :=
  dp_of fun X hX => ⟨_, pe_listRg hX.calm (by unfold Gl Env.kindOf; rw [hX.sc]; exact hgl) (bi_glob (by decide) hX) (prg_1 (by unfold Gl Env.kindOf; rw [hX.sc]; exact hg) (bi_glob (by decide) hX) pe_m (hs X.env)), fun F0 H0 F H σ S Q q => h X hX F0 H0 F H σ S _ fun v F1 H1 g r => by
    refine ⟨j, r.inInt, RgOk.of_le (by decide) (by omega) (by decide) hb.1, fun z hz => q _ F1 _ (g.trans (Grow.newN g.sub hz)) ⟨z, _, rfl, g.hh.free hz, upd_same, g.sub.free hz, ?_⟩⟩
    unfold rgV rgD
    rw [Int.sub_zero]
    have : ∀ l : List Nat, RpA G.m.K F1 (l.map fun i => V.int (0 + (i : Nat))) (l.map fun (k : Nat) => PyData.int (0 + (k : Int))) := fun l => by
      induction l with
      | nil => exact .nil
      | cons a l ih => exact .cons (.int _) ih
    exact this _⟩
/-- right operand with writes: x[f(..)] -/
theorem xIxL (ha : DC G a δ (.list ds)) (frz : ∀ X, XOk G X → EvP G.m.K (tmE X a) δ (rE G.m.K (.list ds))) (hb : DX G b δ fun δ1 d => ∃ (j : Int) (y : PyData), d = .int j ∧ atI ds j = some y ∧ Ps δ1 y) (hs : PlainIx b := by intro _ _; rfl) : DX G (.Subscript a b pos) δ Ps :=
  dx_of fun X hX => ⟨tOp (rIxL G.m.K) _ _, pe_ix (hX.K ▸ ix_list) pe_m pe_m hs, fun F0 H0 F H σ S Q q => frz X hX F0 H0 F H σ S _ fun v F1 H1 g1 r1 => hb X hX F0 H0 F1 H1 σ (S.grow g1) _ fun u d δ2 F2 H2 ⟨j, y, e, hy, p⟩ s2 S2 r2 => by
    subst e
    cases r2
    have r1' := r1.mono s2
    cases r1' with
    | lst h1 h2 =>
      obtain ⟨w, e2, r⟩ := h2.atI hy
      exact ⟨_, _, j, w, rfl, rfl, SqL.of (S2.sub _ _ h1), e2, q w y δ2 F2 H2 p (g1.ff.trans s2) S2 r⟩⟩
/-- for, its source with writes -/
theorem s_forX {α : Type} {j : Nat → Int} {xs : List PyData} (he : DX G e δ fun δ1 d => ∃ (n : Nat) (I : Nat → Sto → Prop), d = .int (n : Int) ∧ n ≤ 1000000 ∧ I 0 δ1 ∧ (∀ i δ', i < n → I i δ' → ∃ δ2, DG G tg js δ' (.int (i : Int)) δ2 ∧ DS G body δ2 { nx := I (i + 1), ct := I (i + 1), bk := fun δ' => DS G rest δ' P, rt := P.rt }) ∧ ∀ δ', I n δ' → DS G rest δ' P)
    (hg : G.sc.names.lookup ("range" : Str) = some .globalImplicit := by rfl) (hs1 : ∀ env, starEach [e] env = [(false, eval e env)] := by intro _; rfl) (hs : ∀ env x, foldedSetIterable (.Call (.Name "range" p) [e] [] pos2) env x = pure x := by intro _ _; rfl) : DS G (.For tg (.Call (.Name "range" p) [e] [] pos2) body [] pos :: rest) δ P :=
  s_cons (ds1_of fun X hX => ⟨_, ps_for (by rw [hX.xe]; exact PassesOwn.never) hX.calm (pi_range1 (by unfold Gl Env.kindOf; rw [hX.sc]; exact hg) (bi_glob (by decide) hX) (pa_cons pe_m pa_nil (hs1 X.env)) (hs1 X.env)) (pg_g hX) pss_m (hs X.env), fun F0 H0 F H σ S D w => he X hX F0 H0 F H σ S _ fun v d δ1 F1 H1 ⟨n, I, ed, hn, hI0, hb, hd⟩ s1 S1 r1 => by
    subst ed
    cases r1
    refine ⟨(n : Int), rfl, by omega, by omega, ?_⟩
    rw [Int.toNat_natCast]
    refine ⟨fun i m σ' H' => m = n - i ∧ i ≤ n ∧ ∃ δ' F', I i δ' ∧ Same F1 F' ∧ Stt G.m.K F0 H0 F' H' σ' δ', ⟨n, rfl, Nat.zero_le _, δ1, F1, hI0, Same.refl F1, S1⟩, ?_⟩
    rintro i m σ' H' ⟨rfl, hle, δ', F', hI, sF, S'⟩
    by_cases hlt : i < n
    · refine .inr ⟨hlt, fun σ2 H2 => ∃ δ2 F2, I (i + 1) δ2 ∧ Same F1 F2 ∧ Stt G.m.K F0 H0 F2 H2 σ2 δ2, fun σ2 H2 h => ⟨n - (i + 1), by omega, rfl, hlt, h⟩, fun y H2 hy => ?_⟩
      obtain ⟨rfl, rfl⟩ := hy
      obtain ⟨δ2, hg2, hbo⟩ := hb i δ' hlt hI
      rw [show (0 : Int) + (i : Int) = (i : Int) by omega]
      refine gmg_of hg2 F0 H0 F' _ σ' _ S' (.int _) _ fun σ3 S3 _ => ?_
      exact hbo X hX F0 H0 F' _ σ3 S3 _ ⟨fun δ4 F4 H4 σ4 p s4 S4 => ⟨δ4, F4, p, sF.trans s4, S4⟩, fun δ4 d v F4 H4 σ4 p s4 S4 r => w.rt δ4 d v F4 H4 σ4 p ((s1.trans sF).trans s4) S4 r, fun δ4 F4 H4 σ4 p s4 S4 => w.nx δ4 F4 H4 σ4 p ((s1.trans sF).trans s4) S4, fun δ4 F4 H4 σ4 p s4 S4 => ⟨δ4, F4, p, sF.trans s4, S4⟩, fun _ _ _ _ p => p.elim⟩
    · have ei : i = n := by omega
      subst ei
      exact .inl ⟨Nat.le_refl _, w.nx δ' F' H' σ' (hd δ' hI) (s1.trans sF) S'⟩⟩)
end
end DL
set_option Elab.async false
set_option linter.all false
set_option maxRecDepth 100000
set_option maxHeartbeats 4000000
namespace DL
open PySem PySem.Spec PyProof.Rows L2
section
variable {G : Gm} {a b c e e2 e3 e4 elt tg iter : Expr} {es : List Expr} {rest sa sb body : List Stmt} {δ : Sto} {d d0 d1 d2 : PyData} {ds es' : List PyData} {pos p p2 p3 p4 pos2 spos px py pt pt2 : Pos} {x y y2 y3 : Str} {k n kt k2 : Nat} {P : Po} {Ps Pa : PsE} {Pt Pu : Sto → Bool → Prop} {Pre : List Sl → Prop} {R : RelO} {q q1 q2 q3 : Addr} {w0 w1 w2 w3 : Obd}
/-- f([..]), f writes at the new list alone -/
theorem callF (c : CalO G.m k x 1 Pre R) (he : DN G e δ ds) (hP : ∀ z, Pre [.ob z (.l ds)]) (hR : ∀ z w' d, R [.ob z (.l ds)] d [.ob z w'] → d = d0) (hk : k ≤ G.k := by exact Nat.le_of_ble_eq_true rfl) (hg : G.sc.names.lookup x = some .globalImplicit := by rfl) (hdb : (x == ("__debug__" : Str)) = false := by decide)
    (hs : ∀ env, starEach [e] env = (false, eval e env) :: starEach [] env := by intro _; rfl) (hpl : ∀ env, (backTo pos (starEach [] env)).any (·.1) = false := by intro _; rfl) : DE G (.Call (.Name x p) [e] [] pos) δ d0 :=
  dp_of fun X hX => by
    obtain ⟨f, fd, ps, F, hm, kp, b⟩ := c.ex
    refine ⟨tCall (spO G.m.K 1 Pre R) [] E0 (tCons (tmE X e) tNil), pe_call (k := k) (f := f) (fd := fd) (ps := ps) ?_ (hX.room.mono hk) (by unfold Gl Env.kindOf; rw [hX.sc]; exact hg) (by rw [hX.mg]; exact hm) (by rw [hX.K]; exact kp) (by rw [hX.K]; exact b) .nil pass0 (pa_cons pe_m pa_nil (hs X.env)) hdb (hs X.env) (hpl X.env), ?_⟩
    · rw [hX.prog, hX.w, hX.K, hX.mg, hX.base]; exact F
    · intro F0 H0 F1 H1 σ S Q qq
      refine he X hX F0 H0 F1 H1 σ S _ fun v F2 H2 g2 r2 => ?_
      obtain ⟨z, xs, rfl, b1, b2, b3, b4⟩ := r2
      have only : ∀ {j : Nat} {s : Sl}, [Sl.ob z (.l ds)][j]? = some s → j = 0 ∧ s = .ob z (.l ds) := fun {j s} h => by
        cases j with
        | zero => cases h; exact ⟨rfl, rfl⟩
        | succ j => simp at h
      have ok : ArOk [Sl.ob z (.l ds)] := fun j s h => .inr ⟨_, _, (only h).2⟩
      have A : Stt G.m.K F2 (ers [.ob z (.l ds)] H2) F2 H2 ([V.ref z].map some) [.ob z (.l ds)] := by
        refine stt_ars g2.sub rfl ok (fun j d h => ?_) (fun j p o h => ?_) fun j l p p' o u hjl h1 h2 => ?_
        · cases (only h).2
        · obtain ⟨rfl, e⟩ := only h
          cases e
          exact ⟨rfl, ⟨xs, b2, b4⟩, b3⟩
        · exact absurd ((only h1).1.trans (only h2).1.symm) hjl
      refine ⟨F2, [.ob z (.l ds)], A, rfl, ok, hP z, fun v d as' F3 H3 af hr sF A' rv => ?_⟩
      obtain ⟨w', ew⟩ := ar1 (ds := []) af
      have ew : as' = [.ob z w'] := ew
      subst ew
      have e := hR z w' d hr
      subst e
      have nz : F3 z = none := (A'.ob 0 z w' rfl).2.2.1
      have keep : ∀ b x, b ≠ z → H2 b = some x → H3 b = some x := fun b x n e => A'.gr.hh b x (by rw [ers_of fun i o h => n (by cases (only h).2; rfl)]; exact e)
      refine qq v F3 H3 ⟨g2.ff.trans sF, fun b x e => ?_, A'.gr.sub, fun b x e => ?_⟩ rv
      · exact keep b x (fun z0 => by rw [z0, b1] at e; cases e) (g2.hh b x e)
      · rcases A'.gr.nw b x e with h | h
        · exact g2.nw b x h
        · by_cases hb : b = z
          · rw [hb, nz] at e
            cases e
          · rw [ers_of fun i o h => hb (by cases (only h).2; rfl)] at h
            exact .inr (g2.hh.free h)
theorem ar4 {s0 : PyData} {as' : List Sl} (h : ArAf [.va s0, .ob q1 w1, .ob q2 w2, .ob q3 w3] as') : ∃ v1 v2 v3, as' = [.un, .ob q1 v1, .ob q2 v2, .ob q3 v3] := by
  obtain ⟨hl, h⟩ := h
  obtain ⟨t0, t1, t2, t3, rfl⟩ : ∃ t0 t1 t2 t3, as' = [t0, t1, t2, t3] := by
    match as', hl with
    | [t0, t1, t2, t3], _ => exact ⟨_, _, _, _, rfl⟩
  have h0 := h 0
  have h1 := h 1
  have h2 := h 2
  have h3 := h 3
  simp only [List.getElem?_cons_zero, List.getElem?_cons_succ, Option.some.injEq] at h0 h1 h2 h3
  have e0 : t0 = .un := by
    rcases h0 with ⟨p, o, o', z, _⟩ | ⟨_, z | z⟩
    · cases z
    · exact z
    · cases z
  have g : ∀ {t : Sl} {qq : Addr} {w : Obd}, ((∃ p o o', Sl.ob qq w = .ob p o ∧ t = .ob p o') ∨ (∀ p o, some (Sl.ob qq w) ≠ some (.ob p o)) ∧ (t = .un ∨ some t = none)) → ∃ w', t = .ob qq w' := fun {t qq w} h => by
    rcases h with ⟨p, o, o', z, e⟩ | ⟨n, _⟩
    · cases z
      exact ⟨o', e⟩
    · exact absurd rfl (n qq w)
  obtain ⟨v1, rfl⟩ := g h1
  obtain ⟨v2, rfl⟩ := g h2
  obtain ⟨v3, rfl⟩ := g h3
  subst e0
  exact ⟨v1, v2, v3, rfl⟩
theorem get4 {s0 s1 s2 s3 s : Sl} {j : Nat} (h : [s0, s1, s2, s3][j]? = some s) : (j = 0 ∧ s = s0) ∨ (j = 1 ∧ s = s1) ∨ (j = 2 ∧ s = s2) ∨ (j = 3 ∧ s = s3) := by
  match j, h with
  | 0, h => cases h; exact .inl ⟨rfl, rfl⟩
  | 1, h => cases h; exact .inr (.inl ⟨rfl, rfl⟩)
  | 2, h => cases h; exact .inr (.inr (.inl ⟨rfl, rfl⟩))
  | 3, h => cases h; exact .inr (.inr (.inr ⟨rfl, rfl⟩))
  | j + 4, h => simp at h
/-- the state at a call of one datum and three objects of one's own -/
theorem stt4 {K : PySem.W.Frag} {F H : Hp} {v : V} (s : Same F H) (r : Rp K F v d0) (o1 : ObR K F H q1 w1) (o2 : ObR K F H q2 w2) (o3 : ObR K F H q3 w3) (f1 : F q1 = none) (f2 : F q2 = none) (f3 : F q3 = none) (n12 : q1 ≠ q2) (n13 : q1 ≠ q3) (n23 : q2 ≠ q3) :
    Stt K F (ers [.va d0, .ob q1 w1, .ob q2 w2, .ob q3 w3] H) F H ([v, .ref q1, .ref q2, .ref q3].map some) [.va d0, .ob q1 w1, .ob q2 w2, .ob q3 w3] := by
  refine stt_ars s rfl (fun j t h => ?_) (fun j d h => ?_) (fun j p o h => ?_) fun j l p p' o u hjl h1 h2 => ?_
  · rcases get4 h with ⟨_, rfl⟩ | ⟨_, rfl⟩ | ⟨_, rfl⟩ | ⟨_, rfl⟩
    · exact .inl ⟨_, rfl⟩
    · exact .inr ⟨_, _, rfl⟩
    · exact .inr ⟨_, _, rfl⟩
    · exact .inr ⟨_, _, rfl⟩
  · rcases get4 h with ⟨rfl, e⟩ | ⟨rfl, e⟩ | ⟨rfl, e⟩ | ⟨rfl, e⟩ <;> cases e
    exact ⟨v, rfl, r⟩
  · rcases get4 h with ⟨rfl, e⟩ | ⟨rfl, e⟩ | ⟨rfl, e⟩ | ⟨rfl, e⟩ <;> cases e
    · exact ⟨rfl, o1, f1⟩
    · exact ⟨rfl, o2, f2⟩
    · exact ⟨rfl, o3, f3⟩
  · rcases get4 h1 with ⟨rfl, e⟩ | ⟨rfl, e⟩ | ⟨rfl, e⟩ | ⟨rfl, e⟩ <;> cases e <;> rcases get4 h2 with ⟨rfl, e⟩ | ⟨rfl, e⟩ | ⟨rfl, e⟩ | ⟨rfl, e⟩ <;> cases e <;> first | exact absurd rfl hjl | assumption | exact Ne.symm ‹_›
theorem ok4 : ArOk [.va d0, .ob q1 w1, .ob q2 w2, .ob q3 w3] := fun j t h => by
  rcases get4 h with ⟨_, rfl⟩ | ⟨_, rfl⟩ | ⟨_, rfl⟩ | ⟨_, rfl⟩
  · exact .inl ⟨_, rfl⟩
  · exact .inr ⟨_, _, rfl⟩
  · exact .inr ⟨_, _, rfl⟩
  · exact .inr ⟨_, _, rfl⟩
/-- f(e, x, y, z), f writes at the three -/
theorem x_call3 (c : CalO G.m k x 4 Pre R) (i1 i2 i3 : Nat) (he : DE G e δ d0) (h1 : δ[i1]? = some (.ob q1 w1)) (h2 : δ[i2]? = some (.ob q2 w2)) (h3 : δ[i3]? = some (.ob q3 w3)) (n12 : i1 ≠ i2) (n13 : i1 ≠ i3) (n23 : i2 ≠ i3) (hP : Pre [.va d0, .ob q1 w1, .ob q2 w2, .ob q3 w3])
    (hR : ∀ d v1 v2 v3, R [.va d0, .ob q1 w1, .ob q2 w2, .ob q3 w3] d [.un, .ob q1 v1, .ob q2 v2, .ob q3 v3] → Ps (((δ.set i1 (.ob q1 v1)).set i2 (.ob q2 v2)).set i3 (.ob q3 v3)) d)
    (hk : k ≤ G.k := by exact Nat.le_of_ble_eq_true rfl) (hg : G.sc.names.lookup x = some .globalImplicit := by rfl) (hN1 : G.N[i1]? = some y := by rfl) (hN2 : G.N[i2]? = some y2 := by rfl) (hN3 : G.N[i3]? = some y3 := by rfl) (hv1 : Vis G.sc y := by first | exact Or.inl rfl | exact Or.inr (Or.inl rfl) | exact Or.inr (Or.inr rfl)) (hv2 : Vis G.sc y2 := by first | exact Or.inl rfl | exact Or.inr (Or.inl rfl) | exact Or.inr (Or.inr rfl)) (hv3 : Vis G.sc y3 := by first | exact Or.inl rfl | exact Or.inr (Or.inl rfl) | exact Or.inr (Or.inr rfl))
    (hdb : (x == ("__debug__" : Str)) = false := by decide) (hd1 : (y == ("__debug__" : Str)) = false := by decide) (hc1 : (y == ("__classdict__" : Str)) = false := by decide) (hd2 : (y2 == ("__debug__" : Str)) = false := by decide) (hc2 : (y2 == ("__classdict__" : Str)) = false := by decide) (hd3 : (y3 == ("__debug__" : Str)) = false := by decide) (hc3 : (y3 == ("__classdict__" : Str)) = false := by decide)
    (hs : ∀ env, starEach [e, .Name y p2, .Name y2 p3, .Name y3 p4] env = (false, eval e env) :: starEach [.Name y p2, .Name y2 p3, .Name y3 p4] env := by intro _; rfl) : DX G (.Call (.Name x p) [e, .Name y p2, .Name y2 p3, .Name y3 p4] [] pos) δ Ps :=
  dx_of fun X hX => by
    obtain ⟨f, fd, ps, F, hm, kp, b⟩ := c.ex
    refine ⟨tCall (spO G.m.K 4 Pre R) [] E0 (tCons (tmE X e) (tCons (tVar i1) (tCons (tVar i2) (tCons (tVar i3) tNil)))), pe_call (k := k) (f := f) (fd := fd) (ps := ps) ?_ (hX.room.mono hk) (by unfold Gl Env.kindOf; rw [hX.sc]; exact hg) (by rw [hX.mg]; exact hm) (by rw [hX.K]; exact kp) (by rw [hX.K]; exact b) .nil pass0
      (pa_cons pe_m (pa_cons (pe_var (i := i1) (by rw [hX.N]; exact hN1) (by rw [hX.sc]; exact hv1) hd1 hc1) (pa_cons (pe_var (i := i2) (by rw [hX.N]; exact hN2) (by rw [hX.sc]; exact hv2) hd2 hc2) (pa_cons (pe_var (i := i3) (by rw [hX.N]; exact hN3) (by rw [hX.sc]; exact hv3) hd3 hc3) pa_nil (by rfl)) (by rfl)) (by rfl)) (hs X.env)) hdb (hs X.env) (by rfl), ?_⟩
    · rw [hX.prog, hX.w, hX.K, hX.mg, hX.base]; exact F
    · intro F0 H0 F1 H1 σ S Q qq
      refine he X hX F0 H0 F1 H1 σ S _ fun v F2 H2 g2 r2 => ?_
      have S2 := S.grow g2
      obtain ⟨e1, o1, f1, z1⟩ := S2.ob i1 q1 w1 h1
      obtain ⟨e2, o2, f2, z2⟩ := S2.ob i2 q2 w2 h2
      obtain ⟨e3, o3, f3, z3⟩ := S2.ob i3 q3 w3 h3
      have m12 := S2.op i1 i2 q1 q2 w1 w2 n12 h1 h2
      have m13 := S2.op i1 i3 q1 q3 w1 w3 n13 h1 h3
      have m23 := S2.op i2 i3 q2 q3 w2 w3 n23 h2 h3
      refine ⟨.ref q1, e1, .ref q2, e2, .ref q3, e3, ?_⟩
      have A := stt4 S2.sub r2 o1 o2 o3 f1 f2 f3 m12 m13 m23
      refine ⟨F2, _, A, rfl, ok4, hP, fun v d as' F3 H3 af hr sF A' rv => ?_⟩
      obtain ⟨v1, v2, v3, rfl⟩ := ar4 af
      refine qq v d _ F3 H3 (hR d v1 v2 v3 hr) (g2.ff.trans sF) (S2.after A' af sF (fun j p o h => ?_) (by simp) fun j => ?_) rv
      · rcases get4 h with ⟨rfl, e⟩ | ⟨rfl, e⟩ | ⟨rfl, e⟩ | ⟨rfl, e⟩ <;> cases e
        · exact ⟨z1, fun l ds hl => S2.oq i1 l _ _ ds h1 hl⟩
        · exact ⟨z2, fun l ds hl => S2.oq i2 l _ _ ds h2 hl⟩
        · exact ⟨z3, fun l ds hl => S2.oq i3 l _ _ ds h3 hl⟩
      · have l1 := lt_of_get h1
        have l2 := lt_of_get h2
        have l3 := lt_of_get h3
        by_cases j3 : i3 = j
        · subst j3
          exact .inr ⟨q3, w3, v3, 3, h3, get_set_at (by simpa using l3), rfl⟩
        · by_cases j2 : i2 = j
          · subst j2
            exact .inr ⟨q2, w2, v2, 2, h2, by rw [get_set_ne j3]; exact get_set_at (by simpa using l2), rfl⟩
          · by_cases j1 : i1 = j
            · subst j1
              exact .inr ⟨q1, w1, v1, 1, h1, by rw [get_set_ne j3, get_set_ne j2]; exact get_set_at l1, rfl⟩
            · refine .inl ⟨by rw [get_set_ne j3, get_set_ne j2, get_set_ne j1], fun p o hp l u hl => ?_⟩
              rcases get4 hl with ⟨rfl, e⟩ | ⟨rfl, e⟩ | ⟨rfl, e⟩ | ⟨rfl, e⟩ <;> cases e
              · exact S2.op i1 j _ _ _ _ j1 h1 hp rfl
              · exact S2.op i2 j _ _ _ _ j2 h2 hp rfl
              · exact S2.op i3 j _ _ _ _ j3 h3 hp rfl
/-- f(e, x, y, []), f writes at the three -/
theorem x_call2F (c : CalO G.m k x 4 Pre R) (i1 i2 : Nat) (he : DE G e δ d0) (h1 : δ[i1]? = some (.ob q1 w1)) (h2 : δ[i2]? = some (.ob q2 w2)) (n12 : i1 ≠ i2) (hP : ∀ z, Pre [.va d0, .ob q1 w1, .ob q2 w2, .ob z (.l [])])
    (hR : ∀ z d v1 v2 v3, R [.va d0, .ob q1 w1, .ob q2 w2, .ob z (.l [])] d [.un, .ob q1 v1, .ob q2 v2, .ob z v3] → Ps ((δ.set i1 (.ob q1 v1)).set i2 (.ob q2 v2)) d)
    (hk : k ≤ G.k := by exact Nat.le_of_ble_eq_true rfl) (hg : G.sc.names.lookup x = some .globalImplicit := by rfl) (hN1 : G.N[i1]? = some y := by rfl) (hN2 : G.N[i2]? = some y2 := by rfl) (hv1 : Vis G.sc y := by first | exact Or.inl rfl | exact Or.inr (Or.inl rfl) | exact Or.inr (Or.inr rfl)) (hv2 : Vis G.sc y2 := by first | exact Or.inl rfl | exact Or.inr (Or.inl rfl) | exact Or.inr (Or.inr rfl))
    (hdb : (x == ("__debug__" : Str)) = false := by decide) (hd1 : (y == ("__debug__" : Str)) = false := by decide) (hc1 : (y == ("__classdict__" : Str)) = false := by decide) (hd2 : (y2 == ("__debug__" : Str)) = false := by decide) (hc2 : (y2 == ("__classdict__" : Str)) = false := by decide)
    (hs : ∀ env, starEach [e, .Name y p2, .Name y2 p3, .List [] p4] env = (false, eval e env) :: starEach [.Name y p2, .Name y2 p3, .List [] p4] env := by intro _; rfl) : DX G (.Call (.Name x p) [e, .Name y p2, .Name y2 p3, .List [] p4] [] pos) δ Ps :=
  dx_of fun X hX => by
    obtain ⟨f, fd, ps, F, hm, kp, b⟩ := c.ex
    refine ⟨tCall (spO G.m.K 4 Pre R) [] E0 (tCons (tmE X e) (tCons (tVar i1) (tCons (tVar i2) (tCons (tLst tNil) tNil)))), pe_call (k := k) (f := f) (fd := fd) (ps := ps) ?_ (hX.room.mono hk) (by unfold Gl Env.kindOf; rw [hX.sc]; exact hg) (by rw [hX.mg]; exact hm) (by rw [hX.K]; exact kp) (by rw [hX.K]; exact b) .nil pass0
      (pa_cons pe_m (pa_cons (pe_var (i := i1) (by rw [hX.N]; exact hN1) (by rw [hX.sc]; exact hv1) hd1 hc1) (pa_cons (pe_var (i := i2) (by rw [hX.N]; exact hN2) (by rw [hX.sc]; exact hv2) hd2 hc2) (pa_cons (pe_lst pa_nil) pa_nil (by rfl)) (by rfl)) (by rfl)) (hs X.env)) hdb (hs X.env) (by rfl), ?_⟩
    · rw [hX.prog, hX.w, hX.K, hX.mg, hX.base]; exact F
    · intro F0 H0 F1 H1 σ S Q qq
      refine he X hX F0 H0 F1 H1 σ S _ fun v F2 H2 g2 r2 => ?_
      have S2 := S.grow g2
      obtain ⟨e1, o1, f1, z1⟩ := S2.ob i1 q1 w1 h1
      obtain ⟨e2, o2, f2, z2⟩ := S2.ob i2 q2 w2 h2
      have m12 := S2.op i1 i2 q1 q2 w1 w2 n12 h1 h2
      refine ⟨.ref q1, e1, .ref q2, e2, by show 0 ≤ sizeLine; exact Nat.zero_le _, fun z hz => ?_⟩
      have gN : Grow F2 H2 F2 (upd H2 z (.lst [])) := Grow.newN S2.sub hz
      have S3 := S2.grow gN
      have nz : ∀ {p : Addr} {x : HO}, H2 p = some x → p ≠ z := fun {p x} h e => by
        rw [e, hz] at h
        cases h
      obtain ⟨x1, hx1⟩ := o1.some
      obtain ⟨x2, hx2⟩ := o2.some
      have A := stt4 (d0 := d0) (q3 := z) (w3 := .l []) S3.sub r2 (o1.heap (upd_ne (nz hx1))) (o2.heap (upd_ne (nz hx2))) ⟨[], upd_same, .nil⟩ f1 f2 (S2.sub.free hz) m12 (nz hx1) (nz hx2)
      refine ⟨F2, _, A, rfl, ok4, hP z, fun v d as' F3 H3 af hr sF A' rv => ?_⟩
      obtain ⟨v1, v2, v3, rfl⟩ := ar4 af
      refine qq v d _ F3 H3 (hR z d v1 v2 v3 hr) (g2.ff.trans sF) (S3.after A' af sF (fun j p o h => ?_) (by simp) fun j => ?_) rv
      · rcases get4 h with ⟨rfl, e⟩ | ⟨rfl, e⟩ | ⟨rfl, e⟩ | ⟨rfl, e⟩ <;> cases e
        · exact ⟨z1, fun l ds hl => S2.oq i1 l _ _ ds h1 hl⟩
        · exact ⟨z2, fun l ds hl => S2.oq i2 l _ _ ds h2 hl⟩
        · refine ⟨S2.gr.hh.free hz, fun l ds hl hc => ?_⟩
          obtain ⟨p, xs, a1, a2, _⟩ := S2.ow l ds hl
          rw [a1] at hc
          cases hc
          exact nz a2 rfl
      · have l1 := lt_of_get h1
        have l2 := lt_of_get h2
        by_cases j2 : i2 = j
        · subst j2
          exact .inr ⟨q2, w2, v2, 2, h2, get_set_at (by simpa using l2), rfl⟩
        · by_cases j1 : i1 = j
          · subst j1
            exact .inr ⟨q1, w1, v1, 1, h1, by rw [get_set_ne j2]; exact get_set_at l1, rfl⟩
          · refine .inl ⟨by rw [get_set_ne j2, get_set_ne j1], fun p o hp l u hl => ?_⟩
            rcases get4 hl with ⟨rfl, e⟩ | ⟨rfl, e⟩ | ⟨rfl, e⟩ | ⟨rfl, e⟩ <;> cases e
            · exact S2.op i1 j _ _ _ _ j1 h1 hp rfl
            · exact S2.op i2 j _ _ _ _ j2 h2 hp rfl
            · obtain ⟨_, o9, _⟩ := S2.ob j _ _ hp
              obtain ⟨x9, h9⟩ := o9.some
              exact nz h9 rfl
end
end DL
set_option Elab.async false
set_option linter.all false
set_option maxRecDepth 100000
set_option maxHeartbeats 2000000
namespace DL
open PySem PySem.Spec PyProof.Rows L2
/-! ### how things are written as data -/
abbrev tI (ns : List Int) : PyData := .tuple (ns.map .int)
abbrev lI (ns : List Int) : PyData := .list (ns.map .int)
def tP (p : Int × Int) : PyData := .tuple [.int p.1, .int p.2]
abbrev tC (cp : List (Int × Int)) : PyData := .tuple (cp.map tP)
section
variable {G : Gm} {δ : Sto} {elt tg iter : Expr} {scope : Scope} {pos : Pos} {js : List Nat} {α : Type} {own : List (Str × Nat)} {xs : List α} {enc : α → PyData} {δ2 : α → Sto} {f : α → PyData} {ifs : List Expr} {p : α → Bool}
theorem DI.cast' {ds es : List PyData} (h : DI G tg iter δ ds) (q : ds = es) : DI G tg iter δ es := q ▸ h
/-- no tests -/
theorem lc0 (L : LcOk G own js scope elt tg iter [] δ xs enc δ2 (fun _ => true) f) (hs : ∀ env x, foldedSetIterable iter env x = pure x := by intro _ _; rfl) : DN G (.ListComp elt [⟨tg, iter, [], 0⟩] scope pos) δ (xs.map f) :=
  (lc L hs).cast (by rw [List.filter_eq_self.mpr (fun _ _ => rfl)])
theorem lcB {g : α → Bool} (L : LcOk G own js scope elt tg iter [] δ xs enc δ2 (fun _ => true) (fun a => .bool (g a))) (hs : ∀ env x, foldedSetIterable iter env x = pure x := by intro _ _; rfl) : DC G (.ListComp elt [⟨tg, iter, [], 0⟩] scope pos) δ (.list ((xs.map g).map .bool)) :=
  dnc ((lc0 L hs).cast (by rw [List.map_map]; rfl))
theorem lcI {g : α → Int} (L : LcOk G own js scope elt tg iter ifs δ xs enc δ2 p (fun a => .int (g a))) (hs : ∀ env x, foldedSetIterable iter env x = pure x := by intro _ _; rfl) : DN G (.ListComp elt [⟨tg, iter, ifs, 0⟩] scope pos) δ (((xs.filter p).map g).map .int) :=
  (lc L hs).cast (by rw [List.map_map]; rfl)
/-- ints as they are -/
theorem lcS {xs : List Int} {p : Int → Bool} {enc : Int → PyData} {δ2 : Int → Sto} (L : LcOk G own js scope elt tg iter ifs δ xs enc δ2 p (fun a => .int a)) (hs : ∀ env x, foldedSetIterable iter env x = pure x := by intro _ _; rfl) : DN G (.ListComp elt [⟨tg, iter, ifs, 0⟩] scope pos) δ ((xs.filter p).map .int) := lc L hs
end
theorem k_ii : kitB "int" "int" = some true := by decide +kernel
theorem k_ib : kitB "int" "bool" = some false := by decide +kernel
theorem k_tt : kitB "tuple" "tuple" = some true := by decide +kernel
theorem k_tl : kitB "tuple" "list" = some false := by decide +kernel
theorem k_il : kitB "int" "list" = some false := by decide +kernel
theorem k_it : kitB "int" "tuple" = some false := by decide +kernel
theorem k_sl : kitB "str" "list" = some false := by decide +kernel
theorem k_st : kitB "str" "tuple" = some false := by decide +kernel
theorem k_ll : kitB "list" "list" = some true := by decide +kernel
theorem k_lt : kitB "list" "tuple" = some false := by decide +kernel
theorem k_bl : kitB "bool" "list" = some false := by decide +kernel
theorem k_bt : kitB "bool" "tuple" = some false := by decide +kernel
theorem k_bb : kitB "bool" "bool" = some true := by decide +kernel
theorem k_bi : kitB "bool" "int" = some true := by decide +kernel
theorem k_bs : kitB "bool" "str" = some false := by decide +kernel
theorem k_is : kitB "int" "str" = some false := by decide +kernel
theorem k_nl : kitB "NoneType" "list" = some false := by decide +kernel
theorem k_nt : kitB "NoneType" "tuple" = some false := by decide +kernel
theorem k_nb : kitB "NoneType" "bool" = some false := by decide +kernel
variable {m : Md}
theorem c_is_number (M : MdF m) : Cal m 1 "is_number" 1 (fun ds d => ∃ i : Int, ds = [.int i] ∧ d = .bool true) := by
  refine cal_of M (i := 6) (by decide) ["thing"] ["thing"] 0 1 _ (by decide +kernel) rfl (fun _ _ _ _ _ _ us hl => match us, hl with | [_], _ => rfl) fun ds d hn h => ?_
  obtain ⟨i, rfl, rfl⟩ := h
  exact s_ret (vA (dc (isi "int" (d := .int i) (dc (va 0)) (k := true) k_ii)) fun _ => v1 (vNot (dc (isi "bool" (d := .int i) (dc (va 0)) (k := false) k_ib)))) rfl
theorem c_set_of (M : MdF m) : Cal m 1 "set_of" 1 (fun ds d => ∃ a : List Int, ds = [lI a] ∧ a.length < 64 ∧ d = tI (uq a)) := by
  refine cal_of M (i := 8) (by decide) ["row"] ["row"] 0 1 _ (by decide +kernel) rfl (fun _ _ _ _ _ _ us hl => match us, hl with | [_], _ => rfl) fun ds d hn h => ?_
  obtain ⟨a, rfl, ha, rfl⟩ := h
  exact s_ret (tupL (dnc (sortS (setL (dc (va 0)) (by omega)) ha))) rfl
theorem c_union (M : MdF m) : Cal m 2 "union" 2 (fun ds d => ∃ a b : List Int, ds = [tI a, tI b] ∧ a.length + b.length < 64 ∧ d = tI (uq (a ++ b))) := by
  refine cal_of M (i := 9) (by decide) ["one", "other"] ["one", "other"] 1 2 _ (by decide +kernel) rfl (fun _ _ _ _ _ _ us hl => match us, hl with | [_, _], _ => rfl) fun ds d hn h => ?_
  obtain ⟨a, b, rfl, ha, rfl⟩ := h
  exact s_ret (call (c_set_of M) (aC ((dne (catL (dnc (listT (dc (va 0)))) (dnc (listT (dc (va 1)))) (by simp; omega))).cast (by rw [← List.map_append])) aN) ⟨a ++ b, rfl, by simp; omega, rfl⟩) rfl
theorem c_minus (M : MdF m) : Cal m 1 "minus" 2 (fun ds d => ∃ a b : List Int, ds = [tI a, tI b] ∧ a.length ≤ 1000 ∧ d = tI (a.filter fun x => !decide (x ∈ b))) := by
  refine cal_of M (i := 10) (by decide) ["one", "other", "own"] ["one", "other"] 0 2 _ (by decide +kernel) rfl (fun _ _ _ _ _ _ us hl => match us, hl with | [_, _], _ => rfl) fun ds d hn h => ?_
  obtain ⟨a, b, rfl, ha, rfl⟩ := h
  exact s_ret (tupL (dnc (lcS (own := [("own", 2)]) ⟨iT (va 0), by kernel_rfl, by decide, fun a _ => gN 2, fun a _ => ts1 (cmpT (niT (dc (va 2)) (dc (va 1)))), fun a _ _ => va 2, by omega⟩))) rfl
theorem c_meets (M : MdF m) : Cal m 1 "meets" 2 (fun ds d => ∃ a b : List Int, ds = [tI a, tI b] ∧ a.length ≤ 1000 ∧ d = .bool (a.any fun x => decide (x ∈ b))) := by
  refine cal_of M (i := 11) (by decide) ["one", "other", "own"] ["one", "other"] 0 2 _ (by decide +kernel) rfl (fun _ _ _ _ _ _ us hl => match us, hl with | [_, _], _ => rfl) fun ds d hn h => ?_
  obtain ⟨a, b, rfl, ha, rfl⟩ := h
  exact s_ret (anyL (lcB (own := [("own", 2)]) ⟨iT (va 0), by kernel_rfl, by decide, fun a _ => gN 2, fun a _ => ts0, fun a _ _ => cmpE (inT (dc (va 2)) (dc (va 1))), by omega⟩)) (by rw [List.any_map]; rfl)
end DL
set_option Elab.async false
set_option linter.all false
set_option maxRecDepth 100000
set_option maxHeartbeats 2000000
namespace DL
open PySem PySem.Spec PyProof.Rows L2
variable {m : Md}
/-! ### tupled: tuples stay as they are -/
mutual
/-- tuples, ints, texts, as deep as n, none longer than 300 -/
def TupD : Nat → PyData → Prop
  | n, .int _ => True
  | n, .str _ => True
  | 0, .tuple _ => False
  | n + 1, .tuple ds => ds.length ≤ 300 ∧ TupDs n ds
  | _, _ => False
def TupDs : Nat → List PyData → Prop
  | _, [] => True
  | n, d :: ds => TupD n d ∧ TupDs n ds
end
theorem tupDs_mem {n : Nat} : ∀ {ds : List PyData}, TupDs n ds ↔ ∀ d ∈ ds, TupD n d
  | [] => by simp [TupDs]
  | d :: ds => by
    unfold TupDs
    rw [tupDs_mem]
    simp
theorem tupled_step (M : MdF m) (n : Nat) (ih : ∀ k, n = k + 1 → Cal m (k + 1) "tupled" 1 (fun ds d => ds = [d] ∧ TupD k d)) : Cal m (n + 1) "tupled" 1 (fun ds d => ds = [d] ∧ TupD n d) := by
  refine cal_of M (i := 7) (by decide) ["value", "own"] ["value"] n 1 _ (by decide +kernel) rfl (fun _ _ _ _ _ _ us hl => match us, hl with | [_], _ => rfl) fun ds d hn h => ?_
  obtain ⟨rfl, h⟩ := h
  cases d with
  | int i => exact s_ret (vIf (tV (dc (isi2 "list" "tuple" (d := .int i) (dc (va 0)) (k1 := false) (k2 := false) k_il k_it))) (fun e => nomatch e) fun _ => va 0) rfl
  | str i => exact s_ret (vIf (tV (dc (isi2 "list" "tuple" (d := .str i) (dc (va 0)) (k1 := false) (k2 := false) k_sl k_st))) (fun e => nomatch e) fun _ => va 0) rfl
  | tuple ts =>
    cases n with
    | zero => exact (show False from h).elim
    | succ n =>
      obtain ⟨h1, h2⟩ := (show ts.length ≤ 300 ∧ TupDs n ts from h)
      refine s_ret (vIf (tV (dc (isi2 "list" "tuple" (d := .tuple ts) (dc (va 0)) (k1 := false) (k2 := true) k_tl k_tt))) (fun _ => tupL (dnc (DN.cast (lc0 (own := [("own", 1)]) (xs := ts) (enc := fun d => d) (f := fun d => d) ⟨DI.cast' (iT (va 0)) (by rw [List.map_id']), by kernel_rfl, by decide, fun a _ => gN 1, fun a _ => ts0, fun a ha _ => call (ih n rfl) (aC (va 1) aN) ⟨rfl, tupDs_mem.mp h2 a ha⟩ (Nat.le_refl _), by omega⟩) (by rw [List.map_id'])))) fun e => nomatch e) rfl
  | none => cases n <;> exact (show False from h).elim
  | bool b => cases n <;> exact (show False from h).elim
  | list l => cases n <;> exact (show False from h).elim
  | dict l => cases n <;> exact (show False from h).elim
theorem c_tupled (M : MdF m) : ∀ n, Cal m (n + 1) "tupled" 1 (fun ds d => ds = [d] ∧ TupD n d)
  | 0 => tupled_step M 0 fun k e => by omega
  | n + 1 => tupled_step M (n + 1) fun k e => by
    have : n = k := by omega
    subst this
    exact c_tupled M n
end DL
set_option Elab.async false
set_option linter.all false
set_option maxRecDepth 100000
set_option maxHeartbeats 2000000
namespace DL
open PySem PySem.Spec PyProof.Rows L2
/-! ### equality of data -/
def Nice (k : Nat) (d : PyData) : Prop := d.canLay0 = true ∧ d.depth ≤ k
theorem nice_int {i : Int} {k : Nat} : Nice k (.int i) := ⟨by simp [PyData.canLay0], by simp [PyData.depth]⟩
theorem nice_bool {i : Bool} {k : Nat} : Nice k (.bool i) := ⟨by simp [PyData.canLay0], by simp [PyData.depth]⟩
theorem nice_none {k : Nat} : Nice k .none := ⟨by simp [PyData.canLay0], by simp [PyData.depth]⟩
theorem nice_all {k : Nat} : ∀ {ds : List PyData}, (∀ d ∈ ds, Nice k d) → PyData.canLayAll0 ds = true ∧ PyData.depthAll ds ≤ k
  | [], _ => ⟨by simp [PyData.canLayAll0], by simp [PyData.depthAll]⟩
  | d :: ds, h => by
    obtain ⟨a1, a2⟩ := h d List.mem_cons_self
    obtain ⟨b1, b2⟩ := nice_all (ds := ds) fun e he => h e (List.mem_cons_of_mem _ he)
    exact ⟨by rw [PyData.canLayAll0, a1, b1]; rfl, by rw [PyData.depthAll]; omega⟩
theorem nice_tup {k : Nat} {ds : List PyData} (h : ∀ d ∈ ds, Nice k d) : Nice (k + 1) (.tuple ds) := by
  obtain ⟨a, b⟩ := nice_all h
  exact ⟨by rw [PyData.canLay0]; exact a, by rw [PyData.depth]; omega⟩
theorem nice_lst {k : Nat} {ds : List PyData} (h : ∀ d ∈ ds, Nice k d) : Nice (k + 1) (.list ds) := by
  obtain ⟨a, b⟩ := nice_all h
  exact ⟨by rw [PyData.canLay0]; exact a, by rw [PyData.depth]; omega⟩
theorem nice_map {α : Type} {k : Nat} {f : α → PyData} {xs : List α} (h : ∀ a, Nice k (f a)) : ∀ d ∈ xs.map f, Nice k d := fun d hd => by
  obtain ⟨a, _, rfl⟩ := List.mem_map.mp hd
  exact h a
theorem nice_tI {ns : List Int} {k : Nat} : Nice (k + 1) (tI ns) := nice_tup (nice_map fun _ => nice_int)
theorem nice_lI {ns : List Int} {k : Nat} : Nice (k + 1) (lI ns) := nice_lst (nice_map fun _ => nice_int)
theorem nice_tP {p : Int × Int} {k : Nat} : Nice (k + 1) (tP p) := nice_tup fun d hd => by
  simp only [List.mem_cons, List.not_mem_nil, or_false] at hd
  rcases hd with rfl | rfl <;> exact nice_int
theorem Nice.sh {k : Nat} {d : PyData} (h : Nice k d) (hk : k ≤ 64 := by decide) : SeqAt.shaped d = true := by
  unfold SeqAt.shaped
  rw [h.1]
  simp
  exact Nat.le_trans h.2 hk
theorem tI_sh {ns : List Int} : SeqAt.shaped (tI ns) = true := (nice_tI (k := 0)).sh
theorem lI_sh {ns : List Int} : SeqAt.shaped (lI ns) = true := (nice_lI (k := 0)).sh
theorem t0_sh : SeqAt.shaped (.tuple []) = true := tI_sh (ns := [])
theorem l0_sh : SeqAt.shaped (.list []) = true := lI_sh (ns := [])
theorem tI_app {a : List Int} {b : List Int} : PyData.tuple (a.map .int ++ b.map .int) = tI (a ++ b) := by rw [← List.map_append]
theorem eqv_ints : ∀ {a b : List Int}, PyData.eqvAll (a.map .int) (b.map .int) = decide (a = b)
  | [], [] => by simp [PyData.eqvAll]
  | [], _ :: _ => by simp [PyData.eqvAll]
  | _ :: _, [] => by simp [PyData.eqvAll]
  | x :: a, y :: b => by
    show (PyData.eqv (.int x) (.int y) && PyData.eqvAll (a.map .int) (b.map .int)) = _
    rw [eqv_ints, PyData.eqv]
    by_cases h1 : x = y
    · by_cases h2 : a = b <;> simp [h1, h2]
    · simp [h1]
theorem eqv_bools : ∀ {a b : List Bool}, PyData.eqvAll (a.map .bool) (b.map .bool) = decide (a = b)
  | [], [] => by simp [PyData.eqvAll]
  | [], _ :: _ => by simp [PyData.eqvAll]
  | _ :: _, [] => by simp [PyData.eqvAll]
  | x :: a, y :: b => by
    show (PyData.eqv (.bool x) (.bool y) && PyData.eqvAll (a.map .bool) (b.map .bool)) = _
    rw [eqv_bools, PyData.eqv]
    by_cases h1 : x = y
    · by_cases h2 : a = b <;> simp [h1, h2]
    · simp [h1]
theorem eqv_nil {ds : List PyData} : PyData.eqvAll ds [] = ds.isEmpty := by
  cases ds <;> simp [PyData.eqvAll]
theorem eqv_tI {a b : List Int} : PyData.eqv (tI a) (tI b) = decide (a = b) := by rw [PyData.eqv, eqv_ints]
theorem eqv_tI0 {a : List Int} : PyData.eqv (tI a) (.tuple []) = decide (a = []) := eqv_tI (b := [])
theorem eqv_l0 {ds : List PyData} : PyData.eqv (.list ds) (.list []) = ds.isEmpty := by rw [PyData.eqv, eqv_nil]
theorem atI_get {α : Type} {xs : List α} {i : Nat} {x : α} (h : xs[i]? = some x) : atI xs (i : Int) = some x := by
  have lt := lt_of_get h
  unfold L2.atI L2.ixN
  rw [if_pos (by omega), if_pos (by omega)]
  simpa using h
theorem atI_last {α : Type} {xs : List α} {x : α} (h : xs.getLast? = some x) : atI xs (-1) = some x := by
  cases xs with
  | nil => cases h
  | cons a r =>
    unfold L2.atI L2.ixN
    rw [if_neg (by decide), if_pos (by rw [List.length_cons]; omega)]
    show ((a :: r)[((-1 : Int) + ((a :: r).length : Int)).toNat]?) = some x
    rw [show ((-1 : Int) + ((a :: r).length : Int)).toNat = (a :: r).length - 1 by rw [List.length_cons]; omega, ← List.getLast?_eq_getElem?]
    exact h
/-- -1 -/
theorem cM1 {G : Gm} {δ : Sto} {p p2 : Pos} {n : Nat} : DE G (.UnaryOp .USub (.Constant (.int 1) n p) p2) δ (.int (-1)) := negI (dc cI)
section
variable {G : Gm} {tg e e2 : Expr} {δ : Sto} {p pos : Pos}
/-- range(n), n a natural number -/
theorem iRn {n : Nat} (h : DC G e δ (.int (n : Int))) (hb : n ≤ 1000000) (hg : G.sc.names.lookup ("range" : Str) = some .globalImplicit := by rfl) (hs : ∀ env, starEach [e] env = [(false, eval e env)] := by intro _; rfl) : DI G tg (.Call (.Name "range" p) [e] [] pos) δ ((List.range n).map fun (k : Nat) => PyData.int (k : Int)) :=
  DI.cast' (iR1 h (by omega) hg hs) (by
    unfold rgD
    rw [Int.toNat_natCast]
    exact List.map_congr_left fun k _ => by rw [Int.zero_add])
/-- range(a, b) -/
theorem iRab {a n : Nat} {j : Int} (h : DC G e δ (.int (a : Int))) (h2 : DC G e2 δ (.int j)) (ej : j = ((a + n : Nat) : Int)) (hb : a + n ≤ 1000000) (hg : G.sc.names.lookup ("range" : Str) = some .globalImplicit := by rfl) (hs : ∀ env, starEach [e, e2] env = [(false, eval e env), (false, eval e2 env)] := by intro _; rfl) (hs2 : ∀ env, starEach [e2] env = [(false, eval e2 env)] := by intro _; rfl) :
    DI G tg (.Call (.Name "range" p) [e, e2] [] pos) δ ((List.range n).map fun (k : Nat) => PyData.int ((a + k : Nat) : Int)) :=
  DI.cast' (iR2 h h2 (by omega) hg hs hs2) (by
    unfold rgD
    rw [ej, show (((a + n : Nat) : Int) - (a : Int)).toNat = n by omega]
    exact List.map_congr_left fun k _ => by rw [Int.natCast_add])
end
theorem find_first {α : Type} {p : α → Bool} : ∀ {xs : List α} {i : Nat} {a : α}, xs[i]? = some a → (∀ b ∈ xs.take i, p b = false) → p a = true → xs.find? p = some a
  | [], i, a, h, _, _ => by simp at h
  | x :: xs, 0, a, h, _, hp => by
    cases h
    rw [List.find?_cons_of_pos hp]
  | x :: xs, i + 1, a, h, hn, hp => by
    rw [List.find?_cons_of_neg (by rw [hn x (by simp)]; exact Bool.false_ne_true)]
    exact find_first (i := i) h (fun b hb => hn b (by rw [List.take_succ_cons]; exact List.mem_cons_of_mem _ hb)) hp
theorem find_none {α : Type} {p : α → Bool} {xs : List α} (hn : ∀ b ∈ xs.take xs.length, p b = false) : xs.find? p = none := by
  rw [List.take_length] at hn
  rw [List.find?_eq_none]
  intro x hx
  rw [hn x hx]
  exact Bool.false_ne_true
theorem take_one {α : Type} {xs : List α} {i : Nat} {a : α} {P : α → Prop} (h : xs[i]? = some a) (h1 : ∀ b ∈ xs.take i, P b) (h2 : P a) : ∀ b ∈ xs.take (i + 1), P b := fun b hb => by
  rw [List.take_add_one, h] at hb
  rcases List.mem_append.mp hb with hb | hb
  · exact h1 b hb
  · have : b = a := by simpa using hb
    rw [this]
    exact h2
variable {m : Md}
/-! ### families -/
def lotStep (homes : List Int) (found : List (List Int)) : List (List Int) := found.flatMap fun lot => (homes.filter fun p => decide (lot = []) || decide (lot.getLastD 0 < p)).map fun p => lot ++ [p]
def lotsL (homes : List Int) : Nat → List (List Int)
  | 0 => [[]]
  | n + 1 => lotStep homes (lotsL homes n)
theorem lotStep_len {homes : List Int} (h : homes.length ≤ 3) : ∀ (f : List (List Int)), (lotStep homes f).length ≤ 3 * f.length
  | [] => by simp [lotStep]
  | l :: f => by
    have ih := lotStep_len h f
    unfold lotStep at ih ⊢
    rw [List.flatMap_cons, List.length_append, List.length_map, List.length_cons]
    have := List.length_filter_le (fun p => decide (l = []) || decide (l.getLastD 0 < p)) homes
    omega
theorem lotsL_len {homes : List Int} (h : homes.length ≤ 3) : ∀ n, (lotsL homes n).length ≤ 3 ^ n
  | 0 => by simp [lotsL]
  | n + 1 => by
    have a := lotStep_len h (lotsL homes n)
    have b := lotsL_len h n
    show (lotStep homes (lotsL homes n)).length ≤ _
    rw [Nat.pow_succ]
    omega
theorem flat2_lots {homes : List Int} {f : List (List Int)} : flat2 (fun _ : List Int => homes) (fun lot p => decide (lot = []) || decide (lot.getLastD 0 < p)) (fun lot p => tI (lot ++ [p])) f = (lotStep homes f).map fun l => tI l := by
  unfold flat2 lotStep
  rw [List.map_flatMap]
  congr 1
  funext lot
  rw [List.map_map]
  rfl
theorem lastD {l : List Int} (h : l ≠ []) : l.getLast? = some (l.getLastD 0) := by
  cases e : l.getLast? with
  | none => exact absurd (List.getLast?_eq_none_iff.mp e) h
  | some x => rw [List.getLastD_eq_getLast?, e]; rfl
theorem c_lots_of (M : MdF m) : Cal m 1 "lots_of" 2 (fun ds d => ∃ (homes : List Int) (n : Nat), ds = [tI homes, .int (n : Int)] ∧ homes.length ≤ 3 ∧ n ≤ 3 ∧ (∀ l ∈ lotsL homes n, l.length ≤ 8) ∧ d = .tuple ((lotsL homes n).map fun l => tI l)) := by
  refine cal_of M (i := 13) (by decide) ["homes", "need", "found", "lap", "lot", "place"] ["homes", "need"] 0 2 _ (by decide +kernel) rfl (fun _ _ _ _ _ _ us hl => match us, hl with | [_, _], _ => rfl) fun ds d hn h => ?_
  obtain ⟨homes, n, rfl, hh, hn, _, rfl⟩ := h
  refine s_set 2 (dne (dLst (aC (dTup aN) aN))) ?_
  refine s_for (js := [3]) (xs := List.range n) (enc := fun k => .int (k : Int)) (iRn (dc (va 1)) (by omega)) (fun i δ' => ∃ s, δ' = [.va (tI homes), .va (.int (n : Int)), .va (.list ((lotsL homes i).map fun l => tI l)), s, .un, .un]) ⟨.un, rfl⟩ (fun i a δ' ha hI => ?_) fun δ' hI => ?_
  · obtain ⟨s, rfl⟩ := hI
    have lt : i < n := by simpa using lt_of_get ha
    have len : (lotsL homes i).length ≤ 300 := by
      have h1 := lotsL_len hh i
      have h2 : 3 ^ i ≤ 3 ^ 3 := Nat.pow_le_pow_right (by decide) (by omega)
      omega
    have grow : ∀ l ∈ lotsL homes i, l.length ≤ i := by
      clear ha lt len
      induction i with
      | zero => intro l hl; have : l = [] := by simpa [lotsL] using hl
                rw [this]; exact Nat.le_refl _
      | succ i ih =>
        intro l hl
        obtain ⟨l0, h0, h1⟩ := List.mem_flatMap.mp (show l ∈ lotStep homes (lotsL homes i) from hl)
        obtain ⟨p, _, rfl⟩ := List.mem_map.mp h1
        have := ih l0 h0
        rw [List.length_append]
        simp
        omega
    refine ⟨_, gN 3, ?_⟩
    refine s_setLc2 2 (own := [("lot", 4), ("place", 5)]) (js := [4]) (js1 := [5]) (vs1 := [5]) (xs := lotsL homes i) (enc := fun l => tI l) (ys := fun _ => homes) (enc1 := fun p => .int p) (q := fun lot p => decide (lot = []) || decide (lot.getLastD 0 < p)) (f := fun lot p => tI (lot ++ [p])) (iL (va 2)) (by kernel_rfl) (by decide) (by decide) (by decide) (fun a _ => gN 4) (fun a _ => ts0) (fun a _ => iT (va 0)) (fun a b _ _ => gN 5) (fun a b _ _ => ts1 (tW (wO (DT.cast (cmpT (eqD (dc (va 4)) (dc (dTup aN)) tI_sh t0_sh)) eqv_tI0) fun e => wO1 (cmpT (ltI (dc (ixT (dc (va 4)) (dc cM1) (d := .int (a.getLastD 0)) (atI_last (by rw [List.getLast?_map, lastD (by simpa using e)]; rfl)))) (dc (va 5))))))) (fun a b ha _ _ => DP.cast (catT (dc (va 4)) (dc (dTup (aC (va 5) aN))) (by have := grow a ha; simp; omega)) (tI_app (b := [b]))) len (fun a _ => by omega) ?_
    rw [flat2_lots]
    exact s_nil ⟨_, rfl⟩
  · obtain ⟨s, rfl⟩ := hI
    rw [List.length_range]
    exact s_ret (tupL (dc (va 2))) rfl
end DL
namespace DL
open PySem PySem.Spec PyProof.Rows L2
variable {m : Md}
theorem tupd_tup {n : Nat} {ds : List PyData} (h1 : ds.length ≤ 300) (h2 : ∀ d ∈ ds, TupD n d) : TupD (n + 1) (.tuple ds) := by
  show ds.length ≤ 300 ∧ TupDs n ds
  exact ⟨h1, tupDs_mem.mpr h2⟩
theorem tupd_int {n : Nat} {i : Int} : TupD n (.int i) := by cases n <;> trivial
theorem tupd_str {n : Nat} {i : Str} : TupD n (.str i) := by cases n <;> trivial
theorem tupd_map {α : Type} {n : Nat} {f : α → PyData} {xs : List α} (h1 : xs.length ≤ 300) (h2 : ∀ a ∈ xs, TupD n (f a)) : TupD (n + 1) (.tuple (xs.map f)) := tupd_tup (by rw [List.length_map]; exact h1) fun d hd => by
  obtain ⟨a, ha, rfl⟩ := List.mem_map.mp hd
  exact h2 a ha
theorem tupd_tI {n : Nat} {a : List Int} (h : a.length ≤ 300) : TupD (n + 1) (tI a) := tupd_map h fun _ _ => tupd_int
theorem tupd_II {n : Nat} {l : List (List Int)} (h : l.length ≤ 300) (h2 : ∀ a ∈ l, a.length ≤ 300) : TupD (n + 2) (.tuple (l.map fun a => tI a)) := tupd_map h fun a ha => tupd_tI (h2 a ha)
theorem tupd_tP {n : Nat} {p : Int × Int} : TupD (n + 1) (tP p) := tupd_tup (by simp) fun d hd => by
  simp only [List.mem_cons, List.not_mem_nil, or_false] at hd
  rcases hd with rfl | rfl <;> exact tupd_int
theorem tupd_tC {n : Nat} {a : List (Int × Int)} (h : a.length ≤ 300) : TupD (n + 2) (tC a) := tupd_map h fun _ _ => tupd_tP
theorem c_by_count (M : MdF m) : Cal m 4 "by_count" 2 (fun ds d => ∃ (homes : List Int) (n : Nat), ds = [tI homes, .int (n : Int)] ∧ homes.length ≤ 3 ∧ n ≤ homes.length ∧ (∀ l ∈ lotsL homes n, l.length ≤ 8) ∧ d = .tuple ((lotsL homes n).map fun l => tI l)) := by
  refine cal_of M (i := 14) (by decide) ["homes", "need"] ["homes", "need"] 3 2 _ (by decide +kernel) rfl (fun _ _ _ _ _ _ us hl => match us, hl with | [_, _], _ => rfl) fun ds d hn h => ?_
  obtain ⟨homes, n, rfl, hh, hn, h8, rfl⟩ := h
  refine s_set 0 (call (c_tupled M 1) (aC (va 0) aN) ⟨rfl, tupd_tI (by omega)⟩) ?_
  refine s_no (tNot (chT (fun i j => decide (i ≤ j)) (fun i j => decide (i ≤ j)) (fun X _ => op_le) (fun X _ => op_le) (dc cI) (dc (va 1)) (dc (lenT (dc (va 0)))))) (by simp; omega) ?_
  exact s_ret (call (c_lots_of M) (aC (va 0) (aC (va 1) aN)) ⟨homes, n, rfl, hh, by omega, h8, rfl⟩) rfl
def roomL (fam : List (List Int)) (some : List Int) : Option (List Int) := fam.find? fun lot => !(lot.any fun x => decide (x ∈ some))
def oT : Option (List Int) → PyData
  | none => .none
  | some l => tI l
theorem c_room (M : MdF m) : Cal m 4 "room" 2 (fun ds d => ∃ (fam : List (List Int)) (some : List Int), ds = [.tuple (fam.map fun a => tI a), tI some] ∧ fam.length ≤ 300 ∧ (∀ a ∈ fam, a.length ≤ 300) ∧ d = oT (roomL fam some)) := by
  refine cal_of M (i := 15) (by decide) ["family", "some", "lot"] ["family", "some"] 3 2 _ (by decide +kernel) rfl (fun _ _ _ _ _ _ us hl => match us, hl with | [_, _], _ => rfl) fun ds d hn h => ?_
  obtain ⟨fam, some, rfl, h1, h2, rfl⟩ := h
  refine s_for (js := [2]) (xs := fam) (enc := fun a => tI a) (iT (call (c_tupled M 2) (aC (va 0) aN) ⟨rfl, tupd_II h1 h2⟩)) (fun i δ' => (∃ s, δ' = [.va (.tuple (fam.map fun a => tI a)), .va (tI some), s]) ∧ ∀ lot ∈ fam.take i, (!(lot.any fun x => decide (x ∈ some))) = false) ⟨⟨.un, rfl⟩, fun _ h => nomatch h⟩ (fun i a δ' ha hI => ?_) fun δ' hI => ?_
  · obtain ⟨⟨s, rfl⟩, hp⟩ := hI
    refine ⟨_, gN 2, ?_⟩
    refine s_if (tNot (tV (dc (call (c_meets M) (aC (va 2) (aC (va 1) aN)) ⟨a, some, rfl, by have := h2 a (List.mem_of_getElem? ha); omega, rfl⟩)))) (fun e => ?_) fun e => ?_
    · refine s_ret (va 2) ?_
      show tI a = oT (roomL fam some)
      unfold roomL
      rw [find_first ha hp e]
      rfl
    · exact s_nil (s_nil ⟨⟨_, rfl⟩, take_one ha hp e⟩)
  · obtain ⟨⟨s, rfl⟩, hp⟩ := hI
    refine s_ret cN ?_
    show PyData.none = oT (roomL fam some)
    unfold roomL
    rw [find_none hp]
    rfl
end DL
set_option Elab.async false
set_option linter.all false
set_option maxRecDepth 100000
set_option maxHeartbeats 2000000
namespace DL
open PySem PySem.Spec PyProof.Rows L2
/-! ### books -/
inductive Dd where
  | cp (t a b : Int)
  | pt (t v : Int) (old : List Int) (kin : List (List Int))
def Dd.isPt : Dd → Bool
  | .cp .. => false
  | .pt .. => true
def Dd.kin : Dd → List (List Int)
  | .cp .. => []
  | .pt _ _ _ k => k
def Dd.ver : Dd → Int
  | .cp _ a _ => a
  | .pt _ v _ _ => v
def eD : Dd → PyData
  | .cp t a b => .tuple [.str "copy", .int t, .int a, .int b]
  | .pt t v old kin => .tuple [.str "put", .int t, .int v, tI old, .tuple (kin.map fun a => tI a)]
abbrev eB (page : List Dd) : PyData := .tuple [.int 8, .int 0, .tuple (page.map eD)]
/-- none of its parts is long -/
def Dd.Ok : Dd → Prop
  | .cp .. => True
  | .pt _ _ old kin => old.length ≤ 300 ∧ kin.length ≤ 300 ∧ ∀ a ∈ kin, a.length ≤ 300
def PgOk (page : List Dd) : Prop := page.length ≤ 300 ∧ ∀ d ∈ page, d.Ok
theorem tupd_eD {n : Nat} {d : Dd} (h : d.Ok) : TupD (n + 3) (eD d) := by
  cases d with
  | cp t a b =>
    refine tupd_tup (by simp) fun d hd => ?_
    simp only [List.mem_cons, List.not_mem_nil, or_false] at hd
    rcases hd with rfl | rfl | rfl | rfl <;> first | exact tupd_str | exact tupd_int
  | pt t v old kin =>
    obtain ⟨h1, h2, h3⟩ := h
    refine tupd_tup (by simp) fun d hd => ?_
    simp only [List.mem_cons, List.not_mem_nil, or_false] at hd
    rcases hd with rfl | rfl | rfl | rfl | rfl
    · exact tupd_str
    · exact tupd_int
    · exact tupd_int
    · exact tupd_tI h1
    · exact tupd_II h2 h3
theorem tupd_eB {page : List Dd} (h : PgOk page) : TupD 5 (eB page) := tupd_tup (by simp) fun d hd => by
  simp only [List.mem_cons, List.not_mem_nil, or_false] at hd
  rcases hd with rfl | rfl | rfl
  · exact tupd_int
  · exact tupd_int
  · exact tupd_map h.1 fun d hd => tupd_eD (h.2 d hd)
variable {m : Md}
section
variable {G : Gm} {δ : Sto} {e : Expr} {rest : List Stmt} {P : Po} {pos : Pos} {d : PyData}
/-- an expression as a statement -/
theorem s_expr (he : DE G e δ d) (k : DS G rest δ P) (hs : ∀ env, exec (.Expr e pos) env = exec (.Expr e pos) env := by intro _; rfl) (hx : ∀ X, XOk G X → PS X (.Expr e pos) (tDrop (tmE X e)) := by first | exact fun X _ => ps_expr pe_m rfl | exact fun X _ => ps_expr pe_m) : DS G (.Expr e pos :: rest) δ P :=
  s_cons (ds1_of fun X hX => ⟨_, hx X hX, fun F0 H0 F H σ S D w => he X hX F0 H0 F H σ S _ fun v F' H' g r => w.nx _ F' H' σ k g.ff (S.grow g)⟩)
end
section
variable {G : Gm} {δ : Sto} {a b : Expr} {pos : Pos} {ds : List PyData} {d : PyData} {i : Nat}
/-- x[i], i a written constant -/
theorem ixTc {n : Nat} {p : Pos} (ha : DC G a δ (.tuple ds)) (hi : atI ds (i : Int) = some d := by rfl) : DE G (.Subscript a (.Constant (.int (i : Int)) n p) pos) δ d := ixT ha (dc cI) hi (by intro _ _; rfl)
end
theorem atI2 {α : Type} {a b c : α} : atI [a, b, c] 2 = some c := rfl
theorem c_check_places (M : MdF m) : Cal m 1 "check_places" 2 (fun ds d => ∃ (page : List Dd) (some : List Int), ds = [eB page, tI some] ∧ (∀ x ∈ some, 0 ≤ x ∧ x < 8) ∧ d = .none) := by
  refine cal_of M (i := 21) (by decide) ["book", "some", "place"] ["book", "some"] 0 2 _ (by decide +kernel) rfl (fun _ _ _ _ _ _ us hl => match us, hl with | [_, _], _ => rfl) fun ds d hn h => ?_
  obtain ⟨page, some, rfl, h1, rfl⟩ := h
  refine s_for (js := [2]) (xs := some) (enc := fun a => .int a) (iT (va 1)) (fun i δ' => ∃ s, δ' = [.va (eB page), .va (tI some), s]) ⟨.un, rfl⟩ (fun i a δ' ha hI => ?_) fun δ' hI => ?_
  · obtain ⟨s, rfl⟩ := hI
    refine ⟨_, gN 2, ?_⟩
    obtain ⟨q1, q2⟩ := h1 a (List.mem_of_getElem? ha)
    exact s_no (tNot (chT (fun i j => decide (i ≤ j)) (fun i j => decide (i < j)) (fun X _ => op_le) (fun X _ => op_lt) (dc cI) (dc (va 2)) (dc (ixT (dc (va 0)) (dc (gI (i := 0))) (d := .int 8) rfl)))) (by simp; omega) (s_nil ⟨_, rfl⟩)
  · obtain ⟨s, rfl⟩ := hI
    exact s_nil rfl
theorem c_check_moment (M : MdF m) : Cal m 1 "check_moment" 2 (fun ds d => ∃ (page : List Dd) (n : Nat), ds = [eB page, .int (n : Int)] ∧ n ≤ page.length ∧ d = .none) := by
  refine cal_of M (i := 22) (by decide) ["book", "moment"] ["book", "moment"] 0 2 _ (by decide +kernel) rfl (fun _ _ _ _ _ _ us hl => match us, hl with | [_, _], _ => rfl) fun ds d hn h => ?_
  obtain ⟨page, n, rfl, h1, rfl⟩ := h
  exact s_no (tNot (chT (fun i j => decide (i ≤ j)) (fun i j => decide (i ≤ j)) (fun X _ => op_le) (fun X _ => op_le) (dc cI) (dc (va 1)) (dc (lenT (dc (ixT (dc (va 0)) (dc (gI (i := 2))) (d := .tuple (page.map eD)) rfl)))))) (by simp; omega) (s_nil rfl)
theorem c_check_version (M : MdF m) : Cal m 1 "check_version" 1 (fun ds d => ∃ v : Int, ds = [.int v] ∧ 1 ≤ v ∧ d = .none) := by
  refine cal_of M (i := 23) (by decide) ["version"] ["version"] 0 1 _ (by decide +kernel) rfl (fun _ _ _ _ _ _ us hl => match us, hl with | [_], _ => rfl) fun ds d hn h => ?_
  obtain ⟨v, rfl, h1, rfl⟩ := h
  exact s_no (cmpT (ltI (dc (va 0)) (dc cI))) (by simp; omega) (s_nil rfl)
def writesL (page : List Dd) : List Int := (page.zipIdx.filter fun q => q.1.isPt).map fun q => (q.2 : Int)
theorem enum_eD {α : Type} {page : List α} {e : α → PyData} : enumD (page.map e) = page.zipIdx.map fun q => .tuple [.int (q.2 : Int), e q.1] := by
  unfold enumD
  rw [List.zipIdx_map, List.map_map]
  rfl
theorem word_in {d : Dd} : ∃ s r, eD d = .tuple (.str s :: r) ∧ decide (s ∈ (["put", "strike"] : List Str)) = d.isPt := by
  cases d with
  | cp t a b => exact ⟨"copy", _, rfl, (show decide (("copy" : Str) ∈ (["put", "strike"] : List Str)) = false by decide)⟩
  | pt t v o k => exact ⟨"put", _, rfl, (show decide (("put" : Str) ∈ (["put", "strike"] : List Str)) = true by decide)⟩
theorem c_writes (M : MdF m) : Cal m 1 "writes" 1 (fun ds d => ∃ page : List Dd, ds = [eB page] ∧ page.length ≤ 1000 ∧ d = tI (writesL page)) := by
  refine cal_of M (i := 24) (by decide) ["book", "number", "deed"] ["book"] 0 1 _ (by decide +kernel) rfl (fun _ _ _ _ _ _ us hl => match us, hl with | [_], _ => rfl) fun ds d hn h => ?_
  obtain ⟨page, rfl, h1, rfl⟩ := h
  refine s_ret (tupL (dnc (lcI (own := [("number", 1), ("deed", 2)]) (js := [1] ++ [2]) (xs := page.zipIdx) (enc := fun q => .tuple [.int (q.2 : Int), eD q.1]) (p := fun q => q.1.isPt) (g := fun q => (q.2 : Int)) ⟨DI.cast' (iET (ixT (dc (va 0)) (dc (gI (i := 2))) (d := .tuple (page.map eD)) rfl)) enum_eD, by kernel_rfl, by decide, fun a _ => gT2 (gN 1) (gN 2), fun a _ => ts1 ?_, fun a _ _ => va 1, by simp; omega⟩))) rfl
  obtain ⟨s, r, e, hw⟩ := word_in (d := a.1)
  rw [← hw]
  exact cmpT (inS (dc (ixT (dc (DP.cast (va 2) e)) (dc (gI (i := 0))) (atI_get (i := 0) rfl))) (dc gW))
/-! ### pasts -/
def ahd (d : Dd) (some : List Int) : List Int := match d with
  | .cp _ a b => if b ∈ some then uq (some ++ [a]) else some
  | .pt .. => some
theorem c_lot_ahead (M : MdF m) : Cal m 3 "lot_ahead" 2 (fun ds d => ∃ (e : Dd) (some : List Int), ds = [eD e, tI some] ∧ some.length ≤ 60 ∧ d = tI (ahd e some)) := by
  refine cal_of M (i := 26) (by decide) ["deed", "some"] ["deed", "some"] 2 2 _ (by decide +kernel) rfl (fun _ _ _ _ _ _ us hl => match us, hl with | [_, _], _ => rfl) fun ds d hn h => ?_
  obtain ⟨e, some, rfl, h1, rfl⟩ := h
  cases e with
  | cp t a b =>
    refine s_if (tW (wA (cmpT (eqS (dc (ixT (dc (va 0)) (dc cI) (d := .str "copy") rfl)) (dc cS))) fun _ => wA1 (cmpT (inT (dc (ixT (dc (va 0)) (dc cI) (d := .int b) rfl)) (dc (va 1)))))) (fun e => ?_) fun e => ?_
    · have hb : b ∈ some := by simpa using e
      refine s_ret (call (c_union M) (aC (va 1) (aC (dTup (aC (ixT (dc (va 0)) (dc cI) (d := .int a) rfl) aN)) aN)) ⟨some, [a], rfl, by simp; omega, rfl⟩) ?_
      show tI _ = tI (if b ∈ some then _ else _)
      rw [if_pos hb]
    · have hb : ¬ b ∈ some := by simpa using e
      refine s_nil (s_ret (vIf (cmpT (eqS (dc (ixT (dc (va 0)) (dc cI) (d := .str "copy") rfl)) (dc cS))) (fun e => absurd e (by decide)) fun _ => va 1) ?_)
      show tI _ = tI (if b ∈ some then _ else _)
      rw [if_neg hb]
  | pt t v o k =>
    refine s_no (tW (wA (cmpT (eqS (dc (ixT (dc (va 0)) (dc cI) (d := .str "put") rfl)) (dc cS))) fun e => absurd e (by decide))) (by rfl : (_ && false) = false) ?_
    exact s_ret (vIf (cmpT (eqS (dc (ixT (dc (va 0)) (dc cI) (d := .str "put") rfl)) (dc cS))) (fun e => absurd e (by decide)) fun _ => va 1) rfl
def trail : List Dd → List Int → List (List Int)
  | [], s => [s]
  | d :: ds, s => ahd d ((trail ds s).headD []) :: trail ds s
theorem trail_ne (ds : List Dd) (s : List Int) : trail ds s ≠ [] := by cases ds <;> simp [trail]
theorem trail_len : ∀ (ds : List Dd) (s : List Int), (trail ds s).length = ds.length + 1
  | [], s => rfl
  | d :: ds, s => by rw [trail, List.length_cons, trail_len ds s, List.length_cons]
theorem head_last {α : Type} {l : List α} (h : l ≠ []) (a : α) : l.reverse.getLast? = some (l.headD a) := by
  cases l with
  | nil => exact absurd rfl h
  | cons x r => simp
/-- range(n - 1, -1, -1) -/
theorem iRdn {G : Gm} {tg e e2 e3 : Expr} {δ : Sto} {p pos : Pos} {n : Nat} (h : DC G e δ (.int ((n : Int) - 1))) (h2 : DC G e2 δ (.int (-1))) (h3 : DC G e3 δ (.int (-1))) (hb : n ≤ 1000000) (hg : G.sc.names.lookup ("range" : Str) = some .globalImplicit := by rfl) (hs : ∀ env, starEach [e, e2, e3] env = (false, eval e env) :: starEach [e2, e3] env := by intro _; rfl)
    (hs2 : ∀ env, starEach [e2, e3] env = (false, eval e2 env) :: starEach [e3] env := by intro _; rfl) (hs3 : ∀ env, starEach [e3] env = [(false, eval e3 env)] := by intro _; rfl) : DI G tg (.Call (.Name "range" p) [e, e2, e3] [] pos) δ ((List.range n).map fun (k : Nat) => PyData.int ((n - 1 - k : Nat) : Int)) :=
  DI.cast' (iRd h h2 h3 (by omega) hg hs hs2 hs3) (by
    unfold rdD
    rw [show ((n : Int) - 1 + 1).toNat = n by omega]
    refine List.map_congr_left fun k hk => ?_
    have := List.mem_range.mp hk
    rw [show (n : Int) - 1 - (k : Int) = ((n - 1 - k : Nat) : Int) by omega])
theorem c_past_in (M : MdF m) : Cal m 4 "past_in" 3 (fun ds d => ∃ (page : List Dd) (some : List Int), ds = [.tuple (page.map eD), tI some, .int (page.length : Int)] ∧ page.length ≤ 300 ∧ (∀ t, t <:+ page → ((trail t some).headD []).length ≤ 60) ∧ d = .tuple ((trail page some).map fun a => tI a)) := by
  refine cal_of M (i := 27) (by decide) ["deeds", "some", "moment", "found", "number"] ["deeds", "some", "moment"] 3 3 _ (by decide +kernel) rfl (fun _ _ _ _ _ _ us hl => match us, hl with | [_, _, _], _ => rfl) fun ds d hn h => ?_
  obtain ⟨page, some, rfl, h1, h2, rfl⟩ := h
  refine s_setN 3 (dLst (aC (va 1) aN)) ?_
  refine s_for (js := [4]) (xs := List.range page.length) (enc := fun k => .int ((page.length - 1 - k : Nat) : Int)) (iRdn (dc (subI (dc (va 2)) (dc cI))) (dc cM1) (dc cM1) (by omega)) (fun i δ' => ∃ s, δ' = [.va (.tuple (page.map eD)), .va (tI some), .va (.int (page.length : Int)), .ow (((trail (page.drop (page.length - i)) some).reverse).map fun a => tI a), s]) ⟨.un, ?_⟩ (fun i a δ' ha hI => ?_) fun δ' hI => ?_
  · rw [Nat.sub_zero, List.drop_length]
    rfl
  · obtain ⟨s, rfl⟩ := hI
    have lt : i < page.length := by simpa using lt_of_get ha
    have ea : a = i := by
      rw [List.getElem?_range lt] at ha
      exact (Option.some.inj ha).symm
    subst ea
    have dr : page.drop (page.length - 1 - a) = page[page.length - 1 - a]'(by omega) :: page.drop (page.length - a) := by
      rw [List.drop_eq_getElem_cons (by omega), show page.length - 1 - a + 1 = page.length - a by omega]
    have sh : page.drop (page.length - a) <:+ page := List.drop_suffix _ _
    refine ⟨_, gN 4, ?_⟩
    refine s_app (ds := ((trail (page.drop (page.length - a)) some).reverse).map fun a => tI a) 3 (call (c_lot_ahead M) (aC (ixT (dc (va 0)) (dc (va 4)) (atI_get (by rw [List.getElem?_map, List.getElem?_eq_getElem (by omega)]; rfl))) (aC (ixL (vo 3) (dc cM1) (d := tI ((trail (page.drop (page.length - a)) some).headD [])) (atI_last (by rw [List.getLast?_map, head_last (trail_ne _ _) []]; rfl))) aN)) ⟨_, _, rfl, h2 _ sh, rfl⟩) ?_ (by rw [List.length_map, List.length_reverse, trail_len, List.length_drop]; omega)
    refine s_nil ⟨.va (.int ((page.length - 1 - a : Nat) : Int)), ?_⟩
    rw [show page.length - (a + 1) = page.length - 1 - a by omega, dr]
    show _ = [_, _, _, Sl.ow ((_ :: trail _ some).reverse.map _), _]
    rw [List.reverse_cons, List.map_append]
    rfl
  · obtain ⟨s, rfl⟩ := hI
    rw [List.length_range, Nat.sub_self, List.drop_zero]
    refine s_ret (tupL (dnc (revL (vo 3)))) ?_
    rw [← List.map_reverse, List.reverse_reverse]
theorem c_past (M : MdF m) : Cal m 7 "past" 3 (fun ds d => ∃ (page : List Dd) (some : List Int), ds = [eB page, tI some, .int (page.length : Int)] ∧ PgOk page ∧ some.length ≤ 300 ∧ (∀ x ∈ some, 0 ≤ x ∧ x < 8) ∧ (∀ t, t <:+ page → ((trail t some).headD []).length ≤ 60) ∧ d = .tuple ((trail page some).map fun a => tI a)) := by
  refine cal_of M (i := 28) (by decide) ["book", "some", "moment", "own"] ["book", "some", "moment"] 6 3 _ (by decide +kernel) rfl (fun _ _ _ _ _ _ us hl => match us, hl with | [_, _, _], _ => rfl) fun ds d hn h => ?_
  obtain ⟨page, some, rfl, h1, h3, h4, h2, rfl⟩ := h
  refine s_set 3 (call (c_tupled M 5) (aC (va 0) aN) ⟨rfl, tupd_eB h1⟩) ?_
  refine s_expr (call (c_check_places M) (aC (va 3) (aC (va 1) aN)) ⟨page, some, rfl, h4, rfl⟩) ?_
  refine s_expr (call (c_check_moment M) (aC (va 3) (aC (va 2) aN)) ⟨page, page.length, rfl, Nat.le_refl _, rfl⟩) ?_
  exact s_ret (call (c_past_in M) (aC (ixT (dc (va 3)) (dc cI) (d := .tuple (page.map eD)) rfl) (aC (call (c_tupled M 1) (aC (va 1) aN) ⟨rfl, tupd_tI h3⟩) (aC (va 2) aN))) ⟨page, some, rfl, h1.1, h2, rfl⟩) rfl
end DL
set_option Elab.async false
set_option linter.all false
set_option maxRecDepth 100000
set_option maxHeartbeats 2000000
namespace DL
open PySem PySem.Spec PyProof.Rows L2
variable {m : Md}
/-! ### moves -/
structure Sh where
  old : List Int
  new : List Int
  cp : List (Int × Int)
abbrev eS (s : Sh) : PyData := .tuple [tI s.old, tI s.new, tC s.cp]
def Sh.Sm (s : Sh) : Prop := s.old.length ≤ 3 ∧ s.new.length ≤ 3 ∧ s.cp.length ≤ 50
theorem tupd_eS {s : Sh} (h : s.Sm) : TupD 3 (eS s) := tupd_tup (by simp) fun d hd => by
  obtain ⟨h1, h2, h3⟩ := h
  simp only [List.mem_cons, List.not_mem_nil, or_false] at hd
  rcases hd with rfl | rfl | rfl
  · exact tupd_tI (by omega)
  · exact tupd_tI (by omega)
  · exact tupd_tC (by omega)
def stepA (f : List Int) (c : Int × Int) : List Int := if c.2 ∈ f ∧ ¬ c.1 ∈ f then f ++ [c.1] else f
def ahL (cp : List (Int × Int)) (f : List Int) : List Int := cp.reverse.foldl stepA f
theorem stepA_pos {f : List Int} {c : Int × Int} (h : c.2 ∈ f ∧ ¬ c.1 ∈ f) : stepA f c = f ++ [c.1] := if_pos h
theorem stepA_neg {f : List Int} {c : Int × Int} (h : ¬ (c.2 ∈ f ∧ ¬ c.1 ∈ f)) : stepA f c = f := if_neg h
theorem stepA_len (f : List Int) (c : Int × Int) : (stepA f c).length ≤ f.length + 1 := by
  unfold stepA
  split
  · simp
  · omega
theorem foldA_len : ∀ (l : List (Int × Int)) (f : List Int), (l.foldl stepA f).length ≤ f.length + l.length
  | [], f => by simp
  | c :: l, f => by
    have h1 := foldA_len l (stepA f c)
    have h2 := stepA_len f c
    rw [List.foldl_cons, List.length_cons]
    omega
theorem ahL_len (cp : List (Int × Int)) (f : List Int) : (ahL cp f).length ≤ f.length + cp.length := by
  have := foldA_len cp.reverse f
  unfold ahL
  simpa using this
theorem c_ahead (M : MdF m) : Cal m 1 "ahead" 2 (fun ds d => ∃ (cp : List (Int × Int)) (f : List Int), ds = [tC cp, tI f] ∧ cp.length ≤ 1000 ∧ f.length ≤ 1000 ∧ d = lI (ahL cp f)) := by
  refine cal_of M (i := 31) (by decide) ["copies", "some", "found", "one", "other"] ["copies", "some"] 0 2 _ (by decide +kernel) rfl (fun _ _ _ _ _ _ us hl => match us, hl with | [_, _], _ => rfl) fun ds d hn h => ?_
  obtain ⟨cp, f, rfl, h1, h2, rfl⟩ := h
  refine s_setN 2 (listT (dc (va 1))) ?_
  refine s_for (js := [3] ++ [4]) (xs := cp.reverse) (enc := tP) (DI.cast' (iT (backT (dc (va 0)))) (by rw [List.map_reverse])) (fun i δ' => ∃ s t, δ' = [.va (tC cp), .va (tI f), .ow (((cp.reverse.take i).foldl stepA f).map .int), s, t]) ⟨.un, .un, rfl⟩ (fun i c δ' ha hI => ?_) fun δ' hI => ?_
  · obtain ⟨s, t, rfl⟩ := hI
    refine ⟨_, gT2 (gN 3) (gN 4), ?_⟩
    have tk : (cp.reverse.take (i + 1)).foldl stepA f = stepA ((cp.reverse.take i).foldl stepA f) c := by
      rw [List.take_add_one, ha, List.foldl_append]
      rfl
    have len := foldA_len (cp.reverse.take i) f
    have lt : (cp.reverse.take i).length ≤ 1000 := by
      rw [List.length_take, List.length_reverse]
      omega
    refine s_if (tW (wA (cmpT (inL (dc (va 4)) (vo 2))) fun _ => wA1 (cmpT (niL (dc (va 3)) (vo 2))))) (fun e => ?_) fun e => ?_
    · have e : c.2 ∈ (cp.reverse.take i).foldl stepA f ∧ ¬ c.1 ∈ (cp.reverse.take i).foldl stepA f := by simpa using e
      refine s_app (ds := ((cp.reverse.take i).foldl stepA f).map .int) 2 (va 3) ?_ (by rw [List.length_map]; omega)
      refine s_nil (s_nil ⟨.va (.int c.1), .va (.int c.2), ?_⟩)
      rw [tk, stepA_pos e, List.map_append]
      rfl
    · have e : ¬ (c.2 ∈ (cp.reverse.take i).foldl stepA f ∧ ¬ c.1 ∈ (cp.reverse.take i).foldl stepA f) := by
        intro z
        simp [z.1, z.2] at e
      refine s_nil (s_nil ⟨.va (.int c.1), .va (.int c.2), ?_⟩)
      rw [tk, stepA_neg e]
      rfl
  · obtain ⟨s, t, rfl⟩ := hI
    refine s_frz 2 ?_
    refine s_ret (va 2) ?_
    rw [List.take_length]
    rfl
def orgL (s : Sh) (place : Int) : List Int := s.old.filter fun x => decide (x ∈ ahL s.cp [place])
theorem c_origins (M : MdF m) : Cal m 5 "origins" 2 (fun ds d => ∃ (s : Sh) (place : Int), ds = [eS s, .int place] ∧ s.Sm ∧ place ∈ s.new ∧ d = tI (orgL s place)) := by
  refine cal_of M (i := 32) (by decide) ["move", "place", "old", "new", "copies", "found", "own"] ["move", "place"] 4 2 _ (by decide +kernel) rfl (fun _ _ _ _ _ _ us hl => match us, hl with | [_, _], _ => rfl) fun ds d hn h => ?_
  obtain ⟨s, place, rfl, h1, h2, rfl⟩ := h
  refine s_tgt (js := [2] ++ ([3] ++ [4])) (call (c_tupled M 3) (aC (va 0) aN) ⟨rfl, tupd_eS h1⟩) (gT3 (gN 2) (gN 3) (gN 4)) ?_
  refine s_no (cmpT (niT (dc (va 1)) (dc (va 3)))) (by simpa using h2) ?_
  refine s_set 5 (call (c_ahead M) (aC (va 4) (aC (dTup (aC (va 1) aN)) aN)) ⟨s.cp, [place], rfl, by have := h1.2.2; omega, by simp, rfl⟩) ?_
  exact s_ret (tupL (dnc (lcS (own := [("own", 6)]) ⟨iT (va 2), by kernel_rfl, by decide, fun a _ => gN 6, fun a _ => ts1 (cmpT (inL (dc (va 6)) (dc (va 5)))), fun a _ _ => va 6, by have := h1.1; omega⟩))) rfl
def missL (old : List Int) (cp : List (Int × Int)) (lot : List Int) : Nat := (old.filter fun x => !decide (x ∈ ahL cp lot)).length
theorem c_missed_by (M : MdF m) : Cal m 2 "missed_by" 3 (fun ds d => ∃ (old : List Int) (cp : List (Int × Int)) (lot : List Int), ds = [tI old, tC cp, tI lot] ∧ old.length ≤ 1000 ∧ cp.length ≤ 1000 ∧ lot.length ≤ 1000 ∧ d = .int (missL old cp lot : Int)) := by
  refine cal_of M (i := 33) (by decide) ["old", "copies", "lot", "found", "own"] ["old", "copies", "lot"] 1 3 _ (by decide +kernel) rfl (fun _ _ _ _ _ _ us hl => match us, hl with | [_, _, _], _ => rfl) fun ds d hn h => ?_
  obtain ⟨old, cp, lot, rfl, h1, h2, h3, rfl⟩ := h
  refine s_set 3 (call (c_ahead M) (aC (va 1) (aC (va 2) aN)) ⟨cp, lot, rfl, h2, h3, rfl⟩) ?_
  exact s_ret (lenN (lcS (own := [("own", 4)]) ⟨iT (va 0), by kernel_rfl, by decide, fun a _ => gN 4, fun a _ => ts1 (cmpT (niL (dc (va 4)) (dc (va 3)))), fun a _ _ => va 4, by omega⟩)) (by rw [List.length_map]; rfl)
def losL (s : Sh) (need reads : Nat) : Option (List Int) := (lotsL s.new reads).find? fun lot => decide ((need : Int) ≤ (missL s.old s.cp lot : Int))
theorem lots_le (homes : List Int) : ∀ n, ∀ l ∈ lotsL homes n, l.length = n
  | 0, l, h => by
    have : l = [] := by simpa [lotsL] using h
    rw [this]
    rfl
  | n + 1, l, h => by
    obtain ⟨l0, h0, h1⟩ := List.mem_flatMap.mp (show l ∈ lotStep homes (lotsL homes n) from h)
    obtain ⟨p, _, rfl⟩ := List.mem_map.mp h1
    rw [List.length_append, lots_le homes n l0 h0]
    rfl
theorem c_losing_lot (M : MdF m) : Cal m 5 "losing_lot" 3 (fun ds d => ∃ (s : Sh) (need reads : Nat), ds = [eS s, .int (need : Int), .int (reads : Int)] ∧ s.Sm ∧ reads ≤ s.new.length ∧ d = oT (losL s need reads)) := by
  refine cal_of M (i := 34) (by decide) ["move", "need", "reads", "old", "new", "copies", "lot"] ["move", "need", "reads"] 4 3 _ (by decide +kernel) rfl (fun _ _ _ _ _ _ us hl => match us, hl with | [_, _, _], _ => rfl) fun ds d hn h => ?_
  obtain ⟨s, need, reads, rfl, h1, h2, rfl⟩ := h
  obtain ⟨a1, a2, a3⟩ := h1
  refine s_tgt (js := [3] ++ ([4] ++ [5])) (call (c_tupled M 3) (aC (va 0) aN) ⟨rfl, tupd_eS ⟨a1, a2, a3⟩⟩) (gT3 (gN 3) (gN 4) (gN 5)) ?_
  refine s_for (js := [6]) (xs := lotsL s.new reads) (enc := fun a => tI a) (iT (call (c_by_count M) (aC (va 4) (aC (va 2) aN)) ⟨s.new, reads, rfl, a2, h2, fun l hl => by rw [lots_le _ _ l hl]; omega, rfl⟩)) (fun i δ' => (∃ t, δ' = [.va (eS s), .va (.int (need : Int)), .va (.int (reads : Int)), .va (tI s.old), .va (tI s.new), .va (tC s.cp), t]) ∧ ∀ lot ∈ (lotsL s.new reads).take i, decide ((need : Int) ≤ (missL s.old s.cp lot : Int)) = false) ⟨⟨.un, rfl⟩, fun _ h => nomatch h⟩ (fun i a δ' ha hI => ?_) fun δ' hI => ?_
  · obtain ⟨⟨t, rfl⟩, hp⟩ := hI
    refine ⟨_, gN 6, ?_⟩
    have la := lots_le _ _ a (List.mem_of_getElem? ha)
    refine s_if (cmpT (geI (dc (call (c_missed_by M) (aC (va 3) (aC (va 5) (aC (va 6) aN))) ⟨s.old, s.cp, a, rfl, by omega, by omega, by omega, rfl⟩)) (dc (va 1)))) (fun e => ?_) fun e => ?_
    · refine s_ret (va 6) ?_
      show tI a = oT (losL s need reads)
      unfold losL
      rw [find_first ha hp e]
      rfl
    · exact s_nil (s_nil ⟨⟨_, rfl⟩, take_one ha hp e⟩)
  · obtain ⟨⟨t, rfl⟩, hp⟩ := hI
    refine s_ret cN ?_
    show PyData.none = oT (losL s need reads)
    unfold losL
    rw [find_none hp]
    rfl
theorem isNon_oT (o : Option (List Int)) : isNon (oT o) = o.isNone := by cases o <;> rfl
theorem c_can_lose (M : MdF m) : Cal m 6 "can_lose" 3 (fun ds d => ∃ (s : Sh) (need reads : Nat), ds = [eS s, .int (need : Int), .int (reads : Int)] ∧ s.Sm ∧ reads ≤ s.new.length ∧ d = .bool (losL s need reads).isSome) := by
  refine cal_of M (i := 35) (by decide) ["move", "need", "reads"] ["move", "need", "reads"] 5 3 _ (by decide +kernel) rfl (fun _ _ _ _ _ _ us hl => match us, hl with | [_, _, _], _ => rfl) fun ds d hn h => ?_
  obtain ⟨s, need, reads, rfl, h1, h2, rfl⟩ := h
  refine s_ret (cmpE (isNotN (dc (call (c_losing_lot M) (aC (va 0) (aC (va 1) (aC (va 2) aN))) ⟨s, need, reads, rfl, h1, h2, rfl⟩)) (dc cN))) ?_
  rw [isNon_oT]
  cases losL s need reads <;> rfl
end DL
set_option Elab.async false
set_option linter.all false
set_option maxRecDepth 100000
set_option maxHeartbeats 2000000
namespace DL
open PySem PySem.Spec PyProof.Rows L2
variable {m : Md}
/-! ### a list without repetition inside another -/
theorem nodup_sub : ∀ {l U : List Int}, l.Nodup → (∀ x ∈ l, x ∈ U) → l.length ≤ U.length
  | [], U, _, _ => Nat.zero_le _
  | x :: l, U, h, hs => by
    obtain ⟨h1, h2⟩ := List.nodup_cons.mp h
    have hx := hs x List.mem_cons_self
    have ih := nodup_sub (U := U.erase x) h2 fun y hy => by
      refine (List.mem_erase_of_ne fun e => h1 (by rw [← e]; exact hy)).mpr (hs y (List.mem_cons_of_mem _ hy))
    have pos : 0 < U.length := List.length_pos_of_mem hx
    rw [List.length_erase_of_mem hx] at ih
    rw [List.length_cons]
    omega
theorem nodup_full {l U : List Int} (h : l.Nodup) (hs : ∀ x ∈ l, x ∈ U) (hl : U.length ≤ l.length) : ∀ x ∈ U, x ∈ l := fun x hx => by
  by_cases hm : x ∈ l
  · exact hm
  · have := nodup_sub (l := x :: l) (U := U) (List.nodup_cons.mpr ⟨hm, h⟩) fun y hy => by
      rcases List.mem_cons.mp hy with rfl | hy
      · exact hx
      · exact hs y hy
    rw [List.length_cons] at this
    omega
/-! ### maps -/
abbrev Mp := List (Int × Int)
def lk (t : Mp) (k : Int) : Option Int := (t.find? fun q => decide (q.1 = k)).map (·.2)
def pu (t : Mp) (k v : Int) : Mp := if (t.any fun q => decide (q.1 = k)) = true then t.map (fun q => if q.1 = k then (q.1, v) else q) else t ++ [(k, v)]
def eT (t : Mp) : List (Int × PyData) := t.map fun q => (q.1, .int q.2)
theorem look_eT (k : Int) : ∀ t : Mp, dLook (eT t) k = (lk t k).map .int
  | [] => rfl
  | (a, b) :: t => by
    unfold dLook eT lk
    rw [List.map_cons]
    by_cases h : a = k
    · rw [List.find?_cons_of_pos (by simpa using h), List.find?_cons_of_pos (by simpa using h)]
      rfl
    · rw [List.find?_cons_of_neg (by simpa using h), List.find?_cons_of_neg (by simpa using h)]
      exact look_eT k t
theorem put_eT (t : Mp) (k v : Int) : dPut (eT t) k (.int v) = eT (pu t k v) := by
  unfold dPut pu eT
  rw [List.any_map]
  have e : ((fun q : Int × PyData => decide (q.1 = k)) ∘ fun q : Int × Int => (q.1, PyData.int q.2)) = fun q => decide (q.1 = k) := rfl
  rw [e]
  split
  · rw [List.map_map, List.map_map]
    refine List.map_congr_left fun q _ => ?_
    show (if q.1 = k then _ else _) = _
    split <;> (rename_i h; simp [h])
  · rw [List.map_append]
    rfl
abbrev Wt := List (Int × List Int)
def eW (w : Wt) : List (Int × PyData) := w.map fun q => (q.1, tI q.2)
def lw (w : Wt) (k : Int) : Option (List Int) := (w.find? fun q => decide (q.1 = k)).map (·.2)
theorem look_eW (k : Int) : ∀ t : Wt, dLook (eW t) k = (lw t k).map fun l => tI l
  | [] => rfl
  | (a, b) :: t => by
    unfold dLook eW lw
    rw [List.map_cons]
    by_cases h : a = k
    · rw [List.find?_cons_of_pos (by simpa using h), List.find?_cons_of_pos (by simpa using h)]
      rfl
    · rw [List.find?_cons_of_neg (by simpa using h), List.find?_cons_of_neg (by simpa using h)]
      exact look_eW k t
/-! ### find_heir -/
abbrev FR := Bool × Mp × List Int
def loopH (rec : Int → Mp → List Int → FR) (place : Int) : List Int → Mp → List Int → FR
  | [], t, tr => (false, t, tr)
  | o :: os, t, tr => if o ∈ tr then loopH rec place os t tr else
      match lk t o with
      | none => (true, pu t o place, tr ++ [o])
      | some p => if (rec p t (tr ++ [o])).1 = true then (true, pu (rec p t (tr ++ [o])).2.1 o place, (rec p t (tr ++ [o])).2.2) else loopH rec place os (rec p t (tr ++ [o])).2.1 (rec p t (tr ++ [o])).2.2
def findH (w : Wt) : Nat → Int → Mp → List Int → FR
  | 0, place, t, tr => loopH (fun _ t tr => (false, t, tr)) place ((lw w place).getD []) t tr
  | n + 1, place, t, tr => loopH (findH w n) place ((lw w place).getD []) t tr
/-- what is always so of a state of the search -/
structure FhOk (w : Wt) (U : List Int) (n : Nat) (t : Mp) (tr : List Int) : Prop where
  u : ∀ r ∈ w, ∀ o ∈ r.2, o ∈ U
  nd : tr.Nodup
  sub : ∀ o ∈ tr, o ∈ U
  few : U.length ≤ n + tr.length
  uz : U.length ≤ 100
  val : ∀ q ∈ t, ∃ l, lw w q.2 = some l
  tz : t.length + n ≤ 1000
theorem lw_mem {w : Wt} {k : Int} {l : List Int} (h : lw w k = some l) : (k, l) ∈ w := by
  obtain ⟨q, h1, h2⟩ := Option.map_eq_some_iff.mp h
  have hm := List.mem_of_find?_eq_some h1
  have hp := List.find?_some h1
  have e : q.1 = k := by simpa using hp
  subst e h2
  exact hm
theorem lk_mem {t : Mp} {k v : Int} (h : lk t k = some v) : (k, v) ∈ t := by
  obtain ⟨q, h1, h2⟩ := Option.map_eq_some_iff.mp h
  have hm := List.mem_of_find?_eq_some h1
  have hp := List.find?_some h1
  have e : q.1 = k := by simpa using hp
  subst e h2
  exact hm
theorem pu_mem {t : Mp} {k v : Int} {q : Int × Int} (h : q ∈ pu t k v) : q = (k, v) ∨ q ∈ t := by
  unfold pu at h
  split at h
  · obtain ⟨r, hr, e⟩ := List.mem_map.mp h
    by_cases hk : r.1 = k
    · rw [if_pos hk] at e
      subst e
      exact .inl (by rw [hk])
    · rw [if_neg hk] at e
      subst e
      exact .inr hr
  · rcases List.mem_append.mp h with h | h
    · exact .inr h
    · exact .inl (List.mem_singleton.mp h)
theorem pu_len (t : Mp) (k v : Int) : (pu t k v).length ≤ t.length + 1 := by
  unfold pu
  split
  · rw [List.length_map]
    omega
  · rw [List.length_append]
    simp
/-- what a search leaves -/
structure FhAf (w : Wt) (U : List Int) (n : Nat) (t : Mp) (tr : List Int) (r : FR) : Prop where
  nd : r.2.2.Nodup
  sub : ∀ o ∈ r.2.2, o ∈ U
  more : tr.length ≤ r.2.2.length
  val : ∀ q ∈ r.2.1, ∃ l, lw w q.2 = some l
  tz : r.2.1.length ≤ t.length + n + 1
  same : r.1 = false → r.2.1 = t
theorem loopH_skip {rec : Int → Mp → List Int → FR} {place o : Int} {os : List Int} {t : Mp} {tr : List Int} (h : o ∈ tr) : loopH rec place (o :: os) t tr = loopH rec place os t tr := by
  rw [loopH, if_pos h]
theorem loopH_free {rec : Int → Mp → List Int → FR} {place o : Int} {os : List Int} {t : Mp} {tr : List Int} (h : ¬ o ∈ tr) (hl : lk t o = none) : loopH rec place (o :: os) t tr = (true, pu t o place, tr ++ [o]) := by
  rw [loopH, if_neg h, hl]
theorem loopH_yes {rec : Int → Mp → List Int → FR} {place o p : Int} {os : List Int} {t : Mp} {tr : List Int} (h : ¬ o ∈ tr) (hl : lk t o = some p) (hr : (rec p t (tr ++ [o])).1 = true) : loopH rec place (o :: os) t tr = (true, pu (rec p t (tr ++ [o])).2.1 o place, (rec p t (tr ++ [o])).2.2) := by
  rw [loopH, if_neg h, hl]
  show (if (rec p t (tr ++ [o])).1 = true then _ else _) = _
  rw [if_pos hr]
theorem loopH_no {rec : Int → Mp → List Int → FR} {place o p : Int} {os : List Int} {t : Mp} {tr : List Int} (h : ¬ o ∈ tr) (hl : lk t o = some p) (hr : (rec p t (tr ++ [o])).1 = false) : loopH rec place (o :: os) t tr = loopH rec place os (rec p t (tr ++ [o])).2.1 (rec p t (tr ++ [o])).2.2 := by
  rw [loopH, if_neg h, hl]
  show (if (rec p t (tr ++ [o])).1 = true then _ else _) = _
  rw [if_neg (by rw [hr]; exact Bool.false_ne_true)]
def recF (w : Wt) : Nat → Int → Mp → List Int → FR
  | 0 => fun _ t tr => (false, t, tr)
  | n + 1 => findH w n
theorem findH_eq (w : Wt) (n : Nat) (place : Int) (t : Mp) (tr : List Int) : findH w n place t tr = loopH (recF w n) place ((lw w place).getD []) t tr := by cases n <;> rfl
theorem FhOk.down {w : Wt} {U : List Int} {n : Nat} {t : Mp} {tr : List Int} {o : Int} (h : FhOk w U (n + 1) t tr) (ho : o ∈ U) (hn : ¬ o ∈ tr) : FhOk w U n t (tr ++ [o]) where
  u := h.u
  nd := by
    rw [List.nodup_append]
    refine ⟨h.nd, by simp, fun a ha b hb => ?_⟩
    rw [List.mem_singleton.mp hb]
    exact fun e => hn (by rw [← e]; exact ha)
  sub := fun x hx => by
    rcases List.mem_append.mp hx with hx | hx
    · exact h.sub x hx
    · rw [List.mem_singleton.mp hx]
      exact ho
  few := by
    have := h.few
    rw [List.length_append]
    simp
    omega
  uz := h.uz
  val := h.val
  tz := by have := h.tz; omega
theorem FhOk.full {w : Wt} {U : List Int} {t : Mp} {tr : List Int} {o : Int} (h : FhOk w U 0 t tr) (ho : o ∈ U) : o ∈ tr := nodup_full h.nd h.sub (by have := h.few; omega) o ho
theorem FhOk.on {w : Wt} {U : List Int} {n : Nat} {t : Mp} {tr : List Int} {o : Int} {r : FR} (h : FhOk w U (n + 1) t tr) (a : FhAf w U n t (tr ++ [o]) r) (hr : r.1 = false) : FhOk w U (n + 1) r.2.1 r.2.2 where
  u := h.u
  nd := a.nd
  sub := a.sub
  few := by
    have h1 := h.few
    have h2 := a.more
    rw [List.length_append] at h2
    simp at h2
    omega
  uz := h.uz
  val := a.val
  tz := by
    rw [a.same hr]
    exact h.tz
theorem loop_ok {w : Wt} {U : List Int} {n : Nat} {rec : Int → Mp → List Int → FR} (hrec : ∀ k, n = k + 1 → ∀ p t tr, FhOk w U k t tr → (∃ l, lw w p = some l) → FhAf w U k t tr (rec p t tr)) {place : Int} (hp : ∃ l, lw w place = some l) :
    ∀ (os : List Int) (t : Mp) (tr : List Int), (∀ o ∈ os, o ∈ U) → FhOk w U n t tr → FhAf w U n t tr (loopH rec place os t tr)
  | [], t, tr, _, h => ⟨h.nd, h.sub, Nat.le_refl _, h.val, by show t.length ≤ _; omega, fun _ => rfl⟩
  | o :: os, t, tr, hu, h => by
    have ho := hu o List.mem_cons_self
    have hos : ∀ x ∈ os, x ∈ U := fun x hx => hu x (List.mem_cons_of_mem _ hx)
    by_cases hm : o ∈ tr
    · rw [loopH_skip hm]
      exact loop_ok hrec hp os t tr hos h
    · cases n with
      | zero => exact absurd (h.full ho) hm
      | succ k =>
        have d := h.down ho hm
        cases hl : lk t o with
        | none =>
          rw [loopH_free hm hl]
          refine ⟨d.nd, d.sub, by simp, fun q hq => ?_, ?_, fun e => nomatch e⟩
          · rcases pu_mem hq with rfl | hq
            · exact hp
            · exact h.val q hq
          · show (pu t o place).length ≤ _
            have := pu_len t o place
            omega
        | some p =>
          have hv := h.val _ (lk_mem hl)
          have a := hrec k rfl p t (tr ++ [o]) d hv
          have more := a.more
          rw [List.length_append] at more
          simp at more
          cases hr : (rec p t (tr ++ [o])).1 with
          | true =>
            rw [loopH_yes hm hl hr]
            refine ⟨a.nd, a.sub, (show tr.length ≤ (rec p t (tr ++ [o])).2.2.length by omega), fun q hq => ?_, ?_, fun e => nomatch e⟩
            · rcases pu_mem hq with rfl | hq
              · exact hp
              · exact a.val q hq
            · show (pu _ o place).length ≤ _
              have h1 := pu_len (rec p t (tr ++ [o])).2.1 o place
              have h2 := a.tz
              omega
          | false =>
            rw [loopH_no hm hl hr]
            have b := loop_ok hrec hp os _ _ hos (h.on a hr)
            have es := a.same hr
            refine ⟨b.nd, b.sub, by have := b.more; omega, b.val, ?_, fun e => ?_⟩
            · have := b.tz
              rw [es] at this
              rw [es]
              exact this
            · rw [b.same e, es]
theorem find_ok {w : Wt} {U : List Int} : ∀ (n : Nat) (p : Int) (t : Mp) (tr : List Int), FhOk w U n t tr → (∃ l, lw w p = some l) → FhAf w U n t tr (findH w n p t tr)
  | n, p, t, tr, h, hp => by
    rw [findH_eq]
    obtain ⟨l, hl⟩ := hp
    refine loop_ok (fun k e p t tr h' hp' => ?_) ⟨l, hl⟩ _ t tr (fun o ho => ?_) h
    · subst e
      exact find_ok k p t tr h' hp'
    · rw [hl] at ho
      exact h.u _ (lw_mem hl) o ho
abbrev asF (place : Int) (w : Wt) (t : Mp) (tr : List Int) (q1 q2 q3 : Addr) : List Sl := [.va (.int place), .ob q1 (.d (eW w)), .ob q2 (.d (eT t)), .ob q3 (.l (tr.map .int))]
abbrev afF (w : Wt) (r : FR) (q1 q2 q3 : Addr) : List Sl := [.un, .ob q1 (.d (eW w)), .ob q2 (.d (eT r.2.1)), .ob q3 (.l (r.2.2.map .int))]
theorem outF {place : Int} {w : Wt} {t : Mp} {tr : List Int} {q1 q2 q3 : Addr} {r : FR} {s0 s4 : Sl} : outA (asF place w t tr q1 q2 q3) [s0, .ob q1 (.d (eW w)), .ob q2 (.d (eT r.2.1)), .ob q3 (.l (r.2.2.map .int)), s4] (afF w r q1 q2 q3) := by
  refine ⟨⟨rfl, fun i => ?_⟩, fun i p o h => ?_⟩
  · match i with
    | 0 => exact .inr ⟨fun p o h => (nomatch h), .inl rfl⟩
    | 1 => exact .inl ⟨_, _, _, rfl, rfl⟩
    | 2 => exact .inl ⟨_, _, _, rfl, rfl⟩
    | 3 => exact .inl ⟨_, _, _, rfl, rfl⟩
    | i + 4 => exact .inr ⟨fun p o h => (by simp at h), .inr (by simp)⟩
  · match i, h with
    | 0, h => cases h
    | 1, h => cases h; rfl
    | 2, h => cases h; rfl
    | 3, h => cases h; rfl
    | i + 4, h => simp at h
abbrev PrF (place : Int) (w : Wt) (t : Mp) (tr : List Int) (q1 q2 q3 : Addr) : List Sl → Prop := fun as => as = asF place w t tr q1 q2 q3
abbrev RlF (n : Nat) (place : Int) (w : Wt) (t : Mp) (tr : List Int) (q1 q2 q3 : Addr) : RelO := fun _ d as' => d = .bool (findH w n place t tr).1 ∧ as' = afF w (findH w n place t tr) q1 q2 q3
theorem eT_inj : ∀ {a b : Mp}, eT a = eT b → a = b
  | [], [], _ => rfl
  | [], _ :: _, h => nomatch h
  | _ :: _, [], h => nomatch h
  | (x, y) :: a, (z, u) :: b, h => by
    obtain ⟨h1, h2⟩ := List.cons.inj (show (x, PyData.int y) :: eT a = (z, PyData.int u) :: eT b from h)
    obtain ⟨h3, h4⟩ := Prod.mk.inj h1
    rw [h3, PyData.int.inj h4, eT_inj h2]
theorem ints_inj : ∀ {a b : List Int}, a.map PyData.int = b.map PyData.int → a = b
  | [], [], _ => rfl
  | [], _ :: _, h => nomatch h
  | _ :: _, [], h => nomatch h
  | x :: a, y :: b, h => by
    obtain ⟨h1, h2⟩ := List.cons.inj (show PyData.int x :: a.map .int = PyData.int y :: b.map .int from h)
    rw [PyData.int.inj h1, ints_inj h2]
def PrX (w : Wt) (U : List Int) (n : Nat) : List Sl → Prop := fun as => ∃ place t tr q1 q2 q3, as = asF place w t tr q1 q2 q3 ∧ FhOk w U n t tr ∧ ∃ l, lw w place = some l
def RlX (w : Wt) (n : Nat) : RelO := fun as d as' => ∃ place t tr q1 q2 q3, as = asF place w t tr q1 q2 q3 ∧ RlF n place w t tr q1 q2 q3 as d as'
theorem RlX.at {w : Wt} {n : Nat} {place : Int} {t : Mp} {tr : List Int} {q1 q2 q3 : Addr} {d : PyData} {as' : List Sl} (h : RlX w n (asF place w t tr q1 q2 q3) d as') : RlF n place w t tr q1 q2 q3 (asF place w t tr q1 q2 q3) d as' := by
  obtain ⟨place', t', tr', p1, p2, p3, e, h⟩ := h
  simp only [asF, List.cons.injEq, Sl.va.injEq, PyData.int.injEq, Sl.ob.injEq, Obd.d.injEq, Obd.l.injEq, and_true, true_and] at e
  obtain ⟨rfl, rfl, ⟨rfl, e2⟩, rfl, e3⟩ := e
  have e2 := eT_inj e2
  have e3 := ints_inj e3
  subst e2 e3
  exact h
theorem rtF {place : Int} {w : Wt} {t : Mp} {tr : List Int} {q1 q2 q3 : Addr} {n : Nat} {r : FR} {s0 s4 : Sl} (e : findH w n place t tr = r) : (Po.fo (asF place w t tr q1 q2 q3) (RlX w n)).rt [s0, .ob q1 (.d (eW w)), .ob q2 (.d (eT r.2.1)), .ob q3 (.l (r.2.2.map .int)), s4] (.bool r.1) := by
  subst e
  exact ⟨_, outF, place, t, tr, q1, q2, q3, rfl, rfl, rfl⟩
theorem find_step (M : MdF m) (n : Nat) (w : Wt) (U : List Int) (ih : ∀ k, n = k + 1 → CalO m (k + 1) "find_heir" 4 (PrX w U k) (RlX w k)) : CalO m (n + 1) "find_heir" 4 (PrX w U n) (RlX w n) := by
  refine calO_of M (i := 36) (by decide) ["place", "wanted", "taken", "tried", "origin"] ["place", "wanted", "taken", "tried"] n 4 _ _ (by decide +kernel) rfl (fun _ _ _ _ _ _ us hl => match us, hl with | [_, _, _, _], _ => rfl) fun as hn hP hA => ?_
  obtain ⟨place, t, tr, q1, q2, q3, rfl, h, hp⟩ := hP
  obtain ⟨l, hl⟩ := hp
  refine s_for (js := [4]) (xs := l) (enc := fun a => .int a) (iT (dGet 1 (dc (va 0)) (by rw [look_eW, hl]; rfl))) (fun i δ' => ∃ s t' tr', δ' = [.va (.int place), .ob q1 (.d (eW w)), .ob q2 (.d (eT t')), .ob q3 (.l (tr'.map .int)), s] ∧ FhOk w U n t' tr' ∧ findH w n place t tr = loopH (recF w n) place (l.drop i) t' tr') ⟨.un, t, tr, rfl, h, by rw [findH_eq, hl]; rfl⟩ (fun i o δ' ha hI => ?_) fun δ' hI => ?_
  · obtain ⟨s, t', tr', rfl, h', he⟩ := hI
    have lt := lt_of_get ha
    have go : l[i] = o := by
      rw [List.getElem?_eq_getElem lt] at ha
      exact Option.some.inj ha
    rw [List.drop_eq_getElem_cons lt, go] at he
    have hu : o ∈ U := h.u _ (lw_mem hl) o (List.mem_of_getElem? ha)
    refine ⟨_, gN 4, ?_⟩
    refine s_if (cmpT (niL (dc (va 4)) (vb 3))) (fun e => ?_) fun e => ?_
    · have hm : ¬ o ∈ tr' := by simpa using e
      cases n with
      | zero => exact absurd (h'.full hu) hm
      | succ k =>
        have d := h'.down hu hm
        have tlen : tr'.length ≤ 100000 := by
          have h1 := nodup_sub h'.nd h'.sub
          have h2 := h'.uz
          omega
        refine s_appB (ds := tr'.map .int) 3 (va 4) ?_ (by rw [List.length_map]; exact tlen)
        have ez : (tr'.map PyData.int) ++ [PyData.int o] = (tr' ++ [o]).map .int := by rw [List.map_append]; rfl
        rw [ez]
        have tz := h'.tz
        cases hk : lk t' o with
        | none =>
          rw [loopH_free hm hk] at he
          refine s_ifX (xtW (xwO (xt0 (cmpT (dNi 2 (dc (va 4)))) (.inl ⟨by rw [look_eT, hk]; rfl, ?_⟩))))
          rw [if_pos rfl]
          refine s_dput (ks := eT t') 2 (va 0) (va 4) ?_ (by unfold eT; rw [List.length_map]; omega)
          rw [put_eT]
          exact s_ret cB (rtF he)
        | some p =>
          refine s_ifX (xtW (xwO (xt0 (cmpT (dNi 2 (dc (va 4)))) (.inr ⟨by rw [look_eT, hk]; rfl, ?_⟩))))
          have hv := h'.val _ (lk_mem hk)
          have af := find_ok k p t' (tr' ++ [o]) d hv
          refine xwo1 (xtV (x_call3 (ih k rfl) 1 2 3 (dGet 2 (dc (va 4)) (by rw [look_eT, hk]; rfl)) rfl rfl rfl (by decide) (by decide) (by decide) ⟨p, t', tr' ++ [o], q1, q2, q3, rfl, d, hv⟩ (fun dd v1 v2 v3 hR => ?_) (hk := Nat.le_refl _)))
          obtain ⟨rfl, e⟩ := RlX.at hR
          simp only [afF, List.cons.injEq, Sl.ob.injEq, true_and, and_true] at e
          obtain ⟨rfl, rfl, rfl⟩ := e
          refine ⟨_, rfl, ?_⟩
          cases hr : (findH w k p t' (tr' ++ [o])).1 with
          | true =>
            rw [loopH_yes (rec := recF w (k + 1)) hm hk hr] at he
            rw [if_pos rfl]
            refine s_dput (ks := eT (findH w k p t' (tr' ++ [o])).2.1) 2 (va 0) (va 4) ?_ (by have := af.tz; unfold eT; rw [List.length_map]; omega)
            rw [put_eT]
            exact s_ret cB (rtF he)
          | false =>
            rw [loopH_no (rec := recF w (k + 1)) hm hk hr] at he
            rw [if_neg Bool.false_ne_true]
            exact s_nil (s_nil (s_nil ⟨_, _, _, rfl, h'.on af hr, he⟩))
    · have hm : o ∈ tr' := by simpa using e
      rw [loopH_skip hm] at he
      exact s_nil (s_nil ⟨_, t', tr', rfl, h', he⟩)
  · obtain ⟨s, t', tr', rfl, h', he⟩ := hI
    rw [List.drop_length] at he
    exact s_ret cB (rtF he)
theorem c_find_heir (M : MdF m) (w : Wt) (U : List Int) : ∀ n, CalO m (n + 1) "find_heir" 4 (PrX w U n) (RlX w n)
  | 0 => find_step M 0 w U fun k e => by omega
  | n + 1 => find_step M (n + 1) w U fun k e => by
    have : n = k := by omega
    subst this
    exact c_find_heir M w U n
end DL
set_option Elab.async false
set_option linter.all false
set_option maxRecDepth 100000
set_option maxHeartbeats 2000000
namespace DL
open PySem PySem.Spec PyProof.Rows L2
variable {m : Md}
/-! ### sorted pairs -/
def leP (a b : Int × Int) : Bool := decide (a.1 < b.1 ∨ (a.1 = b.1 ∧ a.2 ≤ b.2))
def srtP (l : List (Int × Int)) : List (Int × Int) := l.mergeSort leP
theorem dLe_tP (a b : Int × Int) : dLe (tP a) (tP b) = leP a b := by
  have h := PySem.W.dataLe_ii (β := Int × Int) (fun q => q.1) (fun q => q.2)
  have h2 := congrFun (congrFun h a) b
  exact h2
theorem srtD_tP (l : List (Int × Int)) : srtD (l.map tP) = (srtP l).map tP := (List.map_mergeSort (f := tP) (r := leP) (s := dLe) fun a _ b _ => (dLe_tP a b).symm).symm
theorem srtOk_tP {l : List (Int × Int)} (h : l.length ≤ 100000) : SrtOk (l.map tP) := by
  refine ⟨PySem.W.AllAlike.of fun a b => by simp [tP, PySem.W.alike, PySem.W.alikeAll], fun d hd => ?_, by rw [List.length_map]; exact h, .inr fun d hd => ?_⟩
  · obtain ⟨a, _, rfl⟩ := List.mem_map.mp hd
    exact Nat.le_trans (nice_tP (k := 0)).2 (by decide)
  · obtain ⟨a, _, rfl⟩ := List.mem_map.mp hd
    exact ⟨_, _, rfl⟩
/-! ### heirs -/
def Ws (s : Sh) : Wt := s.new.map fun p => (p, orgL s p)
def hrM (w : Wt) : List Int → Mp → Option Mp
  | [], t => some t
  | p :: ps, t => if (findH w 3 p t []).1 = true then hrM w ps (findH w 3 p t []).2.1 else none
def oC : Option (List (Int × Int)) → PyData
  | none => .none
  | some l => tC l
def heirsL (s : Sh) : Option (List (Int × Int)) := (hrM (Ws s) s.new []).map fun t => srtP (t.map fun q => (q.2, q.1))
theorem lw_Ws {s : Sh} {p : Int} (h : p ∈ s.new) : ∃ l, lw (Ws s) p = some l := by
  unfold lw Ws
  cases e : (s.new.map fun p => (p, orgL s p)).find? fun q => decide (q.1 = p) with
  | none =>
    rw [List.find?_eq_none] at e
    exact absurd (e (p, orgL s p) (List.mem_map.mpr ⟨p, h, rfl⟩)) (by simp)
  | some q => exact ⟨_, rfl⟩
theorem c_heirs (M : MdF m) : Cal m 6 "heirs" 1 (fun ds d => ∃ s : Sh, ds = [eS s] ∧ s.Sm ∧ s.new.Nodup ∧ d = oC (heirsL s)) := by
  refine cal_of M (i := 37) (by decide) ["move", "new", "wanted", "taken", "place", "origin"] ["move"] 5 1 _ (by decide +kernel) rfl (fun _ _ _ _ _ _ us hl => match us, hl with | [_], _ => rfl) fun ds d hn h => ?_
  obtain ⟨s, rfl, sm, nd, rfl⟩ := h
  obtain ⟨a1, a2, a3⟩ := id sm
  refine s_set 1 (ixT (dc (call (c_tupled M 3) (aC (va 0) aN) ⟨rfl, tupd_eS sm⟩)) (dc cI) (d := tI s.new) rfl) ?_
  refine s_setDc 2 (own := [("place", 4)]) (js := [4]) (xs := s.new) (enc := fun a => .int a) (kf := fun p => p) (f := fun p => tI (orgL s p)) (iT (va 1)) (by kernel_rfl) (by decide) (fun a _ => gN 4) (fun a _ => ts0) (fun a _ => va 4) (fun a ha => call (c_origins M) (aC (va 0) (aC (va 4) aN)) ⟨s, a, rfl, sm, ha, rfl⟩) (by omega) (by rw [List.map_id']; exact nd) fun q1 => ?_
  have ew : (s.new.map fun p => (p, tI (orgL s p))) = eW (Ws s) := by
    unfold eW Ws
    rw [List.map_map]
    rfl
  rw [ew]
  refine s_dnew 3 fun q2 => ?_
  refine s_for (js := [4]) (xs := s.new) (enc := fun a => .int a) (iT (va 1)) (fun i δ' => ∃ s' t, δ' = [.va (eS s), .va (tI s.new), .ob q1 (.d (eW (Ws s))), .ob q2 (.d (eT t)), s', .un] ∧ hrM (Ws s) s.new [] = hrM (Ws s) (s.new.drop i) t ∧ (∀ q ∈ t, ∃ l, lw (Ws s) q.2 = some l) ∧ t.length ≤ 4 * i) ⟨.un, [], rfl, rfl, fun q hq => (nomatch hq), Nat.le_refl _⟩ (fun i p δ' ha hI => ?_) fun δ' hI => ?_
  · obtain ⟨s', t, rfl, he, hv, ht⟩ := hI
    have lt := lt_of_get ha
    have gp : s.new[i] = p := by
      rw [List.getElem?_eq_getElem lt] at ha
      exact Option.some.inj ha
    rw [List.drop_eq_getElem_cons lt, gp] at he
    have ok : FhOk (Ws s) s.old 3 t [] := by
      refine ⟨fun r hr o ho => ?_, List.nodup_nil, fun o h => (nomatch h), a1, by omega, hv, by omega⟩
      obtain ⟨x, _, rfl⟩ := List.mem_map.mp hr
      exact (List.mem_filter.mp ho).1
    have hp := lw_Ws (List.mem_of_getElem? ha)
    have af := find_ok 3 p t [] ok hp
    refine ⟨_, gN 4, ?_⟩
    refine s_ifX (xtNot (xtV (x_call2F (c_find_heir M (Ws s) s.old 3) 2 3 (va 4) rfl rfl (by decide) (fun z => ⟨p, t, [], q1, q2, z, rfl, ok, hp⟩) (fun z dd v1 v2 v3 hR => ?_))))
    · obtain ⟨rfl, e⟩ := RlX.at (tr := []) hR
      simp only [afF, List.cons.injEq, Sl.ob.injEq, true_and, and_true] at e
      obtain ⟨rfl, rfl, _⟩ := e
      refine ⟨_, rfl, ?_⟩
      cases hr : (findH (Ws s) 3 p t []).1 with
      | true =>
        rw [hrM, if_pos hr] at he
        rw [if_neg (by decide)]
        exact s_nil (s_nil ⟨_, _, rfl, he, af.val, by have := af.tz; omega⟩)
      | false =>
        rw [hrM, if_neg (by rw [hr]; decide)] at he
        rw [if_pos (by decide)]
        refine s_ret cN ?_
        show PyData.none = oC (heirsL s)
        unfold heirsL
        rw [he]
        rfl
  · obtain ⟨s', t, rfl, he, hv, ht⟩ := hI
    rw [List.drop_length] at he
    have len : t.length ≤ 12 := by omega
    have el : (eT t).map (fun a => PyData.tuple [a.2, .int a.1]) = (t.map fun q => (q.2, q.1)).map tP := by
      unfold eT
      rw [List.map_map, List.map_map]
      rfl
    refine s_ret (tupL (dnc (sortD (dnc (DN.cast (lcItems 3 (own := [("origin", 5), ("place", 4)]) (js := [5] ++ [4]) (ks := eT t) rfl (by kernel_rfl) (by decide) (fun a _ => gT2 (gN 5) (gN 4)) (fun a _ => dTup (aC (va 4) (aC (va 5) aN))) (by unfold eT; rw [List.length_map]; omega)) el)) (srtOk_tP (by rw [List.length_map]; omega)) (fun d hd => (nice_map (fun _ => nice_tP (k := 0)) d hd).1)))) ?_
    rw [srtD_tP]
    show _ = oC (heirsL s)
    unfold heirsL
    rw [he]
    rfl
end DL
set_option Elab.async false
set_option linter.all false
set_option maxRecDepth 100000
set_option maxHeartbeats 2000000
namespace DL
open PySem PySem.Spec PyProof.Rows L2
variable {m : Md}
theorem ins_len {x : Int} : ∀ {l : List Int}, ¬ x ∈ l → (ins x l).length = l.length + 1
  | [], _ => rfl
  | y :: r, h => by
    have hy : ¬ x = y := fun e => h (by rw [e]; exact List.mem_cons_self)
    have hr : ¬ x ∈ r := fun e => h (List.mem_cons_of_mem _ e)
    unfold ins
    rw [if_neg hy]
    split
    · rfl
    · rw [List.length_cons, ins_len hr, List.length_cons]
theorem uq_len : ∀ {l : List Int}, l.Nodup → (uq l).length = l.length
  | [], _ => rfl
  | x :: r, h => by
    obtain ⟨h1, h2⟩ := List.nodup_cons.mp h
    rw [uq, ins_len (fun e => h1 (mem_uq.mp e)), uq_len h2]
    rfl
theorem all_true {α : Type} {xs : List α} {f : α → Bool} (h : ∀ a ∈ xs, f a = true) : (xs.map f).all id = true := by
  rw [List.all_map, List.all_eq_true]
  exact h
theorem c_is_heirs (M : MdF m) : Cal m 6 "is_heirs" 2 (fun ds d => ∃ (s : Sh) (ps : List (Int × Int)), ds = [eS s, tC ps] ∧ s.Sm ∧ ps.map (·.1) = s.new ∧ (ps.map (·.2)).Nodup ∧ (∀ q ∈ ps, q.2 ∈ orgL s q.1) ∧ d = .bool true) := by
  refine cal_of M (i := 38) (by decide) ["move", "thing", "new", "own", "bit", "place", "origin"] ["move", "thing"] 5 2 _ (by decide +kernel) rfl (fun _ _ _ _ _ _ us hl => match us, hl with | [_, _], _ => rfl) fun ds d hn h => ?_
  obtain ⟨s, ps, rfl, sm, e1, nd, ho, rfl⟩ := h
  have len : ps.length = s.new.length := by rw [← e1, List.length_map]
  obtain ⟨a1, a2, a3⟩ := id sm
  refine s_set 2 (ixT (dc (call (c_tupled M 3) (aC (va 0) aN) ⟨rfl, tupd_eS sm⟩)) (dc cI) (d := tI s.new) rfl) ?_
  refine s_no (tW (wO (tNot (tV (dc (isi "tuple" (d := tC ps) (dc (va 1)) (k := true) k_tt)))) fun _ => wO1 (cmpT (neI (dc (lenT (dc (va 1)))) (dc (lenT (dc (va 2)))))))) (by simp [len]) ?_
  refine s_for (js := [3]) (xs := ps) (enc := tP) (iT (va 1)) (fun i δ' => ∃ t, δ' = [.va (eS s), .va (tC ps), .va (tI s.new), t, .un, .un, .un]) ⟨.un, rfl⟩ (fun i q δ' ha hI => ?_) fun δ' hI => ?_
  · obtain ⟨t, rfl⟩ := hI
    refine ⟨_, gN 3, ?_⟩
    refine s_no (k := (!true || (!decide ((2 : Int) = 2) || !true))) (tW (wO (tNot (tV (dc (isi "tuple" (d := tP q) (dc (va 3)) (k := true) k_tt)))) fun _ => wO (DT.cast (cmpT (neI (dc (DP.cast (lenT (dc (va 3)) (ds := [.int q.1, .int q.2])) rfl)) (dc (gI (i := 2))))) rfl) fun _ => wO1 (tNot (DT.cast (tV (dc (allL (lcB (own := [("bit", 4)]) (xs := [q.1, q.2]) (enc := fun a => .int a) (g := fun _ => true) ⟨iT (va 3), by kernel_rfl, by decide, fun a _ => gN 4, fun a _ => ts0, fun a _ _ => call (c_is_number M) (aC (va 4) aN) ⟨a, rfl, rfl⟩, by simp⟩)))) rfl)))) (by decide) (s_nil ⟨_, rfl⟩)
  · obtain ⟨t, rfl⟩ := hI
    refine s_no (k := !decide (s.new = s.new) || !decide (((uq (ps.map fun q => q.2)).length : Int) = (ps.length : Int))) (tW (wO (DT.cast (cmpT (neD (d1 := tI s.new) (d2 := tI s.new) ?_ (dc (va 2)) tI_sh tI_sh)) (by rw [eqv_tI])) fun _ => wO1 (cmpT (neI ?_ (dc (DP.cast (lenT (dc (va 1))) (by rw [List.length_map]))))))) (by rw [uq_len nd, List.length_map]; simp) ?_
    · exact dc (tupL (dnc (DN.cast (lcI (own := [("own", 3)]) (xs := ps) (enc := tP) (p := fun _ => true) (g := fun q => q.1) ⟨iT (va 1), by kernel_rfl, by decide, fun a _ => gN 3, fun a _ => ts0, fun a _ _ => ixT (dc (va 3)) (dc cI) (d := .int a.1) rfl, by omega⟩) (by rw [List.filter_eq_self.mpr (fun _ _ => rfl), e1]))))
    · exact dc (DP.cast (lenN (sortS (setC (own := [("own", 3)]) (js := [3]) (xs := ps) (enc := tP) (f := fun q => q.2) (iT (va 1)) (by kernel_rfl) (by decide) (fun a _ => gN 3) (fun a _ => ixT (dc (va 3)) (dc cI) (d := .int a.2) rfl) (by omega)) (by rw [List.length_map]; omega))) (by rw [List.length_map]))
    refine s_ret (allL (lcB (own := [("place", 5), ("origin", 6)]) (js := [5] ++ [6]) (xs := ps) (enc := tP) (g := fun q => decide (q.2 ∈ orgL s q.1)) ⟨iT (va 1), by kernel_rfl, by decide, fun a _ => gT2 (gN 5) (gN 6), fun a _ => ts0, fun a ha _ => cmpE (inT (dc (va 6)) (dc (call (c_origins M) (aC (va 0) (aC (va 5) aN)) ⟨s, a.1, rfl, sm, by rw [← e1]; exact List.mem_map.mpr ⟨a, ha, rfl⟩, rfl⟩))), by omega⟩)) ?_
    rw [all_true fun a ha => by simpa using ho a ha]
/-! ### misses -/
def fwrL (page : List Dd) (tr : List (List Int)) (v : Int) : Option Int := (writesL page).find? fun n => decide (v ≤ (page.getD n.toNat (.cp 0 0 0)).ver) && (roomL (page.getD n.toNat (.cp 0 0 0)).kin (tr.getD (n.toNat + 1) [])).isNone
theorem c_past_behind_all (M : MdF m) : Cal m 8 "past_behind_all" 2 (fun ds d => ∃ (page : List Dd) (some : List Int), ds = [eB page, tI some] ∧ PgOk page ∧ some.length ≤ 300 ∧ (∀ x ∈ some, 0 ≤ x ∧ x < 8) ∧ (∀ t, t <:+ page → ((trail t some).headD []).length ≤ 60) ∧ d = .tuple ((trail page some).map fun a => tI a)) := by
  refine cal_of M (i := 42) (by decide) ["book", "some"] ["book", "some"] 7 2 _ (by decide +kernel) rfl (fun _ _ _ _ _ _ us hl => match us, hl with | [_, _], _ => rfl) fun ds d hn h => ?_
  obtain ⟨page, some, rfl, h1, h2, h3, h4, rfl⟩ := h
  exact s_ret (call (c_past M) (aC (va 0) (aC (va 1) (aC (DP.cast (lenT (dc (ixT (dc (va 0)) (dc cI) (d := .tuple (page.map eD)) rfl))) (by rw [List.length_map])) aN))) ⟨page, some, rfl, h1, h2, h3, h4, rfl⟩) rfl
theorem writes_spec {page : List Dd} {n : Int} (h : n ∈ writesL page) : ∃ (i : Nat) (t v : Int) (o : List Int) (k : List (List Int)), n = (i : Int) ∧ page[i]? = some (.pt t v o k) := by
  obtain ⟨q, h1, rfl⟩ := List.mem_map.mp h
  obtain ⟨h2, h3⟩ := List.mem_filter.mp h1
  have h4 := List.mem_zipIdx_iff_getElem?.mp h2
  cases e : q.1 with
  | cp t a b =>
    rw [e] at h3
    cases h3
  | pt t v o k => exact ⟨q.2, t, v, o, k, rfl, by rw [h4, e]⟩
def oI' : Option Int → PyData
  | none => .none
  | some i => .int i
theorem c_first_without_room (M : MdF m) : Cal m 5 "first_without_room" 3 (fun ds d => ∃ (page : List Dd) (tr : List (List Int)) (v : Int), ds = [eB page, .tuple (tr.map fun a => tI a), .int v] ∧ PgOk page ∧ tr.length = page.length + 1 ∧ d = oI' (fwrL page tr v)) := by
  refine cal_of M (i := 43) (by decide) ["book", "own", "version", "number", "deed"] ["book", "own", "version"] 4 3 _ (by decide +kernel) rfl (fun _ _ _ _ _ _ us hl => match us, hl with | [_, _, _], _ => rfl) fun ds d hn h => ?_
  obtain ⟨page, tr, v, rfl, h1, h2, rfl⟩ := h
  refine s_for (js := [3]) (xs := writesL page) (enc := fun a => .int a) (iT (call (c_writes M) (aC (va 0) aN) ⟨page, rfl, by have := h1.1; omega, rfl⟩)) (fun i δ' => (∃ s t, δ' = [.va (eB page), .va (.tuple (tr.map fun a => tI a)), .va (.int v), s, t]) ∧ ∀ n ∈ (writesL page).take i, (decide (v ≤ (page.getD n.toNat (.cp 0 0 0)).ver) && (roomL (page.getD n.toNat (.cp 0 0 0)).kin (tr.getD (n.toNat + 1) [])).isNone) = false) ⟨⟨.un, .un, rfl⟩, fun _ h => nomatch h⟩ (fun i n δ' ha hI => ?_) fun δ' hI => ?_
  · obtain ⟨⟨s, t, rfl⟩, hp⟩ := hI
    obtain ⟨j, t0, v0, o, k, rfl, hj⟩ := writes_spec (List.mem_of_getElem? ha)
    have gj : page.getD (Int.toNat (j : Int)) (.cp 0 0 0) = .pt t0 v0 o k := by
      rw [Int.toNat_natCast, List.getD_eq_getElem?_getD, hj]
      rfl
    have okj := h1.2 _ (List.mem_of_getElem? hj)
    obtain ⟨o1, o2, o3⟩ := (show o.length ≤ 300 ∧ k.length ≤ 300 ∧ ∀ a ∈ k, a.length ≤ 300 from okj)
    have lt := lt_of_get hj
    have gt : tr[j + 1]? = some (tr.getD (j + 1) []) := by
      rw [List.getD_eq_getElem?_getD, List.getElem?_eq_getElem (by omega)]
      rfl
    refine ⟨_, gN 3, ?_⟩
    refine s_set 4 (ixT (dc (ixT (dc (va 0)) (dc cI) (d := .tuple (page.map eD)) rfl)) (dc (va 3)) (d := eD (.pt t0 v0 o k)) (atI_get (by rw [List.getElem?_map, hj]; rfl))) ?_
    refine s_if (k := decide (v ≤ v0) && (roomL k (tr.getD (j + 1) [])).isNone) (tW (wA (cmpT (geI (dc (ixT (dc (va 4)) (dc (gI (i := 2))) (d := .int v0) rfl)) (dc (va 2)))) fun _ => wA1 (DT.cast (cmpT (isN (dc (call (c_room M) (aC (ixT (dc (va 4)) (dc (gI (i := 4))) (d := .tuple (k.map fun a => tI a)) rfl) (aC (ixT (dc (va 1)) (dc (DP.cast (addI (dc (va 3)) (dc cI)) (show PyData.int ((j : Int) + 1) = .int ((j + 1 : Nat) : Int) by rw [Int.natCast_add]; rfl))) (d := tI (tr.getD (j + 1) [])) (atI_get (by rw [List.getElem?_map, gt]; rfl))) aN)) ⟨k, _, rfl, o2, o3, rfl⟩)) (dc cN))) (isNon_oT _)))) (fun e => ?_) fun e => ?_
    · refine s_ret (va 3) ?_
      show PyData.int (j : Int) = oI' (fwrL page tr v)
      unfold fwrL
      rw [find_first ha hp (by rw [gj, Int.toNat_natCast]; exact e)]
      rfl
    · exact s_nil (s_nil ⟨⟨_, _, rfl⟩, take_one ha hp (by rw [gj, Int.toNat_natCast]; exact e)⟩)
  · obtain ⟨⟨s, t, rfl⟩, hp⟩ := hI
    refine s_ret cN ?_
    show PyData.none = oI' (fwrL page tr v)
    unfold fwrL
    rw [find_none hp]
    rfl
def canMissL (page : List Dd) (some : List Int) (v : Int) : Bool := (fwrL page (trail page some) v).isNone
theorem c_can_miss (M : MdF m) : Cal m 9 "can_miss" 3 (fun ds d => ∃ (page : List Dd) (some : List Int) (v : Int), ds = [eB page, tI some, .int v] ∧ PgOk page ∧ some.length ≤ 300 ∧ 1 ≤ v ∧ (∀ x ∈ some, 0 ≤ x ∧ x < 8) ∧ (∀ t, t <:+ page → ((trail t some).headD []).length ≤ 60) ∧ d = .bool (canMissL page some v)) := by
  refine cal_of M (i := 44) (by decide) ["book", "some", "version", "own"] ["book", "some", "version"] 8 3 _ (by decide +kernel) rfl (fun _ _ _ _ _ _ us hl => match us, hl with | [_, _, _], _ => rfl) fun ds d hn h => ?_
  obtain ⟨page, some, v, rfl, h1, h2, hv, h3, h4, rfl⟩ := h
  refine s_set 3 (call (c_past_behind_all M) (aC (va 0) (aC (va 1) aN)) ⟨page, some, rfl, h1, h2, h3, h4, rfl⟩) ?_
  refine s_expr (call (c_check_version M) (aC (va 2) aN) ⟨v, rfl, hv, rfl⟩) ?_
  refine s_ret (cmpE (isN (dc (call (c_first_without_room M) (aC (va 0) (aC (va 3) (aC (va 2) aN))) ⟨page, trail page some, v, rfl, h1, trail_len _ _, rfl⟩)) (dc cN))) ?_
  unfold canMissL
  cases fwrL page (trail page some) v <;> rfl
end DL
set_option Elab.async false
set_option linter.all false
set_option maxRecDepth 100000
set_option maxHeartbeats 2000000
namespace DL
open PySem PySem.Spec PyProof.Rows L2
variable {m : Md}
/-! ### the law's own, small ones -/
def absZ (i : Int) : Int := if i < 0 then -i else i
def boxA (c : Int) : Int := absZ c * (if (decide ((10 : Int) ^ 18 ≤ absZ c)) = true then 1 else 0)
def boxB (c : Int) (k : Int) : Int := c.fmod 2305843009213693951 + 39373 * k + 1940072
theorem bi_lt (k : Bool) : -(2 ^ 64) < (if k = true then (1 : Int) else 0) ∧ (if k = true then (1 : Int) else 0) < 2 ^ 64 := by cases k <;> decide
theorem c_box (M : MdF m) : CalN m 1 "_law_box" 2 (fun ds d => ∃ (cells : List Int) (k : Nat) (c : Int), ds = [lI cells, .int (k : Int)] ∧ cells[k]? = some c ∧ d = [.int (boxA c), .int (boxB c k), .int 0]) := by
  refine calN_of M (i := 46) (by decide) ["_law_script", "_law_k", "_law_cell"] ["_law_script", "_law_k"] 0 2 _ (by decide +kernel) rfl (fun _ _ _ _ _ _ us hl => match us, hl with | [_, _], _ => rfl) fun ds d hn h => ?_
  obtain ⟨cells, k, c, rfl, hc, rfl⟩ := h
  have lt := lt_of_get hc
  refine s_set 2 (vIf (d := .int c) (cmpT (ltI (dc (va 1)) (dc (DP.cast (lenL (dc (va 0))) (by rw [List.length_map]))))) (fun _ => ixL (dc (va 0)) (dc (va 1)) (atI_get (by rw [List.getElem?_map, hc]; rfl))) fun e => ?_) ?_
  · exfalso
    simp at e
    omega
  · refine s_retN (dLst (aC (mulI (dc (absI (dc (va 2)))) (dc (intB (dc (cmpE (geI (dc (absI (dc (va 2)))) (dc (powI (dc cI) (dc cI) ⟨by decide, by decide, by decide⟩))))))) (.inr (bi_lt _))) (aC (addI (dc (addI (dc (modI (dc (intI (dc (va 2)))) (dc cI) (by decide))) (dc (mulI (dc cI) (dc (va 1)) (.inl (by decide)))))) (dc cI)) (aC cI aN)))) ?_
    rfl
/-! reads of the three -/
theorem atI3 {a b c : PyData} : atI [a, b, c] 0 = some a ∧ atI [a, b, c] 1 = some b ∧ atI [a, b, c] 2 = some c := ⟨rfl, rfl, rfl⟩
abbrev tin (q : Addr) (a b c : Int) : Sl := .ob q (.l [.int a, .int b, .int c])
def TinOk (b c : Int) : Prop := 0 ≤ b ∧ b < 2 ^ 63 ∧ 0 ≤ c ∧ c ≤ 10000
def PrT : List Sl → Prop := fun as => ∃ q a b c below, as = [tin q a b c, .va (.int below)] ∧ TinOk b c ∧ 0 < below ∧ below < 1000000
def RlT : RelO := fun as d as' => ∃ q a b c below, as = [tin q a b c, .va (.int below)] ∧ ∃ r a' c', d = .int r ∧ 0 ≤ r ∧ r < below ∧ as' = [tin q a' b c', .un] ∧ 0 ≤ c' ∧ c' ≤ c + 1
theorem outT {q : Addr} {w w' : Obd} {d : PyData} {r : List Sl} : outA [.ob q w, .va d] (.ob q w' :: r) [.ob q w', .un] := by
  refine ⟨⟨rfl, fun i => ?_⟩, fun i p o h => ?_⟩
  · match i with
    | 0 => exact .inl ⟨_, _, _, rfl, rfl⟩
    | 1 => exact .inr ⟨fun p o h => (nomatch h), .inl rfl⟩
    | i + 2 => exact .inr ⟨fun p o h => (by simp at h), .inr (by simp)⟩
  · match i, h with
    | 0, h => cases h; rfl
    | 1, h => cases h
    | i + 2, h => simp at h
theorem fm_lo {i j : Int} (h : 0 < j) : 0 ≤ i.fmod j := Int.fmod_nonneg_of_pos i h
theorem fm_hi {i j : Int} (h : 0 < j) : i.fmod j < j := Int.fmod_lt_of_pos i h
theorem c_take (M : MdF m) : CalO m 1 "_law_take" 2 PrT RlT := by
  refine calO_of M (i := 47) (by decide) ["_law_tin", "_law_below_so", "_law_drawn", "_law_once_so", "_law_wide_so", "_law_twice_so"] ["_law_tin", "_law_below_so"] 0 2 _ _ (by decide +kernel) rfl (fun _ _ _ _ _ _ us hl => match us, hl with | [_, _], _ => rfl) fun as hn hP hA => ?_
  obtain ⟨q, a, b, c, below, rfl, ⟨b0, b1, c0, c1⟩, h0, h1⟩ := hP
  have ret : ∀ (r a' c' : Int) (rs : List Sl), 0 ≤ r → r < below → 0 ≤ c' → c' ≤ c + 1 → (Po.fo [tin q a b c, .va (.int below)] RlT).rt (tin q a' b c' :: rs) (.int r) := fun r a' c' rs r0 r1 c2 c3 => ⟨_, outT, q, a, b, c, below, rfl, r, a', c', rfl, r0, r1, rfl, c2, c3⟩
  refine s_if (cmpT (gtI (dc (ixL (vb 0) (dc cI) (d := .int a) rfl)) (dc cI))) (fun e => ?_) fun e => ?_
  · refine s_set 2 (modI (dc (intI (dc (ixL (vb 0) (dc cI) (d := .int a) rfl)))) (dc (va 1)) (by omega)) ?_
    refine s_setIxB 0 (x0 (divI (dc (ixL (vb 0) (dc cI) (d := .int a) rfl)) (dc (va 1)) ⟨by omega, by omega⟩) ⟨q, [.int a, .int b, .int c], 0, 0, rfl, cI, rfl, ?_⟩)
    exact s_ret (va 2) (ret _ _ _ _ (fm_lo h0) (fm_hi h0) c0 (by omega))
  · refine s_nil ?_
    refine s_setIxB 0 (x0 (addI (dc (ixL (vb 0) (dc cI) (d := .int c) rfl)) (dc cI)) ⟨q, [.int a, .int b, .int c], 2, 2, rfl, cI, rfl, ?_⟩)
    have k1 : (0 : Int) ≤ 39373 + (c + 1) ∧ 39373 + (c + 1) < 100000 := by omega
    refine s_set 3 (modI (dc (intI (dc (mulI (dc (addI (dc (ixL (vb 0) (dc cI) (d := .int b) rfl)) (dc (mulI (dc cI) (dc (ixL (vb 0) (dc cI) (d := .int (c + 1)) rfl)) (.inl (by decide)))))) (dc (addI (dc cI) (dc (ixL (vb 0) (dc cI) (d := .int (c + 1)) rfl)))) (.inr ⟨by omega, by omega⟩))))) (dc cI) (by decide)) ?_
    generalize (((b + 48271 * (c + 1)) * (39373 + (c + 1))).fmod 2147483647) = once
    refine s_set 4 (addI (dc (modI (dc (intI (dc (va 3)))) (dc cI) (by decide))) (dc cI)) ?_
    have w0 := fm_lo (i := once) (j := 40009) (by decide)
    have w1 := fm_hi (i := once) (j := 40009) (by decide)
    refine s_set 5 (modI (dc (intI (dc (mulI (dc (addI (dc (addI (dc (va 3)) (dc (ixL (vb 0) (dc cI) (d := .int (c + 1)) rfl)))) (dc (divI (dc (ixL (vb 0) (dc cI) (d := .int b) rfl)) (dc cI) ⟨by decide, by decide⟩)))) (dc (va 4)) (.inr ⟨by omega, by omega⟩))))) (dc cI) (by decide)) ?_
    exact s_ret (modI (dc (intI (dc (divI (dc (modI (dc (intI (dc (addI (dc (mulI (dc (va 5)) (dc cI) (.inr ⟨by decide, by decide⟩))) (dc (va 3)))))) (dc cI) (by decide))) (dc cI) ⟨by decide, by decide⟩)))) (dc (va 1)) (by omega)) (ret _ _ _ _ (fm_lo h0) (fm_hi h0) (by omega) (Int.le_refl _))
end DL
set_option Elab.async false
set_option linter.all false
set_option maxRecDepth 100000
set_option maxHeartbeats 2000000
namespace DL
open PySem PySem.Spec PyProof.Rows L2
variable {m : Md}
/-! ### cells -/
theorem cut_take1 (ds : List PyData) : cutD ds none (some 1) = ds.take 1 := by
  unfold cutD HT.sIx
  cases ds with
  | nil => rfl
  | cons a r => simp
theorem cut_small (ds : List PyData) (lo hi : Option Int) : (cutD ds lo hi).length ≤ ds.length := by
  unfold cutD
  rw [List.length_take, List.length_drop]
  omega
theorem cut_ints (ns : List Int) (lo hi : Option Int) : ∃ ms : List Int, cutD (ns.map .int) lo hi = ms.map .int ∧ ms.length ≤ ns.length := by
  refine ⟨(ns.drop (HT.sIx ns.length 0 lo)).take (HT.sIx ns.length ns.length hi - HT.sIx ns.length 0 lo), ?_, ?_⟩
  · unfold cutD
    rw [List.length_map, ← List.map_drop, ← List.map_take]
  · rw [List.length_take, List.length_drop]
    omega
def sumC (ms : List Int) (x : Int) : Int := (ms.zipIdx).foldl (fun a q => a + q.1 * ((q.2 : Int) + 2)) x
theorem c_cells (M : MdF m) : Cal m 1 "_law_cells" 2 (fun ds d => ∃ script : List Int, ds = [scrD script, .int 1] ∧ script.length ≤ 1000 ∧ ∃ ms : List Int, ms.length ≤ script.length ∧ cutD (script.map .int) (some 1) (some 63) = ms.map .int ∧ d = lI [sumC ms (script.headD 0)]) := by
  refine cal_of M (i := 48) (by decide) ["_law_script", "_law_most_so", "_law_cells_so", "_law_k", "_law_cell", "_law_at_so"] ["_law_script", "_law_most_so"] 0 2 _ (by decide +kernel) rfl (fun _ _ _ _ _ _ us hl => match us, hl with | [_, _], _ => rfl) fun ds d hn h => ?_
  obtain ⟨script, rfl, hs, ms, hm, ec, rfl⟩ := h
  refine s_setN (ds := [.int (script.headD 0)]) 2 (DN.cast (orN (listL (dnc (cutS (va 0) oN (oI (dc (va 1)))))) fun _ => v1 (dLst (aC cI aN))) ?_) ?_
  · rw [cut_take1]
    cases script <;> rfl
  refine s_for (js := [3] ++ [4]) (xs := ms.zipIdx) (enc := fun q => .tuple [.int (q.2 : Int), .int q.1]) (DI.cast' (iE (dne (cutS (va 0) (oI (dc (va 1))) (oI (dc cI))))) (by rw [ec]; exact enum_eD)) (fun i δ' => ∃ s t u, δ' = [.va (scrD script), .va (.int 1), .ow [.int ((ms.zipIdx.take i).foldl (fun a q => a + q.1 * ((q.2 : Int) + 2)) (script.headD 0))], s, t, u]) ⟨.un, .un, .un, rfl⟩ (fun i q δ' ha hI => ?_) fun δ' hI => ?_
  · obtain ⟨s, t, u, rfl⟩ := hI
    refine ⟨_, gT2 (gN 3) (gN 4), ?_⟩
    refine s_set 5 (d := .int 0) (DP.cast (modI (dc (intI (dc (va 3)))) (dc (va 1)) (by decide)) (by rw [Int.fmod_one])) ?_
    have q2 : (q.2 : Int) + 2 < 2 ^ 64 ∧ -(2 ^ 64) < (q.2 : Int) + 2 := by
      have h1 := List.mem_of_getElem? ha
      have h2 := List.mem_zipIdx_iff_getElem?.mp h1
      have h3 := lt_of_get h2
      omega
    refine s_setIx 2 (x0 (addI (dc (ixL (vo 2) (dc (va 5)) (d := .int ((ms.zipIdx.take i).foldl (fun a q => a + q.1 * ((q.2 : Int) + 2)) (script.headD 0))) rfl)) (dc (mulI (dc (va 4)) (dc (addI (dc (va 3)) (dc cI))) (.inr ⟨q2.2, q2.1⟩)))) ⟨[.int ((ms.zipIdx.take i).foldl (fun a q => a + q.1 * ((q.2 : Int) + 2)) (script.headD 0))], 0, 0, rfl, va 5, rfl, ?_⟩)
    refine s_nil ⟨.va (.int q.2), .va (.int q.1), .va (.int 0), ?_⟩
    rw [List.take_add_one, ha, List.foldl_append]
    rfl
  · obtain ⟨s, t, u, rfl⟩ := hI
    refine s_frz 2 ?_
    refine s_ret (va 2) ?_
    rw [List.take_length]
    rfl
/-! ### same -/
/-- the kinds of data that are compared, as deep as n -/
inductive Cmp : Nat → PyData → Prop
  | non {n : Nat} : Cmp n .none
  | bl {n : Nat} {b : Bool} : Cmp n (.bool b)
  | int {n : Nat} {i : Int} : Cmp n (.int i)
  | tup {n : Nat} {ds : List PyData} : ds.length ≤ 300 → (∀ d ∈ ds, Cmp n d) → Cmp (n + 1) (.tuple ds)
  | lst {n : Nat} {ds : List PyData} : ds.length ≤ 300 → (∀ d ∈ ds, Cmp n d) → Cmp (n + 1) (.list ds)
abbrev sameR (n : Nat) : List PyData → PyData → Prop := fun ds d => ∃ e, ds = [e, e] ∧ Cmp n e ∧ d = .bool true
theorem zipD_self (ds : List PyData) : zipD ds ds = ds.map fun d => .tuple [d, d] := by
  unfold zipD
  induction ds with
  | nil => rfl
  | cons a r ih =>
    rw [List.zip_cons_cons, List.map_cons, List.map_cons, ih]
theorem bb_eq {b : Bool} : PyData.eqv (.bool b) (.bool b) = true := by rw [PyData.eqv]; exact beq_self_eq_true b
theorem same_step (M : MdF m) (n : Nat) (ih : ∀ k, n = k + 1 → Cal m (k + 1) "_law_same" 2 (sameR k)) : Cal m (n + 1) "_law_same" 2 (sameR n) := by
  refine cal_of M (i := 51) (by decide) ["_law_got", "_law_due", "_law_mine", "_law_its"] ["_law_got", "_law_due"] n 2 _ (by decide +kernel) rfl (fun _ _ _ _ _ _ us hl => match us, hl with | [_, _], _ => rfl) fun ds d hn h => ?_
  obtain ⟨e, rfl, hc, rfl⟩ := h
  cases hc with
  | int => 
    rename_i i
    refine s_no (k := false || false) (tV (dc (isi2 "list" "tuple" (d := .int i) (dc (va 1)) (k1 := false) (k2 := false) k_il k_it))) rfl ?_
    refine s_no (k := false || (false || false)) (tW (wO (DT.cast (cmpT (isN (dc (va 1)) (dc cN))) rfl) fun _ => wO1 (tV (dc (isi2 "bool" "str" (d := .int i) (dc (va 1)) (k1 := false) (k2 := false) k_ib k_is))))) rfl ?_
    exact s_ret (vA (k2 := !false && true) (dc (isi "int" (d := .int i) (dc (va 0)) (k := true) k_ii)) fun _ => vA (k2 := true) (dc (vNot (dc (isi "bool" (d := .int i) (dc (va 0)) (k := false) k_ib)))) fun _ => v1 (DP.cast (cmpE (eqI (dc (va 0)) (dc (va 1)))) (by simp))) rfl
  | non =>
    refine s_no (k := false || false) (tV (dc (isi2 "list" "tuple" (d := .none) (dc (va 1)) (k1 := false) (k2 := false) k_nl k_nt))) rfl ?_
    refine s_yes (k := true || true) (tW (wO (DT.cast (cmpT (isN (dc (va 1)) (dc cN))) rfl) fun e => nomatch e)) rfl ?_
    exact s_ret (vA (k1 := true) (k2 := true && true) (DC.cast (dc (cmpE (eqD (dc (va 0)) (dc (va 1)) (nice_none (k := 0)).sh (nice_none (k := 0)).sh))) (by rw [PyData.eqv])) fun _ => vA (k1 := true) (k2 := true) (DC.cast (dc (cmpE (eqB (dc (isi "bool" (d := .none) (dc (va 0)) (k := false) k_nb)) (dc (isi "bool" (d := .none) (dc (va 1)) (k := false) k_nb))))) rfl) fun _ => v1 (DP.cast (cmpE (eqB (dc (cmpE (isN (dc (va 0)) (dc cN)))) (dc (cmpE (isN (dc (va 1)) (dc cN)))))) rfl)) rfl
  | bl =>
    rename_i b
    refine s_no (k := false || false) (tV (dc (isi2 "list" "tuple" (d := .bool b) (dc (va 1)) (k1 := false) (k2 := false) k_bl k_bt))) rfl ?_
    refine s_yes (k := false || (true || false)) (tW (wO (DT.cast (cmpT (isN (dc (va 1)) (dc cN))) rfl) fun _ => wO1 (tV (dc (isi2 "bool" "str" (d := .bool b) (dc (va 1)) (k1 := true) (k2 := false) k_bb k_bs))))) rfl ?_
    exact s_ret (vA (k1 := true) (k2 := true && true) (DC.cast (dc (cmpE (eqD (dc (va 0)) (dc (va 1)) (nice_bool (k := 0)).sh (nice_bool (k := 0)).sh))) (by rw [bb_eq])) fun _ => vA (k1 := true) (k2 := true) (DC.cast (dc (cmpE (eqB (dc (isi "bool" (d := .bool b) (dc (va 0)) (k := true) k_bb)) (dc (isi "bool" (d := .bool b) (dc (va 1)) (k := true) k_bb))))) rfl) fun _ => v1 (DP.cast (cmpE (eqB (dc (cmpE (isN (dc (va 0)) (dc cN)))) (dc (cmpE (isN (dc (va 1)) (dc cN)))))) rfl)) rfl
  | @tup k ts hl hk =>
    refine s_yes (k := false || true) (tV (dc (isi2 "list" "tuple" (d := .tuple ts) (dc (va 1)) (k1 := false) (k2 := true) k_tl k_tt))) rfl ?_
    refine s_no (k := !(false == false) || !(true == true)) (tW (wO (cmpT (neB (dc (isi "list" (d := .tuple ts) (dc (va 0)) (k := false) k_tl)) (dc (isi "list" (d := .tuple ts) (dc (va 1)) (k := false) k_tl)))) fun _ => wO1 (cmpT (neB (dc (isi "tuple" (d := .tuple ts) (dc (va 0)) (k := true) k_tt)) (dc (isi "tuple" (d := .tuple ts) (dc (va 1)) (k := true) k_tt)))))) rfl ?_
    refine s_ret (vA (k1 := true) (k2 := (ts.map fun _ => true).all id) (DC.cast (dc (cmpE (eqI (dc (lenT (dc (va 0)))) (dc (lenT (dc (va 1))))))) (by simp)) fun _ => v1 (allL (lcB (own := [("_law_mine", 2), ("_law_its", 3)]) (js := [2] ++ [3]) (xs := ts) (enc := fun d => .tuple [d, d]) (g := fun _ => true) ⟨DI.cast' (iZ (va 0) (va 1) (.inr ⟨rfl, rfl⟩)) (zipD_self ts), by kernel_rfl, by decide, fun a _ => gT2 (gN 2) (gN 3), fun a _ => ts0, fun a ha _ => call (ih k rfl) (aC (va 2) (aC (va 3) aN)) ⟨a, rfl, hk a ha, rfl⟩ (Nat.le_refl _), by omega⟩))) ?_
    rw [all_true fun _ _ => rfl]
    rfl
  | @lst k ts hl hk =>
    refine s_yes (k := true || false) (tV (dc (isi2 "list" "tuple" (d := .list ts) (dc (va 1)) (k1 := true) (k2 := false) k_ll k_lt))) rfl ?_
    refine s_no (k := !(true == true) || !(false == false)) (tW (wO (cmpT (neB (dc (isi "list" (d := .list ts) (dc (va 0)) (k := true) k_ll)) (dc (isi "list" (d := .list ts) (dc (va 1)) (k := true) k_ll)))) fun _ => wO1 (cmpT (neB (dc (isi "tuple" (d := .list ts) (dc (va 0)) (k := false) k_lt)) (dc (isi "tuple" (d := .list ts) (dc (va 1)) (k := false) k_lt)))))) rfl ?_
    refine s_ret (vA (k1 := true) (k2 := (ts.map fun _ => true).all id) (DC.cast (dc (cmpE (eqI (dc (lenL (dc (va 0)))) (dc (lenL (dc (va 1))))))) (by simp)) fun _ => v1 (allL (lcB (own := [("_law_mine", 2), ("_law_its", 3)]) (js := [2] ++ [3]) (xs := ts) (enc := fun d => .tuple [d, d]) (g := fun _ => true) ⟨DI.cast' (iZ (va 0) (va 1) (.inl ⟨rfl, rfl⟩)) (zipD_self ts), by kernel_rfl, by decide, fun a _ => gT2 (gN 2) (gN 3), fun a _ => ts0, fun a ha _ => call (ih k rfl) (aC (va 2) (aC (va 3) aN)) ⟨a, rfl, hk a ha, rfl⟩ (Nat.le_refl _), by omega⟩))) ?_
    rw [all_true fun _ _ => rfl]
    rfl
theorem c_same (M : MdF m) : ∀ n, Cal m (n + 1) "_law_same" 2 (sameR n)
  | 0 => same_step M 0 fun k e => by omega
  | n + 1 => same_step M (n + 1) fun k e => by
    have : n = k := by omega
    subst this
    exact c_same M n
end DL
set_option Elab.async false
set_option linter.all false
set_option maxRecDepth 100000
set_option maxHeartbeats 2000000
namespace DL
open PySem PySem.Spec PyProof.Rows L2
variable {m : Md}
/-! ### lots by the law -/
def lotsA : List Int → List (List Int) → List (List Int)
  | [], f => f
  | g :: gs, f => lotsA gs (f ++ f.map fun l => l ++ [g])
theorem lotsA_len : ∀ (gs : List Int) (f : List (List Int)), (lotsA gs f).length = 2 ^ gs.length * f.length
  | [], f => by simp [lotsA]
  | g :: gs, f => by
    rw [lotsA, lotsA_len gs, List.length_append, List.length_map, List.length_cons, Nat.pow_succ, ← Nat.two_mul, Nat.mul_assoc]
def leT (a b : List Int) : Bool := dLe (tI a) (tI b)
def lotsZ (gs : List Int) : List (List Int) := (lotsA gs [[]]).mergeSort leT
theorem mem_lotsA : ∀ {gs : List Int} {f : List (List Int)} {l : List Int}, l ∈ lotsA gs f → ∃ a s, a ∈ f ∧ l = a ++ s ∧ s.Sublist gs
  | [], f, l, h => ⟨l, [], h, by simp, List.Sublist.refl _⟩
  | g :: gs, f, l, h => by
    obtain ⟨a, s, ha, rfl, hs⟩ := mem_lotsA (gs := gs) h
    rcases List.mem_append.mp ha with ha | ha
    · exact ⟨a, s, ha, rfl, hs.cons g⟩
    · obtain ⟨b, hb, rfl⟩ := List.mem_map.mp ha
      exact ⟨b, g :: s, hb, by simp, hs.cons_cons g⟩
theorem lotsA_mem : ∀ {gs : List Int} {f : List (List Int)} {a s : List Int}, a ∈ f → s.Sublist gs → a ++ s ∈ lotsA gs f
  | [], f, a, s, ha, hs => by
    cases hs
    rw [List.append_nil]
    exact ha
  | g :: gs, f, a, s, ha, hs => by
    rw [lotsA]
    cases hs with
    | cons _ h => exact lotsA_mem (List.mem_append_left _ ha) h
    | cons_cons _ h =>
      rename_i s'
      rw [show a ++ g :: s' = (a ++ [g]) ++ s' by simp]
      exact lotsA_mem (List.mem_append_right _ (List.mem_map.mpr ⟨a, ha, rfl⟩)) h
theorem mem_lotsZ {gs l : List Int} : l ∈ lotsZ gs ↔ l.Sublist gs := by
  unfold lotsZ
  rw [List.mem_mergeSort]
  constructor
  · intro h
    obtain ⟨a, s, ha, rfl, hs⟩ := mem_lotsA h
    have : a = [] := by simpa using ha
    rw [this]
    exact hs
  · intro h
    exact lotsA_mem (a := []) (by simp) h
theorem srtD_tI (l : List (List Int)) : srtD (l.map fun a => tI a) = (l.mergeSort leT).map fun a => tI a := (List.map_mergeSort (f := fun a => tI a) (r := leT) (s := dLe) fun a _ b _ => rfl).symm
theorem srtOk_lots (gs : List Int) (h : gs.length ≤ 10) : SrtOk ((lotsA gs [[]]).map fun a => tI a) := by
  refine ⟨PySem.W.AllAlike.of fun a b => ?_, fun d hd => ?_, ?_, .inl ?_⟩
  · show PySem.W.alikeAll _ _ = true
    exact PySem.W.alike_ints a b
  · obtain ⟨a, _, rfl⟩ := List.mem_map.mp hd
    exact Nat.le_trans (nice_tI (k := 0)).2 (by decide)
  · rw [List.length_map, lotsA_len]
    have : 2 ^ gs.length ≤ 2 ^ 10 := Nat.pow_le_pow_right (by decide) h
    simp
    omega
  · have : ∀ (gs : List Int) (f : List (List Int)), ∃ r, lotsA gs ([] :: f) = [] :: r := fun gs => by
      induction gs with
      | nil => exact fun f => ⟨f, rfl⟩
      | cons g gs ih =>
        intro f
        rw [lotsA]
        exact ih _
    obtain ⟨r, hr⟩ := this gs []
    rw [hr]
    exact ⟨r.map fun a => tI a, rfl, fun d hd => by
      obtain ⟨a, _, rfl⟩ := List.mem_map.mp hd
      exact ⟨_, rfl⟩⟩
theorem c_lots (M : MdF m) : Cal m 1 "_law_lots" 1 (fun ds d => ∃ gs : List Int, ds = [tI gs] ∧ gs.length ≤ 10 ∧ d = .list ((lotsZ gs).map fun a => tI a)) := by
  refine cal_of M (i := 52) (by decide) ["_law_goods_so", "_law_found", "_law_own", "_law_its"] ["_law_goods_so"] 0 1 _ (by decide +kernel) rfl (fun _ _ _ _ _ _ us hl => match us, hl with | [_], _ => rfl) fun ds d hn h => ?_
  obtain ⟨gs, rfl, h1, rfl⟩ := h
  refine s_set 1 (dne (dLst (aC (dTup aN) aN))) ?_
  refine s_for (js := [2]) (xs := gs) (enc := fun a => .int a) (iT (va 0)) (fun i δ' => ∃ s f, δ' = [.va (tI gs), .va (.list (f.map fun a => tI a)), s, .un] ∧ lotsA gs [[]] = lotsA (gs.drop i) f ∧ f.length ≤ 2 ^ i ∧ ∀ l ∈ f, l.length ≤ i) ⟨.un, [[]], rfl, rfl, by simp, by simp⟩ (fun i g δ' ha hI => ?_) fun δ' hI => ?_
  · obtain ⟨s, f, rfl, he, hf, hl⟩ := hI
    have lt := lt_of_get ha
    have gg : gs[i] = g := by
      rw [List.getElem?_eq_getElem lt] at ha
      exact Option.some.inj ha
    have pw : 2 ^ i ≤ 2 ^ 10 := Nat.pow_le_pow_right (by decide) (by omega)
    rw [List.drop_eq_getElem_cons lt, gg, lotsA] at he
    refine ⟨_, gN 2, ?_⟩
    refine s_set 1 (d := .list ((f ++ f.map fun l => l ++ [g]).map fun a => tI a)) (DP.cast (dne (catL (dc (va 1)) (dnc (lc0 (own := [("_law_its", 3)]) (xs := f) (enc := fun a => tI a) (f := fun l => tI (l ++ [g])) ⟨iL (va 1), by kernel_rfl, by decide, fun a _ => gN 3, fun a _ => ts0, fun a ha _ => DP.cast (catT (dc (va 3)) (dc (dTup (aC (va 2) aN))) (by have := hl a ha; simp; omega)) (tI_app (b := [g])), by omega⟩)) (by simp; omega))) (by rw [List.map_append, List.map_map]; rfl)) ?_
    refine s_nil ⟨_, _, rfl, he, by rw [List.length_append, List.length_map, Nat.pow_succ]; omega, fun l h => ?_⟩
    rcases List.mem_append.mp h with h | h
    · have := hl l h
      omega
    · obtain ⟨b, hb, rfl⟩ := List.mem_map.mp h
      have := hl b hb
      rw [List.length_append]
      simp
      omega
  · obtain ⟨s, f, rfl, he, hf, hl⟩ := hI
    rw [List.drop_length, lotsA] at he
    subst he
    refine s_ret (dne (sortD (dc (va 1)) (srtOk_lots gs h1) (fun d hd => (nice_map (fun _ => nice_tI (k := 0)) d hd).1))) ?_
    rw [srtD_tI]
    rfl
def cntL (gs : List Int) (n : Nat) : List (List Int) := (lotsZ gs).filter fun l => decide ((l.length : Int) = (n : Int))
theorem lotsZ_len (gs : List Int) : (lotsZ gs).length = 2 ^ gs.length := by
  unfold lotsZ
  rw [List.length_mergeSort, lotsA_len]
  simp
theorem c_counted (M : MdF m) : Cal m 2 "_law_counted" 2 (fun ds d => ∃ (gs : List Int) (n : Nat), ds = [tI gs, .int (n : Int)] ∧ gs.length ≤ 10 ∧ d = .list ((cntL gs n).map fun a => tI a)) := by
  refine cal_of M (i := 53) (by decide) ["_law_goods_so", "_law_need_so", "_law_crew"] ["_law_goods_so", "_law_need_so"] 1 2 _ (by decide +kernel) rfl (fun _ _ _ _ _ _ us hl => match us, hl with | [_, _], _ => rfl) fun ds d hn h => ?_
  obtain ⟨gs, n, rfl, h1, rfl⟩ := h
  have pw : 2 ^ gs.length ≤ 2 ^ 10 := Nat.pow_le_pow_right (by decide) h1
  exact s_ret (dne (lc (own := [("_law_crew", 2)]) (xs := lotsZ gs) (enc := fun a => tI a) (p := fun l => decide ((l.length : Int) = (n : Int))) (f := fun a => tI a) ⟨iL (call (c_lots M) (aC (va 0) aN) ⟨gs, rfl, h1, rfl⟩), by kernel_rfl, by decide, fun a _ => gN 2, fun a _ => ts1 (cmpT (eqI (dc (DP.cast (lenT (dc (va 2))) (by rw [List.length_map]))) (dc (va 1)))), fun a _ _ => va 2, by rw [lotsZ_len]; omega⟩)) rfl
def apartL (crew wide : List Int) : Bool := (crew.filter fun j => decide (j ∈ wide)).isEmpty
theorem isE_map {α β : Type} {f : α → β} {l : List α} : (l.map f).isEmpty = l.isEmpty := by cases l <;> rfl
theorem c_apart (M : MdF m) : Cal m 1 "_law_apart" 2 (fun ds d => ∃ a b : List Int, ds = [tI a, tI b] ∧ a.length ≤ 1000 ∧ d = .bool (apartL a b)) := by
  refine cal_of M (i := 54) (by decide) ["_law_crew", "_law_wide_so", "_law_j"] ["_law_crew", "_law_wide_so"] 0 2 _ (by decide +kernel) rfl (fun _ _ _ _ _ _ us hl => match us, hl with | [_, _], _ => rfl) fun ds d hn h => ?_
  obtain ⟨a, b, rfl, ha, rfl⟩ := h
  refine s_ret (cmpE (eqD (dnc (lcS (own := [("_law_j", 2)]) (xs := a) (p := fun j => decide (j ∈ b)) ⟨iT (va 0), by kernel_rfl, by decide, fun a _ => gN 2, fun a _ => ts1 (cmpT (inT (dc (va 2)) (dc (va 1)))), fun a _ _ => va 2, by omega⟩)) (dnc (dLst aN)) lI_sh l0_sh)) ?_
  rw [eqv_l0, isE_map]
  rfl
def lroomL (kin : List (List Int)) (crew : List Int) : Bool := !(kin.filter fun a => apartL a crew).isEmpty
theorem c_lroom (M : MdF m) : Cal m 2 "_law_room" 2 (fun ds d => ∃ (kin : List (List Int)) (crew : List Int), ds = [.tuple (kin.map fun a => tI a), tI crew] ∧ kin.length ≤ 1000 ∧ (∀ a ∈ kin, a.length ≤ 1000) ∧ d = .bool (lroomL kin crew)) := by
  refine cal_of M (i := 55) (by decide) ["_law_kin_so", "_law_crew", "_law_its"] ["_law_kin_so", "_law_crew"] 1 2 _ (by decide +kernel) rfl (fun _ _ _ _ _ _ us hl => match us, hl with | [_, _], _ => rfl) fun ds d hn h => ?_
  obtain ⟨kin, crew, rfl, h1, h2, rfl⟩ := h
  refine s_ret (cmpE (neD (dnc (lcI (own := [("_law_its", 2)]) (xs := kin) (enc := fun a => tI a) (p := fun a => apartL a crew) (g := fun _ => 1) ⟨iT (va 0), by kernel_rfl, by decide, fun a _ => gN 2, fun a ha => ts1 (tV (dc (call (c_apart M) (aC (va 2) (aC (va 1) aN)) ⟨a, crew, rfl, h2 a ha, rfl⟩))), fun a _ _ => cI, by omega⟩)) (dnc (dLst aN)) lI_sh l0_sh)) ?_
  rw [eqv_l0, isE_map, isE_map]
  rfl
theorem c_is_write (M : MdF m) : Cal m 1 "_law_is_write" 1 (fun ds d => ∃ e : Dd, ds = [eD e] ∧ d = .bool e.isPt) := by
  refine cal_of M (i := 56) (by decide) ["_law_deed_so"] ["_law_deed_so"] 0 1 _ (by decide +kernel) rfl (fun _ _ _ _ _ _ us hl => match us, hl with | [_], _ => rfl) fun ds d hn h => ?_
  obtain ⟨e, rfl, rfl⟩ := h
  obtain ⟨s, r, ee, hw⟩ := word_in (d := e)
  rw [← hw]
  exact s_ret (cmpE (inS (ns := ["put", "strike"]) (dc (ixT (dc (DP.cast (va 0) ee)) (dc cI) (atI_get (i := 0) rfl))) (dc (dTup (aC cS (aC cS aN)))))) rfl
theorem c_lwrites (M : MdF m) : Cal m 2 "_law_writes" 1 (fun ds d => ∃ page : List Dd, ds = [eB page] ∧ page.length ≤ 1000 ∧ d = lI (writesL page)) := by
  refine cal_of M (i := 57) (by decide) ["_law_leaf", "_law_n", "_law_deed_so"] ["_law_leaf"] 1 1 _ (by decide +kernel) rfl (fun _ _ _ _ _ _ us hl => match us, hl with | [_], _ => rfl) fun ds d hn h => ?_
  obtain ⟨page, rfl, h1, rfl⟩ := h
  exact s_ret (dne (lcI (own := [("_law_n", 1), ("_law_deed_so", 2)]) (js := [1] ++ [2]) (xs := page.zipIdx) (enc := fun q => .tuple [.int (q.2 : Int), eD q.1]) (p := fun q => q.1.isPt) (g := fun q => (q.2 : Int)) ⟨DI.cast' (iET (ixT (dc (va 0)) (dc cI) (d := .tuple (page.map eD)) rfl)) enum_eD, by kernel_rfl, by decide, fun a _ => gT2 (gN 1) (gN 2), fun a _ => ts1 (tV (dc (call (c_is_write M) (aC (va 2) aN) ⟨a.1, rfl, rfl⟩))), fun a _ _ => va 1, by simp; omega⟩)) rfl
def readL (cells crew : List Int) : Int := lmax ((crew.map fun j => cells.getD j.toNat 0) ++ [0])
theorem atI_int {cells : List Int} {j : Int} (h : 0 ≤ j) (h2 : j.toNat < cells.length) : atI (cells.map PyData.int) j = some (.int (cells.getD j.toNat 0)) := by
  have e : (j.toNat : Int) = j := by omega
  have := atI_get (xs := cells.map PyData.int) (i := j.toNat) (x := .int (cells.getD j.toNat 0)) (by rw [List.getElem?_map, List.getD_eq_getElem?_getD, List.getElem?_eq_getElem h2]; rfl)
  rwa [e] at this
theorem c_read (M : MdF m) : Cal m 1 "_law_read" 2 (fun ds d => ∃ cells crew : List Int, ds = [tI cells, tI crew] ∧ crew.length ≤ 1000 ∧ (∀ j ∈ crew, 0 ≤ j ∧ j.toNat < cells.length) ∧ d = .int (readL cells crew)) := by
  refine cal_of M (i := 61) (by decide) ["_law_cells_so", "_law_crew", "_law_j"] ["_law_cells_so", "_law_crew"] 0 2 _ (by decide +kernel) rfl (fun _ _ _ _ _ _ us hl => match us, hl with | [_, _], _ => rfl) fun ds d hn h => ?_
  obtain ⟨cells, crew, rfl, h1, h2, rfl⟩ := h
  exact s_ret (maxL (DC.cast (dnc (catL (dnc (lcI (own := [("_law_j", 2)]) (xs := crew) (enc := fun a => .int a) (p := fun _ => true) (g := fun j => cells.getD j.toNat 0) ⟨iT (va 1), by kernel_rfl, by decide, fun a _ => gN 2, fun a _ => ts0, fun a ha _ => ixT (dc (va 0)) (dc (va 2)) (atI_int (h2 a ha).1 (h2 a ha).2), by omega⟩)) (dnc (dLst (aC cI aN))) (by rw [List.length_map, List.length_map]; have := List.length_filter_le (fun _ : Int => true) crew; simp at *; omega))) (by rw [List.filter_eq_self.mpr (fun _ _ => rfl), List.map_append]; rfl)) (by simp)) rfl
end DL
set_option Elab.async false
set_option linter.all false
set_option maxRecDepth 100000
set_option maxHeartbeats 2000000
namespace DL
open PySem PySem.Spec PyProof.Rows L2
variable {m : Md}
/-! ### roots -/
def stepF (g : List Int) (c : Int × Int) : List Int := if c.1 ∈ g ∧ ¬ c.2 ∈ g then g ++ [c.2] else g
theorem stepF_pos {f : List Int} {c : Int × Int} (h : c.1 ∈ f ∧ ¬ c.2 ∈ f) : stepF f c = f ++ [c.2] := if_pos h
theorem stepF_neg {f : List Int} {c : Int × Int} (h : ¬ (c.1 ∈ f ∧ ¬ c.2 ∈ f)) : stepF f c = f := if_neg h
theorem foldF_len : ∀ (l : List (Int × Int)) (f : List Int), (l.foldl stepF f).length ≤ f.length + l.length
  | [], f => by simp
  | c :: l, f => by
    have h1 := foldF_len l (stepF f c)
    have h2 : (stepF f c).length ≤ f.length + 1 := by
      unfold stepF
      split
      · simp
      · omega
    rw [List.foldl_cons, List.length_cons]
    omega
def fwdL (cp : List (Int × Int)) (g : List Int) : List Int := cp.foldl stepF g
def srcL (cp : List (Int × Int)) (crew : List Int) : List Int := ((List.range 8).filter fun (j : Nat) => (fwdL cp [(j : Int)]).any fun k => decide (k ∈ crew)).map fun (j : Nat) => (j : Int)
theorem filt1 {α : Type} {p : α → Bool} {a : α} (h : p a = true) : [a].filter p = [a] := by rw [List.filter_cons_of_pos h, List.filter_nil]
theorem filt0 {α : Type} {p : α → Bool} {a : α} (h : p a = false) : [a].filter p = [] := by rw [List.filter_cons_of_neg (by rw [h]; exact Bool.false_ne_true), List.filter_nil]
theorem filter_any {α : Type} (p : α → Bool) : ∀ l : List α, (l.filter p).isEmpty = !l.any p
  | [] => rfl
  | a :: l => by
    rw [List.filter_cons, List.any_cons]
    split
    · rename_i h
      rw [h]
      rfl
    · rename_i h
      rw [filter_any p l]
      simp [h]
theorem c_source (M : MdF m) : Cal m 1 "_law_source" 2 (fun ds d => ∃ (cp : List (Int × Int)) (crew : List Int), ds = [tC cp, tI crew] ∧ cp.length ≤ 1000 ∧ d = lI (srcL cp crew)) := by
  refine cal_of M (i := 65) (by decide) ["_law_pairs_so", "_law_crew", "_law_found", "_law_j", "_law_got_so", "_law_one_so", "_law_two_so", "_law_k"] ["_law_pairs_so", "_law_crew"] 0 2 _ (by decide +kernel) rfl (fun _ _ _ _ _ _ us hl => match us, hl with | [_, _], _ => rfl) fun ds d hn h => ?_
  obtain ⟨cp, crew, rfl, h1, rfl⟩ := h
  refine s_setN 2 (dLst aN) ?_
  refine s_for (js := [3]) (xs := List.range 8) (enc := fun (k : Nat) => .int (k : Int)) (iRn (n := 8) (dc cI) (by decide)) (fun i δ' => ∃ s t u v, δ' = [.va (tC cp), .va (tI crew), .ow ((((List.range 8).take i).filter fun (j : Nat) => (fwdL cp [(j : Int)]).any fun k => decide (k ∈ crew)).map fun (j : Nat) => PyData.int (j : Int)), s, t, u, v, .un]) ⟨.un, .un, .un, .un, rfl⟩ (fun i j δ' ha hI => ?_) fun δ' hI => ?_
  · obtain ⟨s, t, u, v, rfl⟩ := hI
    have tk : (List.range 8).take (i + 1) = (List.range 8).take i ++ [j] := by rw [List.take_add_one, ha]; rfl
    have len : (((List.range 8).take i).filter fun (j : Nat) => (fwdL cp [(j : Int)]).any fun k => decide (k ∈ crew)).length ≤ 8 := by
      have h1 := List.length_filter_le (fun (j : Nat) => (fwdL cp [(j : Int)]).any fun k => decide (k ∈ crew)) ((List.range 8).take i)
      have h2 := List.length_take_le i (List.range 8)
      have h3 : ((List.range 8).take i).length ≤ 8 := by
        rw [List.length_take, List.length_range]
        omega
      omega
    refine ⟨_, gN 3, ?_⟩
    refine s_setN 4 (dLst (aC (va 3) aN)) ?_
    refine s_for (js := [5] ++ [6]) (xs := cp) (enc := tP) (iT (va 0)) (fun l δ' => ∃ u v, δ' = [.va (tC cp), .va (tI crew), .ow ((((List.range 8).take i).filter fun (j : Nat) => (fwdL cp [(j : Int)]).any fun k => decide (k ∈ crew)).map fun (j : Nat) => PyData.int (j : Int)), .va (.int (j : Int)), .ow (((cp.take l).foldl stepF [(j : Int)]).map .int), u, v, .un]) ⟨u, v, rfl⟩ (fun l c δ' hc hI => ?_) fun δ' hI => ?_
    · obtain ⟨u, v, rfl⟩ := hI
      refine ⟨_, gT2 (gN 5) (gN 6), ?_⟩
      have tl : (cp.take (l + 1)).foldl stepF [(j : Int)] = stepF ((cp.take l).foldl stepF [(j : Int)]) c := by
        rw [List.take_add_one, hc, List.foldl_append]
        rfl
      have len := foldF_len (cp.take l) [(j : Int)]
      have lt : (cp.take l).length ≤ 1000 := by
        rw [List.length_take]
        omega
      refine s_if (tW (wA (cmpT (inL (dc (va 5)) (vo 4))) fun _ => wA1 (cmpT (niL (dc (va 6)) (vo 4))))) (fun e => ?_) fun e => ?_
      · have e : c.1 ∈ (cp.take l).foldl stepF [(j : Int)] ∧ ¬ c.2 ∈ (cp.take l).foldl stepF [(j : Int)] := by simpa using e
        refine s_app (ds := ((cp.take l).foldl stepF [(j : Int)]).map .int) 4 (va 6) ?_ (by rw [List.length_map]; simp at len; omega)
        refine s_nil (s_nil ⟨.va (.int c.1), .va (.int c.2), ?_⟩)
        rw [tl, stepF_pos e, List.map_append]
        rfl
      · have e : ¬ (c.1 ∈ (cp.take l).foldl stepF [(j : Int)] ∧ ¬ c.2 ∈ (cp.take l).foldl stepF [(j : Int)]) := by
          intro z
          simp [z.1, z.2] at e
        refine s_nil (s_nil ⟨.va (.int c.1), .va (.int c.2), ?_⟩)
        rw [tl, stepF_neg e]
        rfl
    · obtain ⟨u, v, rfl⟩ := hI
      rw [List.take_length]
      have lf := foldF_len cp [(j : Int)]
      refine s_frz 4 ?_
      refine s_if (k := (fwdL cp [(j : Int)]).any fun k => decide (k ∈ crew)) (DT.cast (cmpT (neD (dnc (lcS (own := [("_law_k", 7)]) (xs := fwdL cp [(j : Int)]) (p := fun k => decide (k ∈ crew)) ⟨iL (va 4), by kernel_rfl, by decide, fun a _ => gN 7, fun a _ => ts1 (cmpT (inT (dc (va 7)) (dc (va 1)))), fun a _ _ => va 7, by unfold fwdL; simp at lf; omega⟩)) (dnc (dLst aN)) lI_sh l0_sh)) (by rw [eqv_l0, isE_map, filter_any, Bool.not_not])) (fun e => ?_) fun e => ?_
      · refine s_app (ds := (((List.range 8).take i).filter fun (j : Nat) => (fwdL cp [(j : Int)]).any fun k => decide (k ∈ crew)).map fun (j : Nat) => PyData.int (j : Int)) 2 (va 3) ?_ (by rw [List.length_map]; omega)
        refine s_nil (s_nil ⟨.va (.int (j : Int)), .va (lI (fwdL cp [(j : Int)])), u, v, ?_⟩)
        rw [tk, List.filter_append, filt1 (p := fun (j : Nat) => (fwdL cp [(j : Int)]).any fun k => decide (k ∈ crew)) e, List.map_append]
        rfl
      · refine s_nil (s_nil ⟨.va (.int (j : Int)), .va (lI (fwdL cp [(j : Int)])), u, v, ?_⟩)
        rw [tk, List.filter_append, filt0 (p := fun (j : Nat) => (fwdL cp [(j : Int)]).any fun k => decide (k ∈ crew)) e, List.append_nil]
        rfl
  · obtain ⟨s, t, u, v, rfl⟩ := hI
    refine s_frz 2 ?_
    refine s_ret (va 2) ?_
    rw [List.take_length]
    unfold srcL
    rw [lI, List.map_map]
    rfl
def rootsL (s : Sh) (crew : List Int) : List Int := (srcL s.cp crew).filter fun j => decide (j ∈ s.old)
theorem srcL_len (cp : List (Int × Int)) (crew : List Int) : (srcL cp crew).length ≤ 8 := by
  unfold srcL
  rw [List.length_map]
  exact Nat.le_trans (List.length_filter_le _ _) (by rw [List.length_range]; exact Nat.le_refl _)
theorem c_roots (M : MdF m) : Cal m 2 "_law_roots" 2 (fun ds d => ∃ (s : Sh) (crew : List Int), ds = [eS s, tI crew] ∧ s.Sm ∧ d = lI (rootsL s crew)) := by
  refine cal_of M (i := 66) (by decide) ["_law_shift_so", "_law_crew", "_law_j"] ["_law_shift_so", "_law_crew"] 1 2 _ (by decide +kernel) rfl (fun _ _ _ _ _ _ us hl => match us, hl with | [_, _], _ => rfl) fun ds d hn h => ?_
  obtain ⟨s, crew, rfl, ⟨a1, a2, a3⟩, rfl⟩ := h
  have len := srcL_len s.cp crew
  exact s_ret (dne (lcS (own := [("_law_j", 2)]) (xs := srcL s.cp crew) (p := fun j => decide (j ∈ s.old)) ⟨iL (call (c_source M) (aC (ixT (dc (va 0)) (dc cI) (d := tC s.cp) rfl) (aC (va 1) aN)) ⟨s.cp, crew, rfl, by omega, rfl⟩), by kernel_rfl, by decide, fun a _ => gN 2, fun a _ => ts1 (cmpT (inT (dc (va 2)) (dc (ixT (dc (va 0)) (dc cI) (d := tI s.old) rfl)))), fun a _ _ => va 2, by omega⟩)) rfl
def ahStep (s : Sh) (j : Int) (f : List (List Int)) : List (List Int) := f.flatMap fun own => ((rootsL s [j]).filter fun k => !decide (k ∈ own)).map fun k => own ++ [k]
def ahsL (s : Sh) : List Int → List (List Int) → List (List Int)
  | [], f => f
  | j :: js, f => ahsL s js (ahStep s j f)
def allL' (s : Sh) : List (List Int) := ahsL s s.new [[]]
theorem rootsL_len (s : Sh) (crew : List Int) : (rootsL s crew).length ≤ 8 := Nat.le_trans (List.length_filter_le _ _) (srcL_len _ _)
theorem ahStep_len (s : Sh) (j : Int) : ∀ f : List (List Int), (ahStep s j f).length ≤ 8 * f.length
  | [] => by simp [ahStep]
  | a :: f => by
    have ih := ahStep_len s j f
    unfold ahStep at ih ⊢
    rw [List.flatMap_cons, List.length_append, List.length_map, List.length_cons]
    have h1 := List.length_filter_le (fun k => !decide (k ∈ a)) (rootsL s [j])
    have h2 := rootsL_len s [j]
    omega
theorem ahStep_app (s : Sh) (j : Int) (f : List (List Int)) (a : List Int) : ahStep s j (f ++ [a]) = ahStep s j f ++ ((rootsL s [j]).filter fun k => !decide (k ∈ a)).map fun k => a ++ [k] := by
  unfold ahStep
  rw [List.flatMap_append, List.flatMap_cons, List.flatMap_nil, List.append_nil]
theorem c_all_heirs (M : MdF m) : Cal m 3 "_law_all_heirs" 1 (fun ds d => ∃ s : Sh, ds = [eS s] ∧ s.Sm ∧ d = .list ((allL' s).map fun own => tC (s.new.zip own))) := by
  refine cal_of M (i := 67) (by decide) ["_law_shift_so", "_law_found", "_law_j", "_law_longer_so", "_law_own", "_law_k"] ["_law_shift_so"] 2 1 _ (by decide +kernel) rfl (fun _ _ _ _ _ _ us hl => match us, hl with | [_], _ => rfl) fun ds d hn h => ?_
  obtain ⟨s, rfl, sm, rfl⟩ := h
  obtain ⟨a1, a2, a3⟩ := id sm
  refine s_set 1 (dne (dLst (aC (dTup aN) aN))) ?_
  refine s_for (js := [2]) (xs := s.new) (enc := fun a => .int a) (iT (ixT (dc (va 0)) (dc cI) (d := tI s.new) rfl)) (fun i δ' => ∃ f t u v, δ' = [.va (eS s), .va (.list (f.map fun a => tI a)), t, u, v, .un] ∧ allL' s = ahsL s (s.new.drop i) f ∧ f.length ≤ 8 ^ i ∧ ∀ l ∈ f, l.length ≤ i) ⟨[[]], .un, .un, .un, rfl, rfl, by simp, by simp⟩ (fun i j δ' ha hI => ?_) fun δ' hI => ?_
  · obtain ⟨f, t, u, v, rfl, he, hf, hl⟩ := hI
    have lt := lt_of_get ha
    have gg : s.new[i] = j := by
      rw [List.getElem?_eq_getElem lt] at ha
      exact Option.some.inj ha
    rw [List.drop_eq_getElem_cons lt, gg, ahsL] at he
    have pw : 8 ^ i ≤ 8 ^ 2 := Nat.pow_le_pow_right (by decide) (by omega)
    have sl := ahStep_len s j f
    refine ⟨_, gN 2, ?_⟩
    refine s_set 3 (dne (dLst aN)) ?_
    refine s_for (js := [4]) (xs := f) (enc := fun a => tI a) (iL (va 1)) (fun l δ' => ∃ v, δ' = [.va (eS s), .va (.list (f.map fun a => tI a)), .va (.int j), .va (.list ((ahStep s j (f.take l)).map fun a => tI a)), v, .un]) ⟨v, rfl⟩ (fun l own δ' hc hI => ?_) fun δ' hI => ?_
    · obtain ⟨v, rfl⟩ := hI
      have hol := hl own (List.mem_of_getElem? hc)
      have l1 := ahStep_len s j (f.take l)
      have l2 : (f.take l).length ≤ f.length := by rw [List.length_take]; omega
      have l3 := rootsL_len s [j]
      have l4 := List.length_filter_le (fun k => !decide (k ∈ own)) (rootsL s [j])
      refine ⟨_, gN 4, ?_⟩
      refine s_set 3 (d := .list ((ahStep s j (f.take (l + 1))).map fun a => tI a)) (DP.cast (dne (catL (dc (va 3)) (dnc (lc (own := [("_law_k", 5)]) (xs := rootsL s [j]) (enc := fun a => .int a) (p := fun k => !decide (k ∈ own)) (f := fun k => tI (own ++ [k])) ⟨iL (call (c_roots M) (aC (va 0) (aC (dTup (aC (va 2) aN)) aN)) ⟨s, [j], rfl, sm, rfl⟩), by kernel_rfl, by decide, fun a _ => gN 5, fun a _ => ts1 (cmpT (niT (dc (va 5)) (dc (va 4)))), fun a _ _ => DP.cast (catT (dc (va 4)) (dc (dTup (aC (va 5) aN))) (by simp; omega)) (tI_app (b := [a])), by omega⟩)) (by rw [List.length_map, List.length_map]; omega))) (by rw [List.take_add_one, hc]; show _ = PyData.list ((ahStep s j (f.take l ++ [own])).map _); rw [ahStep_app, List.map_append, List.map_map]; rfl)) ?_
      exact s_nil ⟨_, rfl⟩
    · obtain ⟨v, rfl⟩ := hI
      rw [List.take_length]
      refine s_set 1 (va 3) ?_
      refine s_nil ⟨ahStep s j f, _, _, _, rfl, he, by rw [Nat.pow_succ]; omega, fun l h => ?_⟩
      obtain ⟨a, h1, h2⟩ := List.mem_flatMap.mp h
      obtain ⟨k, _, rfl⟩ := List.mem_map.mp h2
      have := hl a h1
      rw [List.length_append]
      simp
      omega
  · obtain ⟨f, t, u, v, rfl, he, hf, hl⟩ := hI
    rw [List.drop_length, ahsL] at he
    subst he
    have pw : 8 ^ s.new.length ≤ 8 ^ 3 := Nat.pow_le_pow_right (by decide) a2
    refine s_ret (dne (lc0 (own := [("_law_own", 4)]) (xs := allL' s) (enc := fun a => tI a) (f := fun own => tC (s.new.zip own)) ⟨iL (va 1), by kernel_rfl, by decide, fun a _ => gN 4, fun a _ => ts0, fun own ho _ => ?_, by omega⟩)) rfl
    have ol := hl own ho
    exact tupL (dnc (lc0 (own := [("_law_j", 2), ("_law_k", 5)]) (js := [2] ++ [5]) (xs := s.new.zip own) (enc := tP) (f := tP) ⟨DI.cast' (iZ (ixT (dc (va 0)) (dc cI) (d := tI s.new) rfl) (va 4) (.inr ⟨rfl, rfl⟩)) (by
      unfold zipD
      rw [List.zip_map, List.map_map]
      rfl), by kernel_rfl, by decide, fun a _ => gT2 (gN 2) (gN 5), fun a _ => ts0, fun a _ _ => dTup (aC (va 2) (aC (va 5) aN)), by rw [List.length_zip]; omega⟩))
end DL
set_option Elab.async false
set_option linter.all false
set_option maxRecDepth 100000
set_option maxHeartbeats 2000000
namespace DL
open PySem PySem.Spec PyProof.Rows L2
variable {m : Md}
/-! ### pages -/
def pgOf (s : Sh) (tick : Int) : List Dd := s.cp.map fun c => .cp tick c.1 c.2
theorem c_page_of (M : MdF m) : Cal m 1 "_law_page_of" 2 (fun ds d => ∃ (s : Sh) (t : Int), ds = [eS s, .int t] ∧ s.cp.length ≤ 1000 ∧ d = .tuple ((pgOf s t).map eD)) := by
  refine cal_of M (i := 68) (by decide) ["_law_shift_so", "_law_tick_so", "_law_own"] ["_law_shift_so", "_law_tick_so"] 0 2 _ (by decide +kernel) rfl (fun _ _ _ _ _ _ us hl => match us, hl with | [_, _], _ => rfl) fun ds d hn h => ?_
  obtain ⟨s, t, rfl, h1, rfl⟩ := h
  refine s_ret (tupL (dnc (lc0 (own := [("_law_own", 2)]) (xs := s.cp) (enc := tP) (f := fun c => eD (.cp t c.1 c.2)) ⟨iT (ixT (dc (va 0)) (dc cI) (d := tC s.cp) rfl), by kernel_rfl, by decide, fun a _ => gN 2, fun a _ => ts0, fun a _ _ => dTup (aC cS (aC (va 1) (aC (ixT (dc (va 2)) (dc cI) (d := .int a.1) rfl) (aC (ixT (dc (va 2)) (dc cI) (d := .int a.2) rfl) aN)))), by omega⟩))) ?_
  unfold pgOf
  rw [List.map_map]
  rfl
def togL (ss : List Sh) : Sh := ⟨(ss.headD ⟨[], [], []⟩).old, (ss.getLastD ⟨[], [], []⟩).new, ss.flatMap fun s => s.cp⟩
theorem tC_app (a b : List (Int × Int)) : PyData.tuple (a.map tP ++ b.map tP) = tC (a ++ b) := by rw [← List.map_append]
theorem c_together (M : MdF m) : Cal m 1 "_law_together" 1 (fun ds d => ∃ ss : List Sh, ds = [.list (ss.map fun s => eS s)] ∧ ss ≠ [] ∧ ss.length ≤ 100 ∧ (∀ s ∈ ss, s.cp.length ≤ 100) ∧ d = eS (togL ss)) := by
  refine cal_of M (i := 70) (by decide) ["_law_shifts_so", "_law_pairs_so", "_law_own"] ["_law_shifts_so"] 0 1 _ (by decide +kernel) rfl (fun _ _ _ _ _ _ us hl => match us, hl with | [_], _ => rfl) fun ds d hn h => ?_
  obtain ⟨ss, rfl, ne, h1, h2, rfl⟩ := h
  refine s_set 1 (dTup aN) ?_
  refine s_for (js := [2]) (xs := ss) (enc := fun s => eS s) (iL (va 0)) (fun i δ' => ∃ s, δ' = [.va (.list (ss.map fun s => eS s)), .va (tC ((ss.take i).flatMap fun s => s.cp)), s] ∧ ((ss.take i).flatMap fun s => s.cp).length ≤ 100 * i) ⟨.un, rfl, by simp⟩ (fun i s δ' ha hI => ?_) fun δ' hI => ?_
  · obtain ⟨t, rfl, hl⟩ := hI
    have lt := lt_of_get ha
    have hc := h2 s (List.mem_of_getElem? ha)
    have tk : (ss.take (i + 1)).flatMap (fun s => s.cp) = ((ss.take i).flatMap fun s => s.cp) ++ s.cp := by
      rw [List.take_add_one, ha, List.flatMap_append]
      show _ ++ List.flatMap _ [s] = _
      rw [List.flatMap_cons, List.flatMap_nil, List.append_nil]
    refine ⟨_, gN 2, ?_⟩
    refine s_set 1 (DP.cast (catT (dc (va 1)) (dc (ixT (dc (va 2)) (dc cI) (d := tC s.cp) rfl)) (by rw [List.length_map, List.length_map]; omega)) (tC_app _ _)) ?_
    refine s_nil ⟨_, by rw [tk]; rfl, ?_⟩
    rw [tk, List.length_append]
    omega
  · obtain ⟨t, rfl, hl⟩ := hI
    rw [List.take_length]
    have h0 : ss[0]? = some (ss.headD ⟨[], [], []⟩) := by cases ss with | nil => exact absurd rfl ne | cons a r => rfl
    have hz : ss.getLast? = some (ss.getLastD ⟨[], [], []⟩) := by
      cases e : ss.getLast? with
      | none => exact absurd (List.getLast?_eq_none_iff.mp e) ne
      | some x => rw [List.getLastD_eq_getLast?, e]; rfl
    refine s_ret (dTup (aC (ixT (dc (ixL (dc (va 0)) (dc cI) (d := eS (ss.headD ⟨[], [], []⟩)) (atI_get (i := 0) (by rw [List.getElem?_map, h0]; rfl)))) (dc cI) (d := tI (ss.headD ⟨[], [], []⟩).old) rfl) (aC (ixT (dc (ixL (dc (va 0)) (dc cM1) (d := eS (ss.getLastD ⟨[], [], []⟩)) (atI_last (by rw [List.getLast?_map, hz]; rfl)))) (dc cI) (d := tI (ss.getLastD ⟨[], [], []⟩).new) rfl) (aC (va 1) aN)))) ?_
    rfl
/-- the page of several moves, a put ahead of each -/
def leafP (need : Nat) : Nat → List Sh → List Dd
  | _, [] => []
  | k, s :: ss => .pt (3 * (k : Int)) ((k : Int) + 1) s.old (cntL s.old need) :: (pgOf s (3 * (k : Int) + 1) ++ leafP need (k + 1) ss)
theorem leafP_app (need : Nat) : ∀ (k : Nat) (a b : List Sh), leafP need k (a ++ b) = leafP need k a ++ leafP need (k + a.length) b
  | k, [], b => by simp [leafP]
  | k, s :: a, b => by
    rw [List.cons_append, leafP, leafP, leafP_app need (k + 1) a b, List.length_cons]
    rw [show k + 1 + a.length = k + (a.length + 1) by omega]
    simp
theorem leafP_len (need : Nat) : ∀ (k : Nat) (a : List Sh), (∀ s ∈ a, s.cp.length ≤ 20) → (leafP need k a).length ≤ 21 * a.length
  | k, [], h => by simp [leafP]
  | k, s :: a, h => by
    have h1 := leafP_len need (k + 1) a fun t ht => h t (List.mem_cons_of_mem _ ht)
    have h2 := h s List.mem_cons_self
    rw [leafP, List.length_cons, List.length_append, List.length_cons]
    unfold pgOf
    rw [List.length_map]
    omega
theorem eD_app (a b : List Dd) : PyData.tuple (a.map eD ++ b.map eD) = .tuple ((a ++ b).map eD) := by rw [List.map_append]
theorem c_leaf_of (M : MdF m) : Cal m 3 "_law_leaf_of" 2 (fun ds d => ∃ (ss : List Sh) (need : Nat), ds = [.list (ss.map fun s => eS s), .int (need : Int)] ∧ ss.length ≤ 10 ∧ (∀ s ∈ ss, s.cp.length ≤ 20 ∧ s.old.length ≤ 3) ∧ d = eB (leafP need 0 ss)) := by
  refine cal_of M (i := 71) (by decide) ["_law_shifts_so", "_law_need_so", "_law_page_so", "_law_k", "_law_own", "_law_kin_so"] ["_law_shifts_so", "_law_need_so"] 2 2 _ (by decide +kernel) rfl (fun _ _ _ _ _ _ us hl => match us, hl with | [_, _], _ => rfl) fun ds d hn h => ?_
  obtain ⟨ss, need, rfl, h1, h2, rfl⟩ := h
  refine s_set 2 (dTup aN) ?_
  refine s_for (js := [3] ++ [4]) (xs := ss.zipIdx) (enc := fun q => .tuple [.int (q.2 : Int), eS q.1]) (DI.cast' (iE (va 0)) (by unfold enumD; rw [List.zipIdx_map, List.map_map]; rfl)) (fun i δ' => ∃ s t u, δ' = [.va (.list (ss.map fun s => eS s)), .va (.int (need : Int)), .va (.tuple ((leafP need 0 (ss.take i)).map eD)), s, t, u]) ⟨.un, .un, .un, rfl⟩ (fun i q δ' ha hI => ?_) fun δ' hI => ?_
  · obtain ⟨s, t, u, rfl⟩ := hI
    obtain ⟨sh, k⟩ := q
    have hq := List.mem_zipIdx_iff_getElem?.mp (List.mem_of_getElem? ha)
    have ek : k = i := by
      rw [List.getElem?_zipIdx] at ha
      obtain ⟨x, _, e⟩ := Option.map_eq_some_iff.mp ha
      have := (Prod.mk.inj e).2
      omega
    subst ek
    have hq : ss[k]? = some sh := hq
    have lt := lt_of_get hq
    obtain ⟨c1, c2⟩ := h2 sh (List.mem_of_getElem? hq)
    have tk : leafP need 0 (ss.take (k + 1)) = leafP need 0 (ss.take k) ++ (.pt (3 * (k : Int)) ((k : Int) + 1) sh.old (cntL sh.old need) :: pgOf sh (3 * (k : Int) + 1)) := by
      rw [List.take_add_one, hq]
      show leafP need 0 (ss.take k ++ [sh]) = _
      rw [leafP_app, List.length_take, Nat.min_eq_left (by omega), Nat.zero_add]
      simp [leafP]
    have l1 := leafP_len need 0 (ss.take k) fun s hs => (h2 s (List.mem_of_mem_take hs)).1
    have l2 : (ss.take k).length ≤ 10 := by rw [List.length_take]; omega
    refine ⟨_, gT2 (gN 3) (gN 4), ?_⟩
    refine s_set 5 (d := .tuple ((cntL sh.old need).map fun a => tI a)) (tupL (dc (call (c_counted M) (aC (ixT (dc (va 4)) (dc cI) (d := tI sh.old) rfl) (aC (va 1) aN)) ⟨sh.old, need, rfl, by omega, rfl⟩))) ?_
    refine s_set 2 (d := .tuple ((leafP need 0 (ss.take (k + 1))).map eD)) (DP.cast (catT (ds := (leafP need 0 (ss.take k)).map eD ++ [eD (.pt (3 * (k : Int)) ((k : Int) + 1) sh.old (cntL sh.old need))]) (dc (catT (dc (va 2)) (dc (dTup (aC (dTup (aC cS (aC (mulI (dc cI) (dc (va 3)) (.inl (by decide))) (aC (addI (dc (va 3)) (dc cI)) (aC (ixT (dc (va 4)) (dc cI) (d := tI sh.old) rfl) (aC (va 5) aN)))))) aN))) (by rw [List.length_map]; simp; omega))) (dc (call (c_page_of M) (aC (va 4) (aC (addI (dc (mulI (dc cI) (dc (va 3)) (.inl (by decide)))) (dc cI)) aN)) ⟨sh, _, rfl, by omega, rfl⟩)) (by unfold pgOf; simp; omega)) (by rw [tk]; simp)) ?_
    exact s_nil ⟨_, _, _, rfl⟩
  · obtain ⟨s, t, u, rfl⟩ := hI
    rw [List.length_zipIdx, List.take_length]
    exact s_ret (dTup (aC cI (aC cI (aC (va 2) aN)))) rfl
end DL
set_option Elab.async false
set_option linter.all false
set_option maxRecDepth 100000
set_option maxHeartbeats 2000000
namespace DL
open PySem PySem.Spec PyProof.Rows L2
variable {m : Md}
/-! ### pasts by the law -/
section
theorem sw_cell {x y : Str} {a b : Expr} {px py pt pt2 : Pos} {kt k2 : Nat} {env : Env} (hx : env.scope.names.lookup x = some .cell) : swappedStores [.Tuple [.Name x px, .Name y py] kt pt] (.Tuple [a, b] k2 pt2) env = pure none := by
  have kx : env.kindOf x = some .cell := hx
  have no : (some NameKind.cell == some NameKind.local) = false := by decide
  unfold swappedStores
  simp only [Expr.pos, List.head?_cons, Option.map_some, Option.getD_some, List.filterMap_cons, List.filterMap_nil, kx, no, Bool.false_and, Bool.false_eq_true, if_false]
  split
  · rfl
  · split
    · rfl
    · refine if_pos ?_
      split <;> simp
variable {G : Gm} {a b : Expr} {rest : List Stmt} {δ δ' : Sto} {P : Po} {d : PyData} {x y : Str} {pos px py pt pt2 : Pos} {kt k2 : Nat} {js : List Nat}
/-- x, y = a, b where x is a cell -/
theorem s_tgtC (hx : G.sc.names.lookup x = some .cell) (he : DE G (.Tuple [a, b] k2 pt2) δ d) (hg : DG G (.Tuple [.Name x px, .Name y py] kt pt) js δ d δ') (k : DS G rest δ' P) (hs : ∀ env, swapsWithSole [.Tuple [.Name x px, .Name y py] kt pt] (.Tuple [a, b] k2 pt2) pos.line env = pure false := by intro _; rfl) (h1 : ∀ env, (assignEach [.Tuple [.Name x px, .Name y py] kt pt] env).map (·.2) = [assign (.Tuple [.Name x px, .Name y py] kt pt) env] := by intro _; rfl) :
    DS G (.Assign [.Tuple [.Name x px, .Name y py] kt pt] (.Tuple [a, b] k2 pt2) pos :: rest) δ P :=
  s_cons (ds1_of fun X hX => ⟨_, ps_asg pe_m (pg_g hX) (hs X.env) (sw_cell (by rw [hX.sc]; exact hx)) (h1 X.env), fun F0 H0 F H σ S D w => he X hX F0 H0 F H σ S _ fun v F' H' g r =>
    gmg_of hg F0 H0 F' H' σ v (S.grow g) r _ fun σ' S' _ => w.nx _ F' H' σ' k g.ff S'⟩)
end
theorem headD_get {α : Type} {l : List α} (h : l ≠ []) (a : α) : l[0]? = some (l.headD a) := by
  cases l with
  | nil => exact absurd rfl h
  | cons x r => rfl
theorem c_lpast (M : MdF m) : Cal m 1 "_law_past" 3 (fun ds d => ∃ (page : List Dd) (crw : List Int), ds = [eB page, tI crw, .int (page.length : Int)] ∧ page.length ≤ 300 ∧ (∀ t, t <:+ page → ((trail t crw).headD []).length ≤ 60) ∧ d = .list ((trail page crw).map fun a => tI a)) := by
  refine cal_of M (i := 62) (by decide) ["_law_leaf", "_law_crew", "_law_hour_so", "_law_found", "_law_n", "_law_deed_so", "_law_here", "_law_j"] ["_law_leaf", "_law_crew", "_law_hour_so"] 0 3 _ (by decide +kernel) rfl (fun _ _ _ _ _ _ us hl => match us, hl with | [_, _, _], _ => rfl) fun ds d hn h => ?_
  obtain ⟨page, crw, rfl, h1, h2, rfl⟩ := h
  refine s_set 3 (dne (dLst (aC (tupT (dc (va 1))) aN))) ?_
  refine s_for (js := [4]) (xs := List.range page.length) (enc := fun k => .int ((page.length - 1 - k : Nat) : Int)) (iRdn (dc (subI (dc (va 2)) (dc cI))) (dc cM1) (dc cM1) (by omega)) (fun i δ' => ∃ s t u, δ' = [.va (eB page), .va (tI crw), .va (.int (page.length : Int)), .va (.list ((trail (page.drop (page.length - i)) crw).map fun a => tI a)), s, t, u, .un]) ⟨.un, .un, .un, ?_⟩ (fun i a δ' ha hI => ?_) fun δ' hI => ?_
  · rw [Nat.sub_zero, List.drop_length]
    rfl
  · obtain ⟨s, t, u, rfl⟩ := hI
    have lt : i < page.length := by simpa using lt_of_get ha
    have ea : a = i := by
      rw [List.getElem?_range lt] at ha
      exact (Option.some.inj ha).symm
    subst ea
    have dr : page.drop (page.length - 1 - a) = page[page.length - 1 - a]'(by omega) :: page.drop (page.length - a) := by
      rw [List.drop_eq_getElem_cons (by omega), show page.length - 1 - a + 1 = page.length - a by omega]
    have sh : page.drop (page.length - a) <:+ page := List.drop_suffix _ _
    have hl := h2 _ sh
    have tl := trail_len (page.drop (page.length - a)) crw
    have tn := trail_ne (page.drop (page.length - a)) crw
    generalize hT : trail (page.drop (page.length - a)) crw = T at hl tl tn
    have tz : T.length ≤ 301 := by rw [tl, List.length_drop]; omega
    have hd : page[page.length - 1 - a]? = some (page[page.length - 1 - a]'(by omega)) := List.getElem?_eq_getElem (by omega)
    refine ⟨_, gN 4, ?_⟩
    refine s_tgtC (js := [5] ++ [6]) rfl (dTup (aC (ixT (dc (ixT (dc (va 0)) (dc cI) (d := .tuple (page.map eD)) rfl)) (dc (va 4)) (d := eD (page[page.length - 1 - a]'(by omega))) (atI_get (by rw [List.getElem?_map, hd]; rfl))) (aC (ixL (dc (va 3)) (dc cI) (d := tI (T.headD [])) (atI_get (i := 0) (by rw [List.getElem?_map, headD_get tn []]; rfl))) aN))) (gT2 (gN 5) (gN 6)) ?_
    generalize page[page.length - 1 - a]'(by omega) = e at dr hd
    have cat : ∀ (h : List Int), PyData.list ([tI h] ++ T.map fun a => tI a) = .list ((h :: T).map fun a => tI a) := fun h => rfl
    have dr2 : trail (page.drop (page.length - (a + 1))) crw = ahd e (T.headD []) :: T := by
      rw [show page.length - (a + 1) = page.length - 1 - a by omega, dr, trail, hT]
    rw [dr2]
    cases e with
    | cp t0 x y =>
      refine s_if (tW (wA (cmpT (eqS (dc (ixT (dc (va 5)) (dc cI) (d := .str "copy") rfl)) (dc cS))) fun _ => wA1 (cmpT (inT (dc (ixT (dc (va 5)) (dc cI) (d := .int y) rfl)) (dc (va 6)))))) (fun e => ?_) fun e => ?_
      · have hb : y ∈ T.headD [] := by simpa using e
        rw [show ahd (.cp t0 x y) (T.headD []) = uq (T.headD [] ++ [x]) from if_pos hb]
        refine s_set 6 (d := tI (uq (T.headD [] ++ [x]))) (tupL (dnc (sortS (setT (ns := T.headD [] ++ [x]) (DC.cast (dc (catT (dc (va 6)) (dc (dTup (aC (ixT (dc (va 5)) (dc cI) (d := .int x) rfl) aN))) (by rw [List.length_map]; show (T.headD []).length + 1 ≤ _; omega))) (tI_app (b := [x]))) (by rw [List.length_append]; show (T.headD []).length + 1 ≤ _; omega)) (by rw [List.length_append]; show (T.headD []).length + 1 < _; omega)))) ?_
        refine s_nil (s_no (cmpT (eqS (dc (ixT (dc (va 5)) (dc cI) (d := .str "copy") rfl)) (dc cS))) (by decide) ?_)
        refine s_set 3 (DP.cast (dne (catL (dnc (dLst (aC (va 6) aN))) (dc (va 3)) (by rw [List.length_map]; simp; omega))) (cat _)) ?_
        exact s_nil ⟨_, _, _, rfl⟩
      · have hb : ¬ y ∈ T.headD [] := by simpa using e
        rw [show ahd (.cp t0 x y) (T.headD []) = T.headD [] from if_neg hb]
        refine s_nil (s_no (cmpT (eqS (dc (ixT (dc (va 5)) (dc cI) (d := .str "copy") rfl)) (dc cS))) (by decide) ?_)
        refine s_set 3 (DP.cast (dne (catL (dnc (dLst (aC (va 6) aN))) (dc (va 3)) (by rw [List.length_map]; simp; omega))) (cat _)) ?_
        exact s_nil ⟨_, _, _, rfl⟩
    | pt t0 v o k =>
      refine s_no (tW (wA (cmpT (eqS (dc (ixT (dc (va 5)) (dc cI) (d := .str "put") rfl)) (dc cS))) fun e => absurd e (by decide))) (by rfl : (_ && false) = false) ?_
      refine s_no (cmpT (eqS (dc (ixT (dc (va 5)) (dc cI) (d := .str "put") rfl)) (dc cS))) (by decide) ?_
      refine s_set 3 (DP.cast (dne (catL (dnc (dLst (aC (va 6) aN))) (dc (va 3)) (by rw [List.length_map]; simp; omega))) (cat _)) ?_
      exact s_nil ⟨_, _, _, rfl⟩
  · obtain ⟨s, t, u, rfl⟩ := hI
    rw [List.length_range, Nat.sub_self, List.drop_zero]
    exact s_ret (va 3) rfl
def lmissL (page : List Dd) (crew : List Int) (v : Int) : Bool := (((writesL page).filter fun n => decide (v ≤ (page.getD n.toNat (.cp 0 0 0)).ver)).filter fun n => !lroomL (page.getD n.toNat (.cp 0 0 0)).kin ((trail page crew).getD (n.toNat + 1) [])).isEmpty
theorem c_misses (M : MdF m) : Cal m 3 "_law_misses" 3 (fun ds d => ∃ (page : List Dd) (crew : List Int) (v : Int), ds = [eB page, tI crew, .int v] ∧ PgOk page ∧ (∀ t, t <:+ page → ((trail t crew).headD []).length ≤ 60) ∧ d = .bool (lmissL page crew v)) := by
  refine cal_of M (i := 63) (by decide) ["_law_leaf", "_law_crew", "_law_rank_so", "_law_trail_so", "_law_later_so", "_law_n"] ["_law_leaf", "_law_crew", "_law_rank_so"] 2 3 _ (by decide +kernel) rfl (fun _ _ _ _ _ _ us hl => match us, hl with | [_, _, _], _ => rfl) fun ds d hn h => ?_
  obtain ⟨page, crew, v, rfl, h1, h2, rfl⟩ := h
  have rd : ∀ n ∈ writesL page, ∃ (j : Nat) (t0 v0 : Int) (o : List Int) (k : List (List Int)), n = (j : Int) ∧ page[j]? = some (.pt t0 v0 o k) ∧ page.getD n.toNat (.cp 0 0 0) = .pt t0 v0 o k := fun n hn => by
    obtain ⟨j, t0, v0, o, k, rfl, hj⟩ := writes_spec hn
    exact ⟨j, t0, v0, o, k, rfl, hj, by rw [Int.toNat_natCast, List.getD_eq_getElem?_getD, hj]; rfl⟩
  have wl : (writesL page).length ≤ 300 := by
    unfold writesL
    rw [List.length_map]
    exact Nat.le_trans (List.length_filter_le _ _) (by rw [List.length_zipIdx]; exact h1.1)
  have tl := trail_len page crew
  refine s_set 3 (call (c_lpast M) (aC (va 0) (aC (va 1) (aC (DP.cast (lenT (dc (ixT (dc (va 0)) (dc cI) (d := .tuple (page.map eD)) rfl))) (by rw [List.length_map])) aN))) ⟨page, crew, rfl, h1.1, h2, rfl⟩) ?_
  refine s_setLc 4 (own := [("_law_n", 5)]) (js := [5]) (xs := writesL page) (enc := fun a => .int a) (q := fun n => decide (v ≤ (page.getD n.toNat (.cp 0 0 0)).ver)) (f := fun n => .int n) ⟨iL (call (c_lwrites M) (aC (va 0) aN) ⟨page, rfl, by have := h1.1; omega, rfl⟩), by kernel_rfl, by decide, fun a _ => gN 5, fun n hn => ?_, fun a _ _ => va 5, by omega⟩ ?_
  · obtain ⟨j, t0, v0, o, k, rfl, hj, e⟩ := rd n hn
    rw [e]
    exact ts1 (cmpT (geI (dc (ixT (dc (ixT (dc (ixT (dc (va 0)) (dc cI) (d := .tuple (page.map eD)) rfl)) (dc (va 5)) (d := eD (.pt t0 v0 o k)) (atI_get (by rw [List.getElem?_map, hj]; rfl)))) (dc cI) (d := .int v0) rfl)) (dc (va 2))))
  · refine s_ret (cmpE (eqD (dnc (lcS (own := [("_law_n", 5)]) (xs := (writesL page).filter fun n => decide (v ≤ (page.getD n.toNat (.cp 0 0 0)).ver)) (p := fun n => !lroomL (page.getD n.toNat (.cp 0 0 0)).kin ((trail page crew).getD (n.toNat + 1) [])) ⟨iL (va 4), by kernel_rfl, by decide, fun a _ => gN 5, fun n hn => ?_, fun a _ _ => va 5, Nat.le_trans (List.length_filter_le _ _) (by omega)⟩)) (dnc (dLst aN)) lI_sh l0_sh)) ?_
    · obtain ⟨j, t0, v0, o, k, rfl, hj, e⟩ := rd n (List.mem_filter.mp hn).1
      have lt := lt_of_get hj
      obtain ⟨o1, o2, o3⟩ := (show o.length ≤ 300 ∧ k.length ≤ 300 ∧ ∀ a ∈ k, a.length ≤ 300 from h1.2 _ (List.mem_of_getElem? hj))
      have gt : (trail page crew)[j + 1]? = some ((trail page crew).getD (j + 1) []) := by
        rw [List.getD_eq_getElem?_getD, List.getElem?_eq_getElem (by omega)]
        rfl
      rw [e, Int.toNat_natCast]
      exact ts1 (tNot (tV (dc (call (c_lroom M) (aC (ixT (dc (ixT (dc (ixT (dc (va 0)) (dc cI) (d := .tuple (page.map eD)) rfl)) (dc (va 5)) (d := eD (.pt t0 v0 o k)) (atI_get (by rw [List.getElem?_map, hj]; rfl)))) (dc cI) (d := .tuple (k.map fun a => tI a)) rfl) (aC (ixL (dc (va 3)) (dc (DP.cast (addI (dc (va 5)) (dc cI)) (show PyData.int ((j : Int) + 1) = .int ((j + 1 : Nat) : Int) by rw [Int.natCast_add]; rfl))) (d := tI ((trail page crew).getD (j + 1) [])) (atI_get (by rw [List.getElem?_map, gt]; rfl))) aN)) ⟨k, _, rfl, by omega, fun a ha => by have := o3 a ha; omega, rfl⟩))))
    · rw [eqv_l0, isE_map]
      rfl
/-! ### fates -/
abbrev Fe := Option (List Int)
def eFe : Fe → PyData
  | none => .tuple []
  | some c => .tuple [tI c, .tuple []]
abbrev eFt (f : List Fe) : PyData := .tuple (f.map eFe)
def goods : Dd → List Fe
  | .cp .. => [none]
  | .pt _ _ _ k => k.map some
def qtStep (d : Dd) (f : List (List Fe)) : List (List Fe) := f.flatMap fun own => (goods d).map fun g => own ++ [g]
def qtL : List Dd → List (List Fe) → List (List Fe)
  | [], f => f
  | d :: ds, f => qtL ds (qtStep d f)
theorem qtStep_app (d : Dd) (f : List (List Fe)) (a : List Fe) : qtStep d (f ++ [a]) = qtStep d f ++ (goods d).map fun g => a ++ [g] := by
  unfold qtStep
  rw [List.flatMap_append, List.flatMap_cons, List.flatMap_nil, List.append_nil]
/-- so many worlds at most -/
def qtN : List Dd → Nat → Nat
  | [], n => n
  | d :: ds, n => qtN ds (n * (goods d).length)
theorem qtStep_len (d : Dd) : ∀ f : List (List Fe), (qtStep d f).length = f.length * (goods d).length
  | [] => by simp [qtStep]
  | a :: f => by
    have ih := qtStep_len d f
    unfold qtStep at ih ⊢
    rw [List.flatMap_cons, List.length_append, List.length_map, ih, List.length_cons, Nat.add_mul, Nat.one_mul, Nat.add_comm]
theorem c_quiets (M : MdF m) : Cal m 2 "_law_quiets" 1 (fun ds d => ∃ page : List Dd, ds = [eB page] ∧ page.length ≤ 1000 ∧ (∀ i, i ≤ page.length → qtN (page.take i) 1 ≤ 40000) ∧ (∀ e ∈ page, (goods e).length ≤ 1000) ∧ d = .list ((qtL page [[]]).map fun f => eFt f)) := by
  refine cal_of M (i := 64) (by decide) ["_law_leaf", "_law_found", "_law_deed_so", "_law_goods_so", "_law_longer_so", "_law_own", "_law_crew", "_law_its"] ["_law_leaf"] 1 1 _ (by decide +kernel) rfl (fun _ _ _ _ _ _ us hl => match us, hl with | [_], _ => rfl) fun ds d hn h => ?_
  obtain ⟨page, rfl, h0, h1, h2, rfl⟩ := h
  refine s_set 1 (dne (dLst (aC (dTup aN) aN))) ?_
  refine s_for (js := [2]) (xs := page) (enc := eD) (iT (ixT (dc (va 0)) (dc cI) (d := .tuple (page.map eD)) rfl)) (fun i δ' => ∃ f s t u v, δ' = [.va (eB page), .va (.list (f.map fun f => eFt f)), s, t, u, v, .un, .un] ∧ qtL page [[]] = qtL (page.drop i) f ∧ f.length = qtN (page.take i) 1 ∧ ∀ l ∈ f, l.length ≤ i) ⟨[[]], .un, .un, .un, .un, rfl, rfl, rfl, by simp⟩ (fun i e δ' ha hI => ?_) fun δ' hI => ?_
  · obtain ⟨f, s, t, u, v, rfl, he, hf, hl⟩ := hI
    have lt := lt_of_get ha
    have gg : page[i] = e := by
      rw [List.getElem?_eq_getElem lt] at ha
      exact Option.some.inj ha
    rw [List.drop_eq_getElem_cons lt, gg, qtL] at he
    have qn : ∀ (a : List Dd) (n : Nat), qtN (a ++ [e]) n = qtN a n * (goods e).length := fun a => by
      induction a with
      | nil => exact fun n => rfl
      | cons x a ih => exact fun n => ih _
    have tk : page.take (i + 1) = page.take i ++ [e] := by rw [List.take_add_one, ha]; rfl
    have nx := h1 (i + 1) (by omega)
    rw [tk, qn] at nx
    have ge := h2 e (List.mem_of_getElem? ha)
    refine ⟨_, gN 2, ?_⟩
    refine s_set 3 (d := .list ((goods e).map eFe)) (vIf (tV (dc (call (c_is_write M) (aC (va 2) aN) ⟨e, rfl, rfl⟩))) (fun hw => ?_) fun hw => ?_) ?_
    · cases e with
      | cp => cases hw
      | pt t0 v0 o k =>
        exact DP.cast (dne (lc0 (own := [("_law_crew", 6)]) (xs := k) (enc := fun a => tI a) (f := fun c => eFe (some c)) ⟨iT (ixT (dc (va 2)) (dc cI) (d := .tuple (k.map fun a => tI a)) rfl), by kernel_rfl, by decide, fun a _ => gN 6, fun a _ => ts0, fun a _ _ => dTup (aC (va 6) (aC (dTup aN) aN)), by have : (k.map some).length ≤ 1000 := ge; rw [List.length_map] at this; omega⟩)) (by show _ = PyData.list ((k.map some).map eFe); rw [List.map_map]; rfl)
    · cases e with
      | pt => cases hw
      | cp t0 x y => exact DP.cast (dne (dLst (aC (dTup aN) aN))) rfl
    refine s_set 4 (dne (dLst aN)) ?_
    refine s_for (js := [5]) (xs := f) (enc := fun f => eFt f) (iL (va 1)) (fun l δ' => ∃ v, δ' = [.va (eB page), .va (.list (f.map fun f => eFt f)), .va (eD e), .va (.list ((goods e).map eFe)), .va (.list ((qtStep e (f.take l)).map fun f => eFt f)), v, .un, .un]) ⟨v, rfl⟩ (fun l own δ' hc hI => ?_) fun δ' hI => ?_
    · obtain ⟨v, rfl⟩ := hI
      have hol := hl own (List.mem_of_getElem? hc)
      have l1 := qtStep_len e (f.take l)
      have l2 : (f.take l).length ≤ f.length := by rw [List.length_take]; omega
      have l3 : (f.take l).length * (goods e).length ≤ f.length * (goods e).length := Nat.mul_le_mul_right _ l2
      refine ⟨_, gN 5, ?_⟩
      refine s_set 4 (d := .list ((qtStep e (f.take (l + 1))).map fun f => eFt f)) (DP.cast (dne (catL (dc (va 4)) (dnc (lc0 (own := [("_law_its", 7)]) (xs := goods e) (enc := eFe) (f := fun g => eFt (own ++ [g])) ⟨iL (va 3), by kernel_rfl, by decide, fun a _ => gN 7, fun a _ => ts0, fun a _ _ => DP.cast (catT (dc (va 5)) (dc (dTup (aC (va 7) aN))) (by simp; omega)) (by show _ = PyData.tuple ((own ++ [a]).map eFe); rw [List.map_append]; rfl), by omega⟩)) (by rw [List.length_map, List.length_map]; rw [hf] at l3; omega))) (by rw [List.take_add_one, hc]; show _ = PyData.list ((qtStep e (f.take l ++ [own])).map _); rw [qtStep_app, List.map_append, List.map_map]; rfl)) ?_
      exact s_nil ⟨_, rfl⟩
    · obtain ⟨v, rfl⟩ := hI
      rw [List.take_length]
      refine s_set 1 (va 4) ?_
      refine s_nil ⟨qtStep e f, _, _, _, _, rfl, he, by rw [tk, qn, qtStep_len, hf], fun l h => ?_⟩
      obtain ⟨a, h1, h2⟩ := List.mem_flatMap.mp h
      obtain ⟨k, _, rfl⟩ := List.mem_map.mp h2
      have := hl a h1
      rw [List.length_append]
      simp
      omega
  · obtain ⟨f, s, t, u, v, rfl, he, hf, hl⟩ := hI
    rw [List.drop_length, qtL] at he
    subst he
    exact s_ret (va 1) rfl
end DL
set_option Elab.async false
set_option linter.all false
set_option maxRecDepth 100000
set_option maxHeartbeats 2000000
namespace DL
open PySem PySem.Spec PyProof.Rows L2
variable {m : Md}
/-! ### play -/
def mx (i j : Int) : Int := if j > i then j else i
def setJ (h : List Int) (j v : Int) : List Int := h.set j.toNat (mx (h.getD j.toNat 0) v)
def doneL (h : List Int) : Dd → List Int → List Int
  | .cp _ a b, _ => h.set b.toNat (mx (h.getD b.toNat 0) (h.getD a.toNat 0))
  | .pt _ v _ _, tk => tk.foldl (fun h j => setJ h j v) h
theorem setJ_len (h : List Int) (j v : Int) : (setJ h j v).length = h.length := List.length_set ..
theorem foldJ_len (v : Int) : ∀ (tk h : List Int), (tk.foldl (fun h j => setJ h j v) h).length = h.length
  | [], h => rfl
  | j :: tk, h => by rw [List.foldl_cons, foldJ_len v tk, setJ_len]
theorem doneL_len (h : List Int) (d : Dd) (tk : List Int) : (doneL h d tk).length = h.length := by
  cases d with
  | cp t a b => exact List.length_set ..
  | pt t v o k => exact foldJ_len v tk h
/-- places in a deed -/
def Dd.In8 : Dd → Prop
  | .cp _ a b => 0 ≤ a ∧ a < 8 ∧ 0 ≤ b ∧ b < 8
  | .pt _ _ _ k => ∀ l ∈ k, ∀ j ∈ l, 0 ≤ j ∧ j < 8
def tkOk (tk : List Int) : Prop := tk.length ≤ 1000 ∧ ∀ j ∈ tk, 0 ≤ j ∧ j < 8
theorem ixN8 {n : Nat} {j : Int} (h : 0 ≤ j) (h2 : j.toNat < n) : ixN n j = some j.toNat := by
  unfold L2.ixN
  rw [if_pos h, if_pos (by omega)]
theorem map_set {ns : List Int} {i : Nat} {v : Int} : (ns.map PyData.int).set i (.int v) = (ns.set i v).map .int := List.map_set.symm
theorem c_done (M : MdF m) : Cal m 2 "_law_done" 3 (fun ds d => ∃ (h : List Int) (e : Dd) (tk : List Int), ds = [tI h, eD e, tI tk] ∧ h.length = 8 ∧ e.In8 ∧ tkOk tk ∧ d = tI (doneL h e tk)) := by
  refine cal_of M (i := 58) (by decide) ["_law_cells_so", "_law_deed_so", "_law_takers_so", "_law_here", "_law_j"] ["_law_cells_so", "_law_deed_so", "_law_takers_so"] 1 3 _ (by decide +kernel) rfl (fun _ _ _ _ _ _ us hl => match us, hl with | [_, _, _], _ => rfl) fun ds d hn hh => ?_
  obtain ⟨h, e, tk, rfl, h8, i8, ⟨t1, t2⟩, rfl⟩ := hh
  refine s_setN 3 (listT (dc (va 0))) ?_
  cases e with
  | cp t0 a b =>
    obtain ⟨a0, a1, b0, b1⟩ := (show 0 ≤ a ∧ a < 8 ∧ 0 ≤ b ∧ b < 8 from i8)
    refine s_no (k := false) (tV (dc (call (c_is_write M) (aC (va 1) aN) ⟨.cp t0 a b, rfl, rfl⟩))) rfl ?_
    refine s_yes (k := true) (DT.cast (cmpT (eqS (dc (ixT (dc (va 1)) (dc cI) (d := .str "copy") rfl)) (dc cS))) rfl) rfl ?_
    refine s_setIx 3 (x0 (max2 (dc (ixL (vo 3) (dc (ixT (dc (va 1)) (dc cI) (d := .int b) rfl)) (atI_int b0 (by omega)))) (dc (ixL (vo 3) (dc (ixT (dc (va 1)) (dc cI) (d := .int a) rfl)) (atI_int a0 (by omega))))) ⟨h.map .int, b, b.toNat, rfl, ixT (dc (va 1)) (dc cI) (d := .int b) rfl, ixN8 b0 (by rw [List.length_map]; omega), ?_⟩)
    refine s_nil (s_no (k := false) (DT.cast (cmpT (eqS (dc (ixT (dc (va 1)) (dc cI) (d := .str "copy") rfl)) (dc cS))) rfl) rfl ?_)
    refine s_ret (tupL (vo 3)) ?_
    rw [map_set]
    rfl
  | pt t0 v o k =>
    refine s_if (k := true) (tV (dc (call (c_is_write M) (aC (va 1) aN) ⟨.pt t0 v o k, rfl, rfl⟩))) (fun _ => ?_) fun e => nomatch e
    refine s_for (js := [4]) (xs := tk) (enc := fun a => .int a) (iT (va 2)) (fun i δ' => ∃ s, δ' = [.va (tI h), .va (eD (.pt t0 v o k)), .va (tI tk), .ow (((tk.take i).foldl (fun h j => setJ h j v) h).map .int), s]) ⟨.un, rfl⟩ (fun i j δ' ha hI => ?_) fun δ' hI => ?_
    · obtain ⟨s, rfl⟩ := hI
      obtain ⟨j0, j1⟩ := t2 j (List.mem_of_getElem? ha)
      have len := foldJ_len v (tk.take i) h
      have tl : (tk.take (i + 1)).foldl (fun h j => setJ h j v) h = setJ ((tk.take i).foldl (fun h j => setJ h j v) h) j v := by
        rw [List.take_add_one, ha, List.foldl_append]
        rfl
      rw [tl]
      generalize (tk.take i).foldl (fun h j => setJ h j v) h = g at len
      refine ⟨_, gN 4, ?_⟩
      refine s_setIx 3 (x0 (max2 (dc (ixL (vo 3) (dc (va 4)) (atI_int j0 (by omega)))) (dc (ixT (dc (va 1)) (dc cI) (d := .int v) rfl))) ⟨g.map .int, j, j.toNat, rfl, va 4, ixN8 j0 (by rw [List.length_map]; omega), ?_⟩)
      refine s_nil ⟨.va (.int j), ?_⟩
      rw [map_set]
      rfl
    · obtain ⟨s, rfl⟩ := hI
      rw [List.take_length]
      refine s_nil (s_no (k := false) (DT.cast (cmpT (eqS (dc (ixT (dc (va 1)) (dc cI) (d := .str "put") rfl)) (dc cS))) rfl) rfl ?_)
      refine s_no (k := false) (DT.cast (cmpT (eqS (dc (ixT (dc (va 1)) (dc cI) (d := .str "put") rfl)) (dc cS))) rfl) rfl ?_
      exact s_ret (tupL (vo 3)) rfl
/-- a deed and its fate -/
def Fits : Dd → Fe → Prop
  | .cp .., none => True
  | .pt .., some _ => True
  | _, _ => False
theorem c_landing (M : MdF m) : Cal m 2 "_law_landing" 3 (fun ds d => ∃ (e : Dd) (f : Fe) (i : Int), ds = [eD e, eFe f, .int i] ∧ Fits e f ∧ d = .list []) := by
  refine cal_of M (i := 59) (by decide) ["_law_deed_so", "_law_share_so", "_law_hour_so", "_law_j", "_law_k"] ["_law_deed_so", "_law_share_so", "_law_hour_so"] 1 3 _ (by decide +kernel) rfl (fun _ _ _ _ _ _ us hl => match us, hl with | [_, _, _], _ => rfl) fun ds d hn hh => ?_
  obtain ⟨e, f, i, rfl, ft, rfl⟩ := hh
  cases e with
  | cp t0 a b =>
    cases f with
    | some c => exact (show False from ft).elim
    | none =>
      refine s_no (k := false) (tV (dc (call (c_is_write M) (aC (va 0) aN) ⟨.cp t0 a b, rfl, rfl⟩))) rfl ?_
      exact s_ret (vIf (k := false) (DT.cast (cmpT (inT (ns := []) (dc (va 2)) (dc (va 1)))) (by simp)) (fun e => nomatch e) fun _ => dne (dLst aN)) rfl
  | pt t0 v o k =>
    cases f with
    | none => exact (show False from ft).elim
    | some c =>
      refine s_yes (k := true) (tV (dc (call (c_is_write M) (aC (va 0) aN) ⟨.pt t0 v o k, rfl, rfl⟩))) rfl ?_
      exact s_ret (dne (lc (own := [("_law_j", 3), ("_law_k", 4)]) (js := [3] ++ [4]) (xs := ([] : List (Int × Int))) (enc := tP) (p := fun _ => true) (f := fun _ => .none) (δ2 := fun _ => []) ⟨iT (ixT (dc (va 1)) (dc cI) (d := .tuple []) rfl), by kernel_rfl, by decide, fun a h => (nomatch h), fun a h => (nomatch h), fun a h => (nomatch h), by decide⟩)) rfl
/-- the last state -/
def endA : List Dd → List Fe → List Int → List Int
  | [], _, h => h
  | d :: ds, fs, h => endA ds fs.tail (doneL h d ((fs.headD none).getD []))
def FitA : List Dd → List Fe → Prop
  | [], [] => True
  | d :: ds, f :: fs => Fits d f ∧ tkOk (f.getD []) ∧ FitA ds fs
  | _, _ => False
theorem FitA.len : ∀ {ds : List Dd} {fs : List Fe}, FitA ds fs → ds.length = fs.length
  | [], [], _ => rfl
  | d :: ds, f :: fs, h => by rw [List.length_cons, List.length_cons, FitA.len h.2.2]
  | [], _ :: _, h => (show False from h).elim
  | _ :: _, [], h => (show False from h).elim
theorem FitA.get : ∀ {ds : List Dd} {fs : List Fe} {i : Nat} {d : Dd}, FitA ds fs → ds[i]? = some d → ∃ f, fs[i]? = some f ∧ Fits d f ∧ tkOk (f.getD [])
  | [], [], i, d, _, e => by simp at e
  | x :: ds, f :: fs, 0, d, h, e => by
    cases e
    exact ⟨f, rfl, h.1, h.2.1⟩
  | x :: ds, f :: fs, i + 1, d, h, e => FitA.get (i := i) h.2.2 e
  | [], _ :: _, _, _, h, _ => (show False from h).elim
  | _ :: _, [], _, _, h, _ => (show False from h).elim
theorem endA_snoc : ∀ (a : List Dd) (d : Dd) (fs : List Fe) (h : List Int), endA (a ++ [d]) fs h = doneL (endA a fs h) d (((fs.drop a.length).headD none).getD [])
  | [], d, fs, h => rfl
  | x :: a, d, fs, h => by
    rw [List.cons_append, endA, endA, endA_snoc a, List.length_cons]
    simp
theorem endA_len : ∀ (a : List Dd) (fs : List Fe) (h : List Int), (endA a fs h).length = h.length
  | [], fs, h => rfl
  | x :: a, fs, h => by rw [endA, endA_len a, doneL_len]
def bearV : Dd → Int
  | .cp .. => 0
  | .pt _ v _ _ => v
abbrev zeros : List Int := List.replicate 8 0
theorem c_played (M : MdF m) : Cal m 3 "_law_played" 2 (fun ds d => ∃ (page : List Dd) (fate : List Fe), ds = [eB page, eFt fate] ∧ page.length ≤ 1000 ∧ FitA page fate ∧ (∀ e ∈ page, e.In8) ∧ d = .list ((List.range (page.length + 1)).map fun i => tI (endA (page.take i) fate zeros))) := by
  refine cal_of M (i := 60) (by decide) ["_law_leaf", "_law_fate", "_law_here", "_law_bears_so", "_law_found", "_law_n", "_law_deed_so", "_law_write_so", "_law_now_so", "_law_m", "_law_j"] ["_law_leaf", "_law_fate"] 2 2 _ (by decide +kernel) rfl (fun _ _ _ _ _ _ us hl => match us, hl with | [_, _], _ => rfl) fun ds d hn hh => ?_
  obtain ⟨page, fate, rfl, hp, hf, hi, rfl⟩ := hh
  refine s_par 2 3 (s1 := .va (tI zeros)) (s2 := .ow []) (DP.cast (repT (k := 8) (dc (dTup (aC cI aN))) (dc (ixT (dc (va 0)) (dc cI) (d := .int 8) rfl)) (by simp) (by decide) (by decide) (by simp)) rfl) (dLst aN) ?_
  refine s_setN 4 (dLst (aC (va 2) aN)) ?_
  refine s_for (js := [5] ++ [6]) (xs := page.zipIdx) (enc := fun q => .tuple [.int (q.2 : Int), eD q.1]) (DI.cast' (iET (ixT (dc (va 0)) (dc cI) (d := .tuple (page.map eD)) rfl)) enum_eD) (fun i δ' => ∃ (bs : List Int) (s5 s6 s7 s8 s9 s10 : Sl), bs.length = i ∧ δ' = [.va (eB page), .va (eFt fate), .va (tI (endA (page.take i) fate zeros)), .ow (bs.map .int), .ow ((List.range (i + 1)).map fun i => tI (endA (page.take i) fate zeros)), s5, s6, s7, s8, s9, s10]) ⟨[], .un, .un, .un, .un, .un, .un, rfl, rfl⟩ (fun i q δ' ha hI => ?_) fun δ' hI => ?_
  · obtain ⟨bs, s5, s6, s7, s8, s9, s10, hb, rfl⟩ := hI
    obtain ⟨e, k⟩ := q
    have ek : k = i := by
      rw [List.getElem?_zipIdx] at ha
      obtain ⟨x, _, e⟩ := Option.map_eq_some_iff.mp ha
      have := (Prod.mk.inj e).2
      omega
    subst ek
    have hq : page[k]? = some e := List.mem_zipIdx_iff_getElem?.mp (List.mem_of_getElem? ha)
    have lt := lt_of_get hq
    have i8 := hi e (List.mem_of_getElem? hq)
    obtain ⟨f, hfk, ft, tk⟩ := hf.get hq
    have tp : page.take (k + 1) = page.take k ++ [e] := by rw [List.take_add_one, hq]; rfl
    have hd : (fate.drop (page.take k).length).headD none = f := by
      rw [List.length_take, Nat.min_eq_left (by omega), List.drop_eq_getElem_cons (lt_of_get hfk)]
      rw [List.getElem?_eq_getElem (lt_of_get hfk)] at hfk
      exact Option.some.inj hfk
    have nx : endA (page.take (k + 1)) fate zeros = doneL (endA (page.take k) fate zeros) e (f.getD []) := by rw [tp, endA_snoc, hd]
    have el := endA_len (page.take k) fate zeros
    have range : (List.range (k + 1 + 1)).map (fun i => tI (endA (page.take i) fate zeros)) = ((List.range (k + 1)).map fun i => tI (endA (page.take i) fate zeros)) ++ [tI (endA (page.take (k + 1)) fate zeros)] := by
      rw [List.range_succ, List.map_append]
      rfl
    rw [range]
    rw [nx]
    have fl : ((List.range (k + 1)).map (fun i => tI (endA (page.take i) fate zeros))).length ≤ 1001 := by rw [List.length_map, List.length_range]; omega
    generalize endA (page.take k) fate zeros = h at el
    generalize (List.range (k + 1)).map (fun i => tI (endA (page.take i) fate zeros)) = fnd at fl
    have el : h.length = 8 := el
    refine ⟨_, gT2 (gN 5) (gN 6), ?_⟩
    refine s_set 7 (call (c_is_write M) (aC (va 6) aN) ⟨e, rfl, rfl⟩) ?_
    refine s_app (ds := bs.map .int) (d := .int (bearV e)) 3 ?_ ?_ (by rw [List.length_map]; omega)
    · cases e with
      | cp t0 x y => exact vIf (k := false) (tV (dc (va 7))) (fun e => nomatch e) fun _ => vIf (k := false) (DT.cast (cmpT (eqS (dc (ixT (dc (va 6)) (dc cI) (d := .str "copy") rfl)) (dc cS))) rfl) (fun e => nomatch e) fun _ => cI
      | pt t0 v o kin => exact vIf (k := true) (tV (dc (va 7))) (fun _ => ixT (dc (va 6)) (dc cI) (d := .int v) rfl) fun e => nomatch e
    have bz : bs.map PyData.int ++ [.int (bearV e)] = (bs ++ [(bearV e)]).map .int := by rw [List.map_append]; rfl
    rw [bz]
    refine s_setN (ds := (doneL h e (f.getD [])).map .int) 8 (listT (dc (call (c_done M) (aC (va 2) (aC (va 6) (aC (d := tI (f.getD [])) ?_ aN))) ⟨h, e, f.getD [], rfl, el, i8, tk, rfl⟩))) ?_
    · cases e with
      | cp t0 x y =>
        cases f with
        | some c => exact (show False from ft).elim
        | none => exact vIf (k := false) (tV (dc (va 7))) (fun e => nomatch e) fun _ => dTup aN
      | pt t0 v o kin =>
        cases f with
        | none => exact (show False from ft).elim
        | some c => exact vIf (k := true) (tV (dc (va 7))) (fun _ => ixT (dc (ixT (dc (va 1)) (dc (va 5)) (d := eFe (some c)) (atI_get (by rw [List.getElem?_map, hfk]; rfl)))) (dc cI) (d := tI c) rfl) fun e => nomatch e
    refine s_for (js := [9]) (xs := List.range (k + 1)) (enc := fun (j : Nat) => .int (j : Int)) (iRn (n := k + 1) (dc (DP.cast (addI (dc (va 5)) (dc cI)) (show PyData.int ((k : Int) + 1) = .int ((k + 1 : Nat) : Int) by rw [Int.natCast_add]; rfl))) (by omega)) (fun _ δ' => ∃ s9 s10, δ' = [.va (eB page), .va (eFt fate), .va (tI h), .ow ((bs ++ [(bearV e)]).map .int), .ow fnd, .va (.int (k : Int)), .va (eD e), .va (.bool e.isPt), .ow ((doneL h e (f.getD [])).map .int), s9, s10]) ⟨s9, s10, rfl⟩ (fun l j δ' hj hI => ?_) fun δ' hI => ?_
    · obtain ⟨s9, s10, rfl⟩ := hI
      have lj : l < k + 1 := by
        have := lt_of_get hj
        rwa [List.length_range] at this
      have ej : j = l := by
        rw [List.getElem?_range lj] at hj
        exact (Option.some.inj hj).symm
      subst ej
      have hm : page[j]? = some (page[j]'(by omega)) := List.getElem?_eq_getElem (by omega)
      obtain ⟨fm, hfm, ftm, _⟩ := hf.get hm
      refine ⟨_, gN 9, ?_⟩
      refine s_for (js := [10]) (xs := ([] : List Int)) (enc := fun a => .int a) (iL (call (c_landing M) (aC (ixT (dc (ixT (dc (va 0)) (dc cI) (d := .tuple (page.map eD)) rfl)) (dc (va 9)) (d := eD (page[j]'(by omega))) (atI_get (by rw [List.getElem?_map, hm]; rfl))) (aC (ixT (dc (va 1)) (dc (va 9)) (d := eFe fm) (atI_get (by rw [List.getElem?_map, hfm]; rfl))) (aC (addI (dc (va 5)) (dc cI)) aN))) ⟨_, fm, _, rfl, ftm, rfl⟩)) (fun _ δ' => δ' = [.va (eB page), .va (eFt fate), .va (tI h), .ow ((bs ++ [(bearV e)]).map .int), .ow fnd, .va (.int (k : Int)), .va (eD e), .va (.bool e.isPt), .ow ((doneL h e (f.getD [])).map .int), .va (.int (j : Int)), s10]) rfl (fun i a δ' h _ => (by simp at h)) fun δ' hI => ?_
      subst hI
      exact s_nil ⟨_, _, rfl⟩
    · obtain ⟨s9, s10, rfl⟩ := hI
      refine s_set 2 (tupL (vo 8)) ?_
      refine s_app (ds := fnd) 4 (va 2) ?_ (by omega)
      exact s_nil ⟨bs ++ [_], _, _, _, _, _, _, by rw [List.length_append, hb]; rfl, rfl⟩
  · obtain ⟨bs, s5, s6, s7, s8, s9, s10, hb, rfl⟩ := hI
    rw [List.length_zipIdx]
    refine s_frz 4 ?_
    exact s_ret (va 4) rfl
end DL
set_option Elab.async false
set_option linter.all false
set_option maxRecDepth 100000
set_option maxHeartbeats 2000000
namespace DL
open PySem PySem.Spec PyProof.Rows L2
variable {m : Md}
/-! ### draws -/
theorem RlT.at {q : Addr} {a b c below : Int} {d : PyData} {w' : Obd} (h : RlT [tin q a b c, .va (.int below)] d [.ob q w', .un]) : ∃ r a' c', d = .int r ∧ 0 ≤ r ∧ r < below ∧ w' = .l [.int a', .int b, .int c'] ∧ 0 ≤ c' ∧ c' ≤ c + 1 := by
  obtain ⟨q', a0, b0, c0, l0, e, r, a', c', h1, h2, h3, h4, h5, h6⟩ := h
  simp only [List.cons.injEq, Sl.ob.injEq, Obd.l.injEq, Sl.va.injEq, PyData.int.injEq, and_true, true_and] at e h4
  obtain ⟨⟨rfl, rfl, rfl, rfl⟩, rfl⟩ := e
  exact ⟨r, a', c', h1, h2, h3, h4.2, h5, h6⟩
/-- take(tin, n) in a store with the three at slot i -/
theorem xTake {G : Gm} {δ : Sto} {Ps : PsE} {e : Expr} {y : Str} {p p2 pos : Pos} {q : Addr} {a b c : Int} {n : Int} (M : MdF G.m) (i : Nat) (hi : δ[i]? = some (tin q a b c)) (he : DE G e δ (.int n)) (h0 : 0 < n) (h1 : n < 1000000) (ok : TinOk b c) (hP : ∀ r a' c', 0 ≤ r → r < n → 0 ≤ c' → c' ≤ c + 1 → Ps (δ.set i (tin q a' b c')) (.int r))
    (hk : 1 ≤ G.k := by exact Nat.le_of_ble_eq_true rfl) (hg : G.sc.names.lookup ("_law_take" : Str) = some .globalImplicit := by rfl) (hN : G.N[i]? = some y := by rfl) (hv : Vis G.sc y := by first | exact Or.inl rfl | exact Or.inr (Or.inl rfl) | exact Or.inr (Or.inr rfl)) (hd : (y == ("__debug__" : Str)) = false := by decide) (hcd : (y == ("__classdict__" : Str)) = false := by decide)
    (hs : ∀ env, starEach [.Name y p2, e] env = (false, eval (.Name y p2) env) :: starEach [e] env := by intro _; rfl) (hse : ∀ env, starEach [e] env = (false, eval e env) :: starEach [] env := by intro _; rfl) (hpl : ∀ env, (backTo pos (starEach [e] env)).any (·.1) = false := by intro _; rfl) : DX G (.Call (.Name "_law_take" p) [.Name y p2, e] [] pos) δ Ps :=
  x_call1 (c_take M) i hi (xaC (Pr := fun δ1 ds => δ1 = δ ∧ ds = [.int n]) (x0 he (xa0 ⟨rfl, rfl⟩)) hse) (fun δ1 ds h => by
    obtain ⟨rfl, rfl⟩ := h
    refine ⟨_, hi, rfl, ⟨q, a, b, c, n, rfl, ok, h0, h1⟩, fun d w' hR => ?_⟩
    obtain ⟨r, a', c', rfl, r0, r1, rfl, c0, c1⟩ := RlT.at hR
    exact hP r a' c' r0 r1 c0 c1) hk hg hN hv (by decide) hd hcd hs hpl
def PrO : List Sl → Prop := fun as => ∃ q a b c gs, as = [tin q a b c, .va (lI gs)] ∧ TinOk b c ∧ gs ≠ [] ∧ gs.length < 1000
def RlO : RelO := fun as d as' => ∃ q a b c gs, as = [tin q a b c, .va (lI gs)] ∧ ∃ x a' c', d = .int x ∧ x ∈ gs ∧ as' = [tin q a' b c', .un] ∧ 0 ≤ c' ∧ c' ≤ c + 1
theorem c_of (M : MdF m) : CalO m 2 "_law_of" 2 PrO RlO := by
  refine calO_of M (i := 49) (by decide) ["_law_tin", "_law_goods_so"] ["_law_tin", "_law_goods_so"] 1 2 _ _ (by decide +kernel) rfl (fun _ _ _ _ _ _ us hl => match us, hl with | [_, _], _ => rfl) fun as hn hP hA => ?_
  obtain ⟨q, a, b, c, gs, rfl, ok, ne, hl⟩ := hP
  have pos : 0 < gs.length := List.length_pos_iff.mpr ne
  refine s_retX (xIxL (ds := gs.map .int) (dc (va 1)) (va 1) (xTake M 0 rfl (DP.cast (lenL (dc (va 1))) (by rw [List.length_map])) (by omega) (by omega) ok (fun r a' c' r0 r1 c0 c1 => ?_)))
  refine ⟨r, _, rfl, atI_int r0 (by omega), _, outT, q, a, b, c, gs, rfl, _, a', c', rfl, ?_, rfl, c0, c1⟩
  rw [List.getD_eq_getElem?_getD, List.getElem?_eq_getElem (show r.toNat < gs.length by omega)]
  exact List.getElem_mem _
theorem RlO.at {q : Addr} {a b c : Int} {gs : List Int} {d : PyData} {w' : Obd} (h : RlO [tin q a b c, .va (lI gs)] d [.ob q w', .un]) : ∃ x a' c', d = .int x ∧ x ∈ gs ∧ w' = .l [.int a', .int b, .int c'] ∧ 0 ≤ c' ∧ c' ≤ c + 1 := by
  obtain ⟨q', a0, b0, c0, l0, e, r, a', c', h1, h2, h4, h5, h6⟩ := h
  simp only [List.cons.injEq, Sl.ob.injEq, Obd.l.injEq, Sl.va.injEq, PyData.int.injEq, PyData.list.injEq, and_true, true_and] at e h4
  obtain ⟨⟨rfl, rfl, rfl, rfl⟩, e2⟩ := e
  have e2 := ints_inj e2
  subst e2
  exact ⟨r, a', c', h1, h2, h4.2, h5, h6⟩
def PrK : List Sl → Prop := fun as => ∃ q a b c gs n, as = [tin q a b c, .va (lI gs), .va (.int n)] ∧ TinOk b (c + 20) ∧ 0 ≤ c ∧ 0 ≤ n ∧ gs.length ≤ 10
/-- what pick gives -/
def Pkd (gs : List Int) (n : Int) (ms : List Int) : Prop := ∃ rest : List Int, (ms ++ rest).Perm gs ∧ (ms.length : Int) = if n < gs.length then n else gs.length
def RlK : RelO := fun as d as' => ∃ q a b c gs n, as = [tin q a b c, .va (lI gs), .va (.int n)] ∧ ∃ ms a' c', d = lI ms ∧ Pkd gs n ms ∧ as' = [tin q a' b c', .un, .un] ∧ 0 ≤ c' ∧ c' ≤ c + 10
theorem outK {q : Addr} {w w' : Obd} {d d2 : PyData} {r : List Sl} : outA [.ob q w, .va d, .va d2] (.ob q w' :: r) [.ob q w', .un, .un] := by
  refine ⟨⟨rfl, fun i => ?_⟩, fun i p o h => ?_⟩
  · match i with
    | 0 => exact .inl ⟨_, _, _, rfl, rfl⟩
    | 1 => exact .inr ⟨fun p o h => (nomatch h), .inl rfl⟩
    | 2 => exact .inr ⟨fun p o h => (nomatch h), .inl rfl⟩
    | i + 3 => exact .inr ⟨fun p o h => (by simp at h), .inr (by simp)⟩
  · match i, h with
    | 0, h => cases h; rfl
    | 1, h => cases h
    | 2, h => cases h
    | i + 3, h => simp at h
theorem eraseIdx_map' {α β : Type} (f : α → β) : ∀ (l : List α) (i : Nat), (l.map f).eraseIdx i = (l.eraseIdx i).map f
  | [], _ => rfl
  | _ :: _, 0 => rfl
  | x :: l, i + 1 => congrArg (f x :: ·) (eraseIdx_map' f l i)
theorem perm_pick {ms rest gs : List Int} {k : Nat} {x : Int} (h : (ms ++ rest).Perm gs) (hk : rest[k]? = some x) : ((ms ++ [x]) ++ rest.eraseIdx k).Perm gs := by
  refine List.Perm.trans ?_ h
  rw [List.append_assoc]
  refine List.Perm.append_left ms ?_
  exact L2.erase_perm rest k x hk
theorem c_pick (M : MdF m) : CalO m 2 "_law_pick" 3 PrK RlK := by
  refine calO_of M (i := 50) (by decide) ["_law_tin", "_law_goods_so", "_law_count_so", "_law_pool_so", "_law_found", "_law_lap"] ["_law_tin", "_law_goods_so", "_law_count_so"] 1 3 _ _ (by decide +kernel) rfl (fun _ _ _ _ _ _ us hl => match us, hl with | [_, _, _], _ => rfl) fun as hn hP hA => ?_
  obtain ⟨q, a, b, c, gs, n, rfl, ⟨b0, b1, c0, c1⟩, cz, n0, hl⟩ := hP
  refine s_par 3 4 (s1 := .ow (gs.map .int)) (s2 := .ow []) (listL (dc (va 1))) (dLst aN) ?_
  obtain ⟨k, hk⟩ : ∃ k : Nat, (k : Int) = if n < gs.length then n else gs.length := ⟨(if n < (gs.length : Int) then n else gs.length).toNat, by split <;> omega⟩
  have kle : k ≤ gs.length := by
    have : (k : Int) ≤ gs.length := by rw [hk]; split <;> omega
    omega
  refine s_for (js := [5]) (xs := List.range k) (enc := fun (k : Nat) => .int (k : Int)) (iRn (n := k) (dc (DP.cast (min2 (dc (intI (dc (va 2)))) (dc (lenL (vo 3)))) (by rw [List.length_map, hk]; congr 1; split <;> split <;> omega))) (by omega)) (fun i δ' => ∃ a' c' ms rest s, δ' = [tin q a' b c', .va (lI gs), .va (.int n), .ow (rest.map .int), .ow (ms.map .int), s] ∧ (ms ++ rest).Perm gs ∧ ms.length = i ∧ 0 ≤ c' ∧ c' ≤ c + i) ⟨a, c, [], gs, .un, rfl, by simp, rfl, by omega, by omega⟩ (fun i j δ' ha hI => ?_) fun δ' hI => ?_
  · obtain ⟨a', c', ms, rest, s, rfl, pm, lm, c2, c3⟩ := hI
    have lj : i < k := by
      have := lt_of_get ha
      rwa [List.length_range] at this
    have pl := pm.length_eq
    rw [List.length_append] at pl
    refine ⟨_, gN 5, ?_⟩
    refine s_appX 4 (q := fun _ => True) ⟨_, rfl⟩ (xPop 3 ⟨_, rfl⟩ (xTake M 0 rfl (DP.cast (lenL (vo 3)) (by rw [List.length_map])) (by omega) (by omega) ⟨b0, b1, by omega, by omega⟩ (fun r a2 c2' r0 r1 d0 d1 => ?_)))
    have rl : r.toNat < rest.length := by omega
    have hx : rest[r.toNat]? = some (rest[r.toNat]'rl) := List.getElem?_eq_getElem rl
    refine ⟨rest.map .int, r.toNat, .int (rest[r.toNat]'rl), by rw [show (r.toNat : Int) = r by omega], rfl, by rw [List.getElem?_map, hx]; rfl, by rw [List.length_map]; omega, ms.map .int, rfl, by rw [List.length_map]; omega, ?_⟩
    refine s_nil ⟨a2, c2', ms ++ [rest[r.toNat]'rl], rest.eraseIdx r.toNat, .va (.int (j : Int)), ?_, perm_pick pm hx, by rw [List.length_append, lm]; rfl, d0, by omega⟩
    rw [List.map_append]
    show [_, _, _, Sl.ow ((rest.map PyData.int).eraseIdx r.toNat), _, _] = _
    rw [eraseIdx_map']
    rfl
  · obtain ⟨a', c', ms, rest, s, rfl, pm, lm, c2, c3⟩ := hI
    rw [List.length_range] at lm c3
    refine s_frz 4 ?_
    exact s_ret (va 4) ⟨_, outK, q, a, b, c, gs, n, rfl, ms, a', c', rfl, ⟨rest, pm, by rw [lm, hk]⟩, rfl, c2, by omega⟩
end DL
set_option Elab.async false
set_option linter.all false
set_option maxRecDepth 100000
set_option maxHeartbeats 2000000
namespace DL
open PySem PySem.Spec PyProof.Rows L2
variable {m : Md}
/-! ### moves at random -/
structure OldOk (l : List Int) : Prop where
  pw : l.Pairwise (· < ·)
  rg : ∀ p ∈ l, 0 ≤ p ∧ p < 8
  lo : 2 ≤ l.length
  hi : l.length ≤ 3
structure GoodS (s : Sh) : Prop where
  o : OldOk s.old
  n : OldOk s.new
  e : s.old.length = s.new.length
  cz : s.cp.length ≤ 2
  cu : ∀ c ∈ s.cp, c.1 ≠ c.2 ∧ 0 ≤ c.1 ∧ c.1 < 8 ∧ 0 ≤ c.2 ∧ c.2 < 8
theorem lt_nodup {l : List Int} (h : l.Pairwise (· < ·)) : l.Nodup := h.imp fun h => by omega
theorem srt_perm (l : List Int) : (srt l).Perm l := List.mergeSort_perm _ _
theorem srt_lt {l : List Int} (h : l.Nodup) : (srt l).Pairwise (· < ·) := by
  have h1 : (srt l).Pairwise fun a b => decide (a ≤ b) = true := List.pairwise_mergeSort (le := fun a b : Int => decide (a ≤ b)) (fun a b c h1 h2 => by simp at h1 h2 ⊢; omega) (fun a b => by simp; omega) l
  have h2 : (srt l).Nodup := (srt_perm l).nodup_iff.mpr h
  exact (h1.and h2).imp fun ⟨a, b⟩ => by
    simp at a
    omega
/-- the pool of the ones that are not there -/
def poolL (olds : List Int) : List Int := (((List.range 8).map fun (k : Nat) => (k : Int))).filter fun j => !decide (j ∈ olds)
theorem mem_poolL {olds : List Int} {j : Int} : j ∈ poolL olds ↔ (0 ≤ j ∧ j < 8) ∧ ¬ j ∈ olds := by
  unfold poolL
  rw [List.mem_filter, List.mem_map]
  constructor
  · rintro ⟨⟨k, hk, rfl⟩, h⟩
    have := List.mem_range.mp hk
    exact ⟨by omega, by simpa using h⟩
  · rintro ⟨h, h2⟩
    exact ⟨⟨j.toNat, List.mem_range.mpr (by omega), by omega⟩, by simpa using h2⟩
theorem r8_nodup : ((List.range 8).map fun (k : Nat) => (k : Int)).Nodup := by decide
theorem poolL_nodup (olds : List Int) : (poolL olds).Nodup := r8_nodup.filter _
theorem filter_nin_len {l o : List Int} (hl : l.Nodup) (ho : o.Nodup) : l.length ≤ (l.filter fun j => !decide (j ∈ o)).length + o.length := by
  have h1 : ∀ j ∈ l, j ∈ (l.filter fun j => !decide (j ∈ o)) ++ o := fun j hj => by
    by_cases h : j ∈ o
    · exact List.mem_append_right _ h
    · exact List.mem_append_left _ (List.mem_filter.mpr ⟨hj, by simpa using h⟩)
  have := nodup_sub hl h1
  rwa [List.length_append] at this
theorem poolL_len {olds : List Int} (h : OldOk olds) : 5 ≤ (poolL olds).length := by
  have := filter_nin_len (l := (List.range 8).map fun (k : Nat) => (k : Int)) r8_nodup (lt_nodup h.pw)
  have h2 := h.hi
  simp only [List.length_map, List.length_range] at this
  unfold poolL
  omega
theorem poolL_hi (olds : List Int) : (poolL olds).length ≤ 8 := Nat.le_trans (List.length_filter_le _ _) (by simp)
def newsL (olds outs ins : List Int) : List Int := srt ((olds.filter fun j => !decide (j ∈ outs)) ++ ins)
theorem news_ok {olds outs ins : List Int} {n k : Int} (h : OldOk olds) (n2 : n ≤ 2) (h1 : Pkd olds n outs) (hk : k = outs.length) (h2 : Pkd (poolL olds) k ins) : OldOk (newsL olds outs ins) ∧ olds.length = (newsL olds outs ins).length ∧ outs.length ≤ 2 ∧ ins.length = outs.length := by
  obtain ⟨r1, p1, l1⟩ := h1
  obtain ⟨r2, p2, l2⟩ := h2
  have pl := poolL_len h
  have lo := h.lo
  have hi := h.hi
  have ol : outs.length ≤ 2 := by
    have : (outs.length : Int) ≤ 2 := by rw [l1]; split <;> omega
    omega
  have il : ins.length = outs.length := by
    have : (ins.length : Int) = outs.length := by rw [l2, hk]; split <;> omega
    omega
  have nd : (outs ++ r1).Nodup := p1.nodup_iff.mpr (lt_nodup h.pw)
  obtain ⟨nd1, nd2, nd3⟩ := List.nodup_append.mp nd
  have pf : (olds.filter fun j => !decide (j ∈ outs)).Perm r1 := by
    have := (p1.filter fun j => !decide (j ∈ outs)).symm
    rw [List.filter_append] at this
    rw [show outs.filter (fun j => !decide (j ∈ outs)) = [] from List.filter_eq_nil_iff.mpr fun a ha => by simp [ha], List.nil_append] at this
    rw [show r1.filter (fun j => !decide (j ∈ outs)) = r1 from List.filter_eq_self.mpr fun a ha => by
      simp only [Bool.not_eq_true', decide_eq_false_iff_not]
      exact fun z => nd3 a z a ha rfl] at this
    exact this
  have ndp : (ins ++ r2).Nodup := p2.nodup_iff.mpr (poolL_nodup olds)
  have im : ∀ j ∈ ins, (0 ≤ j ∧ j < 8) ∧ ¬ j ∈ olds := fun j hj => mem_poolL.mp (p2.mem_iff.mp (List.mem_append_left _ hj))
  have om : ∀ j ∈ r1, j ∈ olds := fun j hj => p1.mem_iff.mp (List.mem_append_right _ hj)
  have nda : ((olds.filter fun j => !decide (j ∈ outs)) ++ ins).Nodup := by
    rw [List.nodup_append]
    refine ⟨(lt_nodup h.pw).filter _, (List.nodup_append.mp ndp).1, fun a ha b hb e => ?_⟩
    subst e
    exact (im a hb).2 (List.mem_filter.mp ha).1
  have sp := srt_perm ((olds.filter fun j => !decide (j ∈ outs)) ++ ins)
  have le : olds.length = (newsL olds outs ins).length := by
    have a1 := p1.length_eq
    have a2 := pf.length_eq
    have a3 := sp.length_eq
    rw [List.length_append] at a1 a3
    unfold newsL
    omega
  refine ⟨⟨srt_lt nda, fun p hp => ?_, by omega, by omega⟩, le, ol, il⟩
  rcases List.mem_append.mp (sp.mem_iff.mp hp) with hp | hp
  · exact h.rg p (List.mem_filter.mp hp).1
  · exact (im p hp).1
theorem zip_unlike {olds outs ins : List Int} {n k : Int} (h : OldOk olds) (h1 : Pkd olds n outs) (h2 : Pkd (poolL olds) k ins) : ∀ c ∈ outs.zip ins, c.1 ∈ olds ∧ c.2 ∈ poolL olds := fun c hc => by
  obtain ⟨r1, p1, _⟩ := h1
  obtain ⟨r2, p2, _⟩ := h2
  have := List.of_mem_zip hc
  exact ⟨p1.mem_iff.mp (List.mem_append_left _ this.1), p2.mem_iff.mp (List.mem_append_left _ this.2)⟩
theorem unlike {olds : List Int} (h : OldOk olds) {c : Int × Int} (h1 : c.1 ∈ olds) (h2 : c.2 ∈ poolL olds) : c.1 ≠ c.2 ∧ 0 ≤ c.1 ∧ c.1 < 8 ∧ 0 ≤ c.2 ∧ c.2 < 8 := by
  have a := mem_poolL.mp h2
  have b := h.rg _ h1
  exact ⟨fun e => a.2 (e ▸ h1), by omega, by omega, by omega, by omega⟩
theorem RlK.at {q : Addr} {a b c n : Int} {gs : List Int} {d : PyData} {w' : Obd} (h : RlK [tin q a b c, .va (lI gs), .va (.int n)] d [.ob q w', .un, .un]) : ∃ ms a' c', d = lI ms ∧ Pkd gs n ms ∧ w' = .l [.int a', .int b, .int c'] ∧ 0 ≤ c' ∧ c' ≤ c + 10 := by
  obtain ⟨q', a0, b0, c0, l0, n0, e, r, a', c', h1, h2, h4, h5, h6⟩ := h
  simp only [List.cons.injEq, Sl.ob.injEq, Obd.l.injEq, Sl.va.injEq, PyData.int.injEq, PyData.list.injEq, and_true, true_and] at e h4
  obtain ⟨⟨rfl, rfl, rfl, rfl⟩, e2, rfl⟩ := e
  have e2 := ints_inj e2
  subst e2
  exact ⟨r, a', c', h1, h2, h4.2, h5, h6⟩
/-- pick(tin, e, e2) -/
theorem xPick {G : Gm} {δ : Sto} {Ps : PsE} {e e2 : Expr} {y : Str} {p p2 pos : Pos} {q : Addr} {a b c : Int} {gs : List Int} (M : MdF G.m) (i : Nat) (hi : δ[i]? = some (tin q a b c)) (he : DN G e δ (gs.map .int)) (hz : gs.length ≤ 10)
    (hn : DX G e2 δ fun δ1 d => ∃ a1 c1 n, δ1 = δ.set i (tin q a1 b c1) ∧ d = .int n ∧ 0 ≤ n ∧ 0 ≤ c1 ∧ c1 ≤ c + 1 ∧ ∀ ms a' c', Pkd gs n ms → 0 ≤ c' → c' ≤ c + 11 → Ps (δ.set i (tin q a' b c')) (lI ms)) (c0 : 0 ≤ c) (ok : TinOk b (c + 21))
    (hk : 2 ≤ G.k := by exact Nat.le_of_ble_eq_true rfl) (hg : G.sc.names.lookup ("_law_pick" : Str) = some .globalImplicit := by rfl) (hN : G.N[i]? = some y := by rfl) (hv : Vis G.sc y := by first | exact Or.inl rfl | exact Or.inr (Or.inl rfl) | exact Or.inr (Or.inr rfl)) (hd : (y == ("__debug__" : Str)) = false := by decide) (hcd : (y == ("__classdict__" : Str)) = false := by decide)
    (hs : ∀ env, starEach [.Name y p2, e, e2] env = (false, eval (.Name y p2) env) :: starEach [e, e2] env := by intro _; rfl) (hse : ∀ env, starEach [e, e2] env = (false, eval e env) :: starEach [e2] env := by intro _; rfl) (hse2 : ∀ env, starEach [e2] env = (false, eval e2 env) :: starEach [] env := by intro _; rfl) (hpl : ∀ env, (backTo pos (starEach [e, e2] env)).any (·.1) = false := by intro _; rfl) : DX G (.Call (.Name "_law_pick" p) [.Name y p2, e, e2] [] pos) δ Ps :=
  x_call1 (c_pick M) i hi (Pr := fun δ1 ds => ∃ a1 c1 n, δ1 = δ.set i (tin q a1 b c1) ∧ ds = [lI gs, .int n] ∧ 0 ≤ n ∧ 0 ≤ c1 ∧ c1 ≤ c + 1 ∧ ∀ ms a' c', Pkd gs n ms → 0 ≤ c' → c' ≤ c + 11 → Ps (δ.set i (tin q a' b c')) (lI ms)) (xaC (x0 (dne he) (xaC (hn.imp fun δ1 d ⟨a1, c1, n, h1, h2, h3, h4, h5, h6⟩ => xa0 ⟨a1, c1, n, h1, by rw [h2], h3, h4, h5, h6⟩) hse2)) hse) (fun δ1 ds h => by
    obtain ⟨a1, c1, n, rfl, rfl, n0, z0, z1, h⟩ := h
    refine ⟨_, get_set_at (lt_of_get hi), rfl, ⟨q, a1, b, c1, gs, n, rfl, ⟨ok.1, ok.2.1, by omega, by have := ok.2.2.2; omega⟩, z0, n0, hz⟩, fun d w' hR => ?_⟩
    obtain ⟨ms, a', c', rfl, pk, rfl, d0, d1⟩ := RlK.at hR
    rw [List.set_set]
    exact h ms a' c' pk d0 (by omega)) hk hg hN hv (by decide) hd hcd hs hpl
def PrN : List Sl → Prop := fun as => ∃ q a b c olds, as = [tin q a b c, .va (tI olds)] ∧ TinOk b (c + 60) ∧ 0 ≤ c ∧ OldOk olds
def RlN : RelO := fun as d as' => ∃ q a b c olds, as = [tin q a b c, .va (tI olds)] ∧ ∃ s a' c', d = eS s ∧ s.old = olds ∧ GoodS s ∧ as' = [tin q a' b c', .un] ∧ 0 ≤ c' ∧ c' ≤ c + 50
theorem RlN.at {q : Addr} {a b c : Int} {olds : List Int} {d : PyData} {w' : Obd} (h : RlN [tin q a b c, .va (tI olds)] d [.ob q w', .un]) : ∃ s a' c', d = eS s ∧ s.old = olds ∧ GoodS s ∧ w' = .l [.int a', .int b, .int c'] ∧ 0 ≤ c' ∧ c' ≤ c + 50 := by
  obtain ⟨q', a0, b0, c0, l0, e, r, a', c', h1, h2, h3, h4, h5, h6⟩ := h
  simp only [List.cons.injEq, Sl.ob.injEq, Obd.l.injEq, Sl.va.injEq, PyData.int.injEq, PyData.tuple.injEq, and_true, true_and] at e h4
  obtain ⟨⟨rfl, rfl, rfl, rfl⟩, e2⟩ := e
  have e2 := ints_inj e2
  subst e2
  exact ⟨r, a', c', h1, h2, h3, h4.2, h5, h6⟩
theorem xOf {G : Gm} {δ : Sto} {Ps : PsE} {e : Expr} {y : Str} {p p2 pos : Pos} {q : Addr} {a b c : Int} {gs : List Int} (M : MdF G.m) (i : Nat) (hi : δ[i]? = some (tin q a b c)) (he : DN G e δ (gs.map .int)) (hz : gs.length < 1000) (ne : gs ≠ []) (ok : TinOk b c) (hP : ∀ x a' c', x ∈ gs → 0 ≤ c' → c' ≤ c + 1 → Ps (δ.set i (tin q a' b c')) (.int x))
    (hk : 2 ≤ G.k := by exact Nat.le_of_ble_eq_true rfl) (hg : G.sc.names.lookup ("_law_of" : Str) = some .globalImplicit := by rfl) (hN : G.N[i]? = some y := by rfl) (hv : Vis G.sc y := by first | exact Or.inl rfl | exact Or.inr (Or.inl rfl) | exact Or.inr (Or.inr rfl)) (hd : (y == ("__debug__" : Str)) = false := by decide) (hcd : (y == ("__classdict__" : Str)) = false := by decide)
    (hs : ∀ env, starEach [.Name y p2, e] env = (false, eval (.Name y p2) env) :: starEach [e] env := by intro _; rfl) (hse : ∀ env, starEach [e] env = (false, eval e env) :: starEach [] env := by intro _; rfl) (hpl : ∀ env, (backTo pos (starEach [e] env)).any (·.1) = false := by intro _; rfl) : DX G (.Call (.Name "_law_of" p) [.Name y p2, e] [] pos) δ Ps :=
  x_call1 (c_of M) i hi (xaC (Pr := fun δ1 ds => δ1 = δ ∧ ds = [lI gs]) (x0 (dne he) (xa0 ⟨rfl, rfl⟩)) hse) (fun δ1 ds h => by
    obtain ⟨rfl, rfl⟩ := h
    refine ⟨_, hi, rfl, ⟨q, a, b, c, gs, rfl, ok, ne, hz⟩, fun d w' hR => ?_⟩
    obtain ⟨x, a', c', rfl, hx, rfl, c0, c1⟩ := RlO.at hR
    exact hP x a' c' hx c0 c1) hk hg hN hv (by decide) hd hcd hs hpl
theorem lC_sh {cp : List (Int × Int)} : SeqAt.shaped (.list (cp.map tP)) = true := (nice_lst (k := 1) (nice_map fun _ => nice_tP)).sh
theorem set_id {δ : Sto} {i : Nat} {s : Sl} (h : δ[i]? = some s) : δ = δ.set i s := by
  apply List.ext_getElem?
  intro j
  by_cases e : i = j
  · subst e
    rw [get_set_at (lt_of_get h), h]
  · rw [get_set_ne e]
theorem c_next (M : MdF m) : CalO m 3 "_law_next" 2 PrN RlN := by
  refine calO_of M (i := 69) (by decide) ["_law_tin", "_law_olds_so", "_law_outs_so", "_law_ins_so", "_law_j", "_law_pairs_so", "_law_news_so"] ["_law_tin", "_law_olds_so"] 2 2 _ _ (by decide +kernel) rfl (fun _ _ _ _ _ _ us hl => match us, hl with | [_, _], _ => rfl) fun as hn hP hA => ?_
  obtain ⟨q, a, b, c, olds, rfl, ⟨b0, b1, c0, c1⟩, cz, ho⟩ := hP
  have olo := ho.lo
  have ohi := ho.hi
  refine s_setX 2 (xPick M 0 rfl (listT (dc (va 1))) (by omega) (xTake M 0 rfl cI (by decide) (by decide) ⟨b0, b1, cz, by omega⟩ (fun r a1 c1' r0 r1 d0 d1 => ⟨a1, c1', r, rfl, rfl, r0, d0, d1, fun outs a2 c2 pk1 e0 e1 => ?_⟩)) cz ⟨b0, b1, by omega, by omega⟩)
  refine s_setX 3 (xPick M 0 rfl (gs := poolL olds) (DN.cast (lcS (own := [("_law_j", 4)]) (xs := (List.range 8).map fun (k : Nat) => (k : Int)) (p := fun j => !decide (j ∈ olds)) (enc := fun a => .int a) ⟨DI.cast' (iRn (n := 8) (dc cI) (by decide)) (by rw [List.map_map]; rfl), by kernel_rfl, by decide, fun a _ => gN 4, fun a _ => ts1 (cmpT (niT (dc (va 4)) (dc (va 1)))), fun a _ _ => va 4, by simp⟩) rfl) (Nat.le_trans (poolL_hi olds) (by decide)) (x0 (DP.cast (lenL (dc (va 2))) (by rw [List.length_map])) ⟨a2, c2, _, set_id rfl, rfl, by omega, e0, by omega, fun ins a3 c3 pk2 f0 f1 => ?_⟩) e0 ⟨b0, b1, by omega, by omega⟩)
  obtain ⟨n1, n2, n3, n4⟩ := news_ok ho (by omega) pk1 rfl pk2
  have zu := zip_unlike ho pk1 pk2
  refine s_setN 5 (ds := (outs.zip ins).map tP) (DN.cast (lz (va 2) (va 3) (by rw [List.length_map, List.length_map, n4]) (by rw [List.length_map]; omega)) (by unfold zipD; rw [List.zip_map, List.map_map]; rfl)) ?_
  generalize hcp : outs.zip ins = cp at zu
  have cl : cp.length ≤ 2 := by
    rw [← hcp, List.length_zip]
    omega
  have fin : ∀ (a4 c4 : Int) (cp : List (Int × Int)) (s1 : Sl) (s2 : List Sl), 0 ≤ c4 → c4 ≤ c + 50 → cp.length ≤ 2 → (∀ c ∈ cp, c.1 ∈ olds ∧ c.2 ∈ poolL olds) → (Po.fo [tin q a b c, .va (tI olds)] RlN).rt (tin q a4 b c4 :: s2) (eS ⟨olds, newsL olds outs ins, cp⟩) := fun a4 c4 cp s1 s2 h1 h2 h3 h4 => ⟨_, outT, q, a, b, c, olds, rfl, _, a4, c4, rfl, rfl, ⟨ho, n1, n2, h3, fun c hc => unlike ho (h4 c hc).1 (h4 c hc).2⟩, rfl, h1, h2⟩
  refine s_ifX (xtW (xwA (xtEq (xTake M 0 rfl cI (by decide) (by decide) ⟨b0, b1, f0, by omega⟩ (fun r a4 c4 r0 r1 g0 g1 => ⟨r, rfl, x0 cI ⟨0, rfl, ?_⟩⟩)))))
  by_cases hr : r = 0
  · refine .inr ⟨by simpa using hr, xw1 (xt0 (cmpT (neD (vo 5) (dnc (dLst aN)) (lC_sh (cp := cp)) l0_sh)) ?_)⟩
    rw [eqv_l0, isE_map]
    cases he : cp.isEmpty with
    | true =>
      rw [if_neg (by decide)]
      refine s_nil (s_frz 5 (s_set 6 (dne (sortI (ns := (olds.filter fun j => !decide (j ∈ outs)) ++ ins) (DC.cast (dnc (catL (dnc (lcS (own := [("_law_j", 4)]) (xs := olds) (p := fun j => !decide (j ∈ outs)) (enc := fun a => .int a) ⟨iT (va 1), by kernel_rfl, by decide, fun a _ => gN 4, fun a _ => ts1 (cmpT (niL (dc (va 4)) (dc (va 2)))), fun a _ _ => va 4, by omega⟩)) (dc (va 3)) (by rw [List.length_map, List.length_map]; have := List.length_filter_le (fun j => !decide (j ∈ outs)) olds; omega))) (by rw [List.map_append])))) ?_))
      refine s_ret (dTup (aC (tupT (dc (va 1))) (aC (tupL (dc (va 6))) (aC (tupL (dc (va 5))) aN)))) ?_
      exact fin a4 c4 cp .un _ g0 (by omega) cl zu
    | false =>
      rw [if_pos (by decide)]
      have ne : cp ≠ [] := fun e => by rw [e] at he; cases he
      obtain ⟨ini, ⟨x0', y0⟩, rfl⟩ : ∃ ini l, cp = ini ++ [l] := ⟨cp.dropLast, cp.getLast ne, (List.dropLast_concat_getLast ne).symm⟩
      have il : ini.length ≤ 1 := by rw [List.length_append] at cl; simp at cl; omega
      refine s_setIx 5 (xTup (xaC (xOf M 0 rfl (listT (dc (va 1))) (by omega) (fun e => by rw [e] at olo; simp at olo) ⟨b0, b1, g0, by omega⟩ (fun x a5 c5 hx h0 h1 => xaC (x0 (ixT (dc (ixL (vo 5) (dc cM1) (d := tP (x0', y0)) (atI_last (by rw [List.map_append]; exact List.getLast?_concat)))) (dc cI) (d := .int y0) rfl) (xa0 ⟨(by simp : [PyData.int x, PyData.int y0].length ≤ 100000), (ini ++ [(x0', y0)]).map tP, -1, ini.length, rfl, cM1, ?_, ?_⟩))))))
      · rw [List.length_map, List.length_append]
        unfold ixN
        rw [List.length_singleton, if_neg (by decide), if_pos (by omega)]
        exact congrArg some (show ((-1 : Int) + ((ini.length + 1 : Nat) : Int)).toNat = ini.length by omega)
      · rw [show ((ini ++ [(x0', y0)]).map tP).set ini.length (.tuple [.int x, .int y0]) = (ini ++ [(x, y0)]).map tP by
          rw [List.map_append, List.map_append, List.set_append_right _ _ (by rw [List.length_map]; exact Nat.le_refl _), List.length_map, Nat.sub_self]
          rfl]
        refine s_nil (s_frz 5 (s_set 6 (dne (sortI (ns := (olds.filter fun j => !decide (j ∈ outs)) ++ ins) (DC.cast (dnc (catL (dnc (lcS (own := [("_law_j", 4)]) (xs := olds) (p := fun j => !decide (j ∈ outs)) (enc := fun a => .int a) ⟨iT (va 1), by kernel_rfl, by decide, fun a _ => gN 4, fun a _ => ts1 (cmpT (niL (dc (va 4)) (dc (va 2)))), fun a _ _ => va 4, by omega⟩)) (dc (va 3)) (by rw [List.length_map, List.length_map]; have := List.length_filter_le (fun j => !decide (j ∈ outs)) olds; omega))) (by rw [List.map_append])))) ?_))
        refine s_ret (dTup (aC (tupT (dc (va 1))) (aC (tupL (dc (va 6))) (aC (tupL (dc (va 5))) aN)))) ?_
        exact fin a5 c5 (ini ++ [(x, y0)]) .un _ h0 (by omega) (by rw [List.length_append]; simp; omega) fun c hc => by
          rcases List.mem_append.mp hc with hc | hc
          · exact zu c (List.mem_append_left _ hc)
          · rw [List.mem_singleton.mp hc]
            exact ⟨hx, (zu (x0', y0) (by simp)).2⟩
  · refine .inl ⟨by simpa using hr, ?_⟩
    rw [if_neg (by decide)]
    refine s_nil (s_frz 5 (s_set 6 (dne (sortI (ns := (olds.filter fun j => !decide (j ∈ outs)) ++ ins) (DC.cast (dnc (catL (dnc (lcS (own := [("_law_j", 4)]) (xs := olds) (p := fun j => !decide (j ∈ outs)) (enc := fun a => .int a) ⟨iT (va 1), by kernel_rfl, by decide, fun a _ => gN 4, fun a _ => ts1 (cmpT (niL (dc (va 4)) (dc (va 2)))), fun a _ _ => va 4, by omega⟩)) (dc (va 3)) (by rw [List.length_map, List.length_map]; have := List.length_filter_le (fun j => !decide (j ∈ outs)) olds; omega))) (by rw [List.map_append])))) ?_))
    refine s_ret (dTup (aC (tupT (dc (va 1))) (aC (tupL (dc (va 6))) (aC (tupL (dc (va 5))) aN)))) ?_
    exact fin a4 c4 cp .un _ g0 (by omega) cl zu
end DL
set_option Elab.async false
set_option linter.all false
set_option maxRecDepth 100000
set_option maxHeartbeats 2000000
namespace DL
open PySem PySem.Spec PyProof.Rows L2
/-! ### pages of chains, plainly -/
theorem mem_cntL {gs l : List Int} {n : Nat} : l ∈ cntL gs n ↔ l.Sublist gs ∧ l.length = n := by
  unfold cntL
  rw [List.mem_filter, mem_lotsZ, decide_eq_true_iff]
  constructor
  · rintro ⟨h1, h2⟩
    exact ⟨h1, by omega⟩
  · rintro ⟨h1, h2⟩
    exact ⟨h1, by omega⟩
def QtM : List Dd → List Fe → Prop
  | [], [] => True
  | d :: ds, g :: fs => g ∈ goods d ∧ QtM ds fs
  | _, _ => False
theorem mem_qtL : ∀ {ds : List Dd} {F : List (List Fe)} {f : List Fe}, f ∈ qtL ds F ↔ ∃ a ∈ F, ∃ b, QtM ds b ∧ f = a ++ b
  | [], F, f => by
    rw [qtL]
    constructor
    · intro h
      exact ⟨f, h, [], trivial, by rw [List.append_nil]⟩
    · rintro ⟨a, ha, b, hb, rfl⟩
      cases b with
      | nil => rw [List.append_nil]; exact ha
      | cons _ _ => exact (show False from hb).elim
  | d :: ds, F, f => by
    rw [qtL, mem_qtL]
    constructor
    · rintro ⟨a, ha, b, hb, rfl⟩
      obtain ⟨a0, h0, h1⟩ := List.mem_flatMap.mp (show a ∈ F.flatMap _ from ha)
      obtain ⟨g, hg, rfl⟩ := List.mem_map.mp h1
      exact ⟨a0, h0, g :: b, ⟨hg, hb⟩, by simp⟩
    · rintro ⟨a, ha, b, hb, rfl⟩
      cases b with
      | nil => exact (show False from hb).elim
      | cons g b =>
        obtain ⟨hg, hb⟩ := hb
        exact ⟨a ++ [g], List.mem_flatMap.mpr ⟨a, ha, List.mem_map.mpr ⟨g, hg, rfl⟩⟩, b, hb, by simp⟩
theorem mem_qt {ds : List Dd} {f : List Fe} : f ∈ qtL ds [[]] ↔ QtM ds f := by
  rw [mem_qtL]
  constructor
  · rintro ⟨a, ha, b, hb, rfl⟩
    rw [List.mem_singleton.mp ha]
    exact hb
  · intro h
    exact ⟨[], by simp, f, h, rfl⟩
def Dd.Lots (d : Dd) : Prop := ∀ l ∈ d.kin, tkOk l
theorem QtM.fit : ∀ {ds : List Dd} {f : List Fe}, QtM ds f → (∀ d ∈ ds, d.Lots) → FitA ds f
  | [], [], _, _ => trivial
  | [], _ :: _, h, _ => (show False from h).elim
  | _ :: _, [], h, _ => (show False from h).elim
  | d :: ds, g :: f, h, k => by
    refine ⟨?_, ?_, QtM.fit h.2 fun e he => k e (List.mem_cons_of_mem _ he)⟩
    · cases d with
      | cp t a b =>
        rw [List.mem_singleton.mp (show g ∈ [none] from h.1)]
        trivial
      | pt t v o kin =>
        obtain ⟨l, _, rfl⟩ := List.mem_map.mp (show g ∈ kin.map some from h.1)
        trivial
    · cases d with
      | cp t a b =>
        rw [List.mem_singleton.mp (show g ∈ [none] from h.1)]
        exact ⟨by simp, fun j hj => nomatch hj⟩
      | pt t v o kin =>
        obtain ⟨l, hl, rfl⟩ := List.mem_map.mp (show g ∈ kin.map some from h.1)
        exact k _ List.mem_cons_self l hl
theorem QtM.ex : ∀ {ds : List Dd}, (∀ d ∈ ds, goods d ≠ []) → ∃ f, QtM ds f
  | [], _ => ⟨[], trivial⟩
  | d :: ds, h => by
    obtain ⟨f, hf⟩ := QtM.ex (ds := ds) fun e he => h e (List.mem_cons_of_mem _ he)
    cases e : goods d with
    | nil => exact absurd e (h d List.mem_cons_self)
    | cons g r => exact ⟨g :: f, by rw [e]; exact List.mem_cons_self, hf⟩
/-- so many puts -/
def pts (ds : List Dd) : Nat := (ds.filter Dd.isPt).length
theorem qtN_le : ∀ (ds : List Dd) (n : Nat), (∀ d ∈ ds, d.kin.length ≤ 8) → qtN ds n ≤ n * 8 ^ pts ds
  | [], n, _ => by simp [qtN, pts]
  | d :: ds, n, h => by
    have ih := qtN_le ds (n * (goods d).length) fun e he => h e (List.mem_cons_of_mem _ he)
    have hd := h d List.mem_cons_self
    rw [qtN]
    refine Nat.le_trans ih ?_
    cases d with
    | cp t a b =>
      show n * 1 * 8 ^ pts ds ≤ n * 8 ^ pts ds
      rw [Nat.mul_one]
      exact Nat.le_refl _
    | pt t v o k =>
      have e : pts (.pt t v o k :: ds) = pts ds + 1 := rfl
      rw [e, Nat.pow_succ, Nat.mul_assoc]
      refine Nat.mul_le_mul_left n ?_
      rw [Nat.mul_comm]
      refine Nat.mul_le_mul_left _ ?_
      show (k.map some).length ≤ 8
      rw [List.length_map]
      exact hd
theorem pts_take (ds : List Dd) (i : Nat) : pts (ds.take i) ≤ pts ds := ((List.take_sublist i ds).filter _).length_le
theorem pts_app (a b : List Dd) : pts (a ++ b) = pts a + pts b := by
  unfold pts
  rw [List.filter_append, List.length_append]
theorem pts_pg (s : Sh) (t : Int) : pts (pgOf s t) = 0 := by
  unfold pts pgOf
  rw [List.length_eq_zero_iff, List.filter_eq_nil_iff]
  intro d hd
  obtain ⟨c, _, rfl⟩ := List.mem_map.mp hd
  exact Bool.false_ne_true
theorem pts_leaf (need : Nat) : ∀ (k : Nat) (ss : List Sh), pts (leafP need k ss) = ss.length
  | _, [] => rfl
  | k, s :: ss => by
    rw [leafP, ← List.singleton_append, pts_app, pts_app, pts_pg, pts_leaf need (k + 1) ss]
    show 1 + (0 + _) = _
    rw [List.length_cons]
    omega
/-- a chain of good moves -/
structure ChOk (ss : List Sh) : Prop where
  ne : ss ≠ []
  le : ss.length ≤ 3
  ok : ∀ s ∈ ss, GoodS s
theorem leafP_len2 (need : Nat) : ∀ (k : Nat) (a : List Sh), (∀ s ∈ a, s.cp.length ≤ 2) → (leafP need k a).length ≤ 3 * a.length
  | k, [], h => by simp [leafP]
  | k, s :: a, h => by
    have h1 := leafP_len2 need (k + 1) a fun t ht => h t (List.mem_cons_of_mem _ ht)
    have h2 := h s List.mem_cons_self
    rw [leafP, List.length_cons, List.length_append, List.length_cons]
    unfold pgOf
    rw [List.length_map]
    omega
theorem mem_leafP {need : Nat} : ∀ {k : Nat} {ss : List Sh} {d : Dd}, d ∈ leafP need k ss → ∃ s ∈ ss, (∃ t v, d = .pt t v s.old (cntL s.old need)) ∨ ∃ t, ∃ c ∈ s.cp, d = .cp t c.1 c.2
  | _, [], d, h => nomatch h
  | k, s :: ss, d, h => by
    rcases List.mem_cons.mp h with rfl | h
    · exact ⟨s, List.mem_cons_self, .inl ⟨_, _, rfl⟩⟩
    · rcases List.mem_append.mp h with h | h
      · obtain ⟨c, hc, rfl⟩ := List.mem_map.mp h
        exact ⟨s, List.mem_cons_self, .inr ⟨_, c, hc, rfl⟩⟩
      · obtain ⟨s', h1, h2⟩ := mem_leafP h
        exact ⟨s', List.mem_cons_of_mem _ h1, h2⟩
theorem cnt_len {gs : List Int} {n : Nat} (h : gs.length ≤ 3) : (cntL gs n).length ≤ 8 := by
  unfold cntL
  refine Nat.le_trans (List.length_filter_le _ _) ?_
  rw [lotsZ_len]
  exact Nat.pow_le_pow_right (n := 2) (by decide) h
section
variable {ss : List Sh} (C : ChOk ss) (need : Nat)
include C
theorem ChOk.len : (leafP need 0 ss).length ≤ 9 := by
  have := leafP_len2 need 0 ss fun s hs => (C.ok s hs).cz
  have := C.le
  omega
theorem ChOk.pg : PgOk (leafP need 0 ss) := by
  refine ⟨by have := C.len need; omega, fun d hd => ?_⟩
  obtain ⟨s, hs, ⟨t, v, rfl⟩ | ⟨t, c, hc, rfl⟩⟩ := mem_leafP hd
  · have g := (C.ok s hs).o.hi
    have := cnt_len (n := need) g
    refine ⟨by omega, by omega, fun a ha => ?_⟩
    have := (mem_cntL.mp ha).1.length_le
    omega
  · trivial
theorem ChOk.lots : ∀ d ∈ leafP need 0 ss, d.Lots := fun d hd => by
  obtain ⟨s, hs, ⟨t, v, rfl⟩ | ⟨t, c, hc, rfl⟩⟩ := mem_leafP hd
  · intro l hl
    have g := (C.ok s hs).o
    have m := mem_cntL.mp hl
    exact ⟨by have := m.1.length_le; have := g.hi; omega, fun j hj => g.rg j (m.1.mem hj)⟩
  · exact fun l hl => nomatch hl
theorem ChOk.in8 : ∀ d ∈ leafP need 0 ss, d.In8 := fun d hd => by
  have l := C.lots need d hd
  obtain ⟨s, hs, ⟨t, v, rfl⟩ | ⟨t, c, hc, rfl⟩⟩ := mem_leafP hd
  · exact fun a ha => (l a ha).2
  · have := (C.ok s hs).cu c hc
    exact ⟨this.2.1, this.2.2.1, this.2.2.2.1, this.2.2.2.2⟩
theorem ChOk.gl : ∀ d ∈ leafP need 0 ss, (goods d).length ≤ 1000 := fun d hd => by
  obtain ⟨s, hs, ⟨t, v, rfl⟩ | ⟨t, c, hc, rfl⟩⟩ := mem_leafP hd
  · show ((cntL s.old need).map some).length ≤ 1000
    rw [List.length_map]
    have := cnt_len (n := need) (C.ok s hs).o.hi
    omega
  · show 1 ≤ 1000
    decide
theorem ChOk.qt : ∀ i, i ≤ (leafP need 0 ss).length → qtN ((leafP need 0 ss).take i) 1 ≤ 40000 := fun i _ => by
  refine Nat.le_trans (qtN_le _ 1 fun d hd => ?_) ?_
  · obtain ⟨s, hs, ⟨t, v, rfl⟩ | ⟨t, c, hc, rfl⟩⟩ := mem_leafP (List.mem_of_mem_take hd)
    · exact cnt_len (C.ok s hs).o.hi
    · show 0 ≤ 8
      decide
  · rw [Nat.one_mul]
    have h1 := pts_take (leafP need 0 ss) i
    rw [pts_leaf] at h1
    have h2 := C.le
    exact Nat.le_trans (Nat.pow_le_pow_right (n := 8) (by decide) (Nat.le_trans h1 h2)) (by decide)
omit C in
theorem ahd_len (d : Dd) (l : List Int) : (ahd d l).length ≤ l.length + 1 := by
  cases d with
  | cp t a b =>
    show (if b ∈ l then uq (l ++ [a]) else l).length ≤ _
    split
    · have : ∀ (x : Int) (l : List Int), (ins x l).length ≤ l.length + 1 := fun x l => by
        induction l with
        | nil => exact Nat.le_refl _
        | cons y r ih =>
          unfold ins
          split
          · simp
          · split
            · simp
            · rw [List.length_cons, List.length_cons]; omega
      have : ∀ l : List Int, (uq l).length ≤ l.length := fun l => by
        induction l with
        | nil => exact Nat.le_refl _
        | cons y r ih =>
          rw [uq, List.length_cons]
          have := this y (uq r)
          omega
      have := this (l ++ [a])
      rw [List.length_append] at this
      simp at this
      exact this
    · omega
  | pt t v o k => exact Nat.le_succ _
omit C in
theorem trail_hd : ∀ (ds : List Dd) (s : List Int), ((trail ds s).headD []).length ≤ s.length + ds.length
  | [], s => Nat.le_refl _
  | d :: ds, s => by
    have h1 := trail_hd ds s
    have h2 := ahd_len d ((trail ds s).headD [])
    rw [trail, List.length_cons]
    show (ahd d ((trail ds s).headD [])).length ≤ _
    omega
omit C in
theorem trail60 {page : List Dd} {crew : List Int} (h1 : page.length ≤ 50) (h2 : crew.length ≤ 10) : ∀ t, t <:+ page → ((trail t crew).headD []).length ≤ 60 := fun t ht => by
  have h := trail_hd t crew
  have := ht.length_le
  omega
end
end DL
set_option Elab.async false
set_option linter.all false
set_option maxRecDepth 100000
set_option maxHeartbeats 2000000
namespace DL
open PySem PySem.Spec PyProof.Rows L2
variable {m : Md}
/-! ### what is missed -/
def endsL (page : List Dd) : List (List Int) := (qtL page [[]]).map fun f => endA page f zeros
def leastL (page : List Dd) (crew : List Int) : Int := lmin ((endsL page).map fun h => readL h crew)
abbrev s0 : Sh := ⟨[], [], []⟩
structure MissAt (page : List Dd) (crew : List Int) (sure : Bool) (v : Int) : Prop where
  a : canMissL page crew v = decide (leastL page crew < v)
  b : lmissL page crew v = decide (leastL page crew < v)
  c : sure = true → ¬ leastL page crew < v
def MissOk (ss : List Sh) (k : Nat) (sure : Bool) : Prop := ∀ crew ∈ cntL (ss.getLastD s0).new ((ss.headD s0).old.length + 1 - k), ∀ v : Nat, 1 ≤ v → v ≤ ss.length → MissAt (leafP k 0 ss) crew sure (v : Int)
theorem sub_nodup {α : Type} {a b : List α} (h : a.Sublist b) (hb : b.Nodup) : a.Nodup := h.nodup hb
theorem head_get {α : Type} {l : List α} (ne : l ≠ []) (a : α) : l[0]? = some (l.headD a) ∧ l.headD a ∈ l := by
  cases l with
  | nil => exact absurd rfl ne
  | cons x r => exact ⟨rfl, List.mem_cons_self⟩
theorem last_get {α : Type} {l : List α} (ne : l ≠ []) (a : α) : l.getLast? = some (l.getLastD a) ∧ l.getLastD a ∈ l := by
  cases e : l.getLast? with
  | none => exact absurd (List.getLast?_eq_none_iff.mp e) ne
  | some x =>
    have : l.getLastD a = x := by rw [List.getLastD_eq_getLast?, e]; rfl
    rw [this]
    exact ⟨rfl, List.mem_of_getLast? e⟩
theorem c_misses_right (M : MdF m) : Cal m 10 "_law_misses_right" 3 (fun ds d => ∃ (ss : List Sh) (k : Nat) (sure : Bool), ds = [.list (ss.map fun s => eS s), .int (k : Int), .bool sure] ∧ ChOk ss ∧ (∀ s ∈ ss, k ≤ s.old.length) ∧ MissOk ss k sure ∧ d = .bool true) := by
  refine cal_of M (i := 72) (by decide) ["_law_shifts_so", "_law_need_so", "_law_sure_so", "_law_leaf", "_law_ends_so", "_law_fate", "_law_crew", "_law_least_so", "_law_cells_so", "_law_v"] ["_law_shifts_so", "_law_need_so", "_law_sure_so"] 9 3 _ (by decide +kernel) rfl (fun _ _ _ _ _ _ us hl => match us, hl with | [_, _, _], _ => rfl) fun ds d hn h => ?_
  obtain ⟨ss, k, sure, rfl, C, hk, mo, rfl⟩ := h
  obtain ⟨h0, hm0⟩ := head_get C.ne s0
  obtain ⟨hz, hmz⟩ := last_get C.ne s0
  have cle := C.le
  have plen := C.len k
  have ppg := C.pg k
  have pin := C.in8 k
  have plot := C.lots k
  have gne : ∀ d ∈ leafP k 0 ss, goods d ≠ [] := fun d hd => by
    obtain ⟨s, hs, ⟨t, v, rfl⟩ | ⟨t, c, hc, rfl⟩⟩ := mem_leafP hd
    · intro e
      have : (s.old.take k) ∈ cntL s.old k := mem_cntL.mpr ⟨List.take_sublist _ _, by rw [List.length_take]; have := hk s hs; omega⟩
      have e : (cntL s.old k).map some = [] := e
      rw [List.map_eq_nil_iff] at e
      rw [e] at this
      cases this
    · exact fun e => nomatch e
  obtain ⟨f0, hf0⟩ := QtM.ex gne
  have qn : (qtL (leafP k 0 ss) [[]]) ≠ [] := fun e => by
    have := mem_qt.mpr hf0
    rw [e] at this
    cases this
  have ql : (qtL (leafP k 0 ss) [[]]).length ≤ 40000 := by
    have := C.qt k (leafP k 0 ss).length (Nat.le_refl _)
    rw [List.take_length] at this
    have e : ∀ (ds : List Dd) (F : List (List Fe)), (qtL ds F).length = qtN ds F.length := fun ds => by
      induction ds with
      | nil => exact fun F => rfl
      | cons d ds ih => exact fun F => by rw [qtL, qtN, ih, qtStep_len]
    rw [e]
    exact this
  refine s_set 3 (call (c_leaf_of M) (aC (va 0) (aC (va 1) aN)) ⟨ss, k, rfl, by omega, fun s hs => ⟨Nat.le_trans (C.ok s hs).cz (by decide), (C.ok s hs).o.hi⟩, rfl⟩) ?_
  have qok := C.qt k
  have pgl := C.gl k
  have mo := mo
  unfold MissOk at mo
  generalize leafP k 0 ss = page at *
  have el : ∀ h ∈ endsL page, h.length = 8 := fun h hh => by
    obtain ⟨f, _, rfl⟩ := List.mem_map.mp hh
    rw [endA_len]
    rfl
  refine s_setLc 4 (own := [("_law_fate", 5)]) (js := [5]) (xs := qtL page [[]]) (enc := fun f => eFt f) (q := fun _ => true) (f := fun f => tI (endA page f zeros)) ⟨iL (call (c_quiets M) (aC (va 3) aN) ⟨page, rfl, by omega, qok, pgl, rfl⟩), by kernel_rfl, by decide, fun a _ => gN 5, fun a _ => ts0, fun f hf _ => ixL (dc (call (c_played M) (aC (va 3) (aC (va 5) aN)) ⟨page, f, rfl, by omega, (mem_qt.mp hf).fit plot, pin, rfl⟩)) (dc cM1) (atI_last (by rw [List.getLast?_map, List.getLast?_range, if_neg (by omega), Nat.add_sub_cancel]; show some (tI (endA (page.take page.length) f zeros)) = _; rw [List.take_length])), by omega⟩ ?_
  rw [show ((qtL page [[]]).filter fun _ => true).map (fun f => tI (endA page f zeros)) = (endsL page).map fun h => tI h by
    unfold endsL
    rw [List.filter_eq_self.mpr (fun _ _ => rfl), List.map_map]
    rfl]
  have enl : (endsL page).length ≤ 40000 := by
    unfold endsL
    rw [List.length_map]
    exact ql
  have ene : endsL page ≠ [] := fun e => qn (List.map_eq_nil_iff.mp e)
  have hk0 := hk _ hm0
  have g0 := (C.ok _ hm0).o
  have gz := (C.ok _ hmz).n
  have base : ∀ (crew : List Int), crew ∈ cntL (ss.getLastD s0).new ((ss.headD s0).old.length + 1 - k) → crew.length ≤ 3 ∧ ∀ x ∈ crew, 0 ≤ x ∧ x < 8 := fun crew hc => by
    have m := mem_cntL.mp hc
    exact ⟨Nat.le_trans m.1.length_le gz.hi, fun x hx => gz.rg x (m.1.mem hx)⟩
  have sz : (((ss.headD s0).old.length + 1 - k : Nat) : Int) = ((ss.headD s0).old.length : Int) + 1 - k := by omega
  refine s_for (js := [6]) (xs := cntL (ss.getLastD s0).new ((ss.headD s0).old.length + 1 - k)) (enc := fun a => tI a) (iL (call (c_counted M) (aC (ixT (dc (ixL (dc (va 0)) (dc cM1) (d := eS (ss.getLastD s0)) (atI_last (by rw [List.getLast?_map, hz]; rfl)))) (dc cI) (d := tI (ss.getLastD s0).new) rfl) (aC (DP.cast (subI (dc (addI (dc (lenT (ds := (ss.headD s0).old.map .int) (dc (ixT (dc (ixL (dc (va 0)) (dc cI) (d := eS (ss.headD s0)) (atI_get (i := 0) (by rw [List.getElem?_map, h0]; rfl)))) (dc cI) (d := tI (ss.headD s0).old) rfl)))) (dc cI))) (dc (va 1))) (by rw [sz, List.length_map])) aN)) ⟨_, _, rfl, Nat.le_trans gz.hi (by decide), rfl⟩))
    (fun i δ' => ∃ s6 s7 s9, δ' = [.va (.list (ss.map fun s => eS s)), .va (.int (k : Int)), .va (.bool sure), .va (eB page), .va (.list ((endsL page).map fun h => tI h)), .un, s6, s7, .un, s9]) ⟨.un, .un, .un, rfl⟩ (fun i crew δ' ha hI => ?_) fun δ' hI => ?_
  · obtain ⟨s6, s7, s9, rfl⟩ := hI
    have hc := List.mem_of_getElem? ha
    obtain ⟨cl, c8⟩ := base crew hc
    have mv := mo crew hc
    refine ⟨_, gN 6, ?_⟩
    have le : ((endsL page).map fun h => readL h crew) ≠ [] := fun e => ene (List.map_eq_nil_iff.mp e)
    refine s_set 7 (minL (ns := (endsL page).map fun h => readL h crew) (DC.cast (dnc (lcI (own := [("_law_cells_so", 8)]) (xs := endsL page) (enc := fun h => tI h) (p := fun _ => true) (g := fun h => readL h crew) ⟨iL (va 4), by kernel_rfl, by decide, fun a _ => gN 8, fun a _ => ts0, fun h hh _ => call (c_read M) (aC (va 8) (aC (va 6) aN)) ⟨h, crew, rfl, by omega, fun j hj => ⟨(c8 j hj).1, by rw [el h hh]; have := c8 j hj; omega⟩, rfl⟩, by omega⟩)) (by rw [List.filter_eq_self.mpr (fun _ _ => rfl)])) le) ?_
    refine s_for (js := [9]) (xs := List.range ss.length) (enc := fun (j : Nat) => .int ((1 + j : Nat) : Int)) (iRab (a := 1) (n := ss.length) (dc cI) (dc (DP.cast (addI (dc (lenL (dc (va 0)))) (dc cI)) (by rw [List.length_map]))) (by omega) (by omega)) (fun _ δ' => ∃ s9, δ' = [.va (.list (ss.map fun s => eS s)), .va (.int (k : Int)), .va (.bool sure), .va (eB page), .va (.list ((endsL page).map fun h => tI h)), .un, .va (tI crew), .va (.int (leastL page crew)), .un, s9]) ⟨s9, rfl⟩ (fun j jj δ' hj hI => ?_) fun δ' hI => ?_
    · obtain ⟨s9, rfl⟩ := hI
      have lj : jj < ss.length := List.mem_range.mp (List.mem_of_getElem? hj)
      have at_ := mv (1 + jj) (by omega) (by omega)
      have v1 : (1 : Int) ≤ ((1 + jj : Nat) : Int) := by omega
      generalize ((1 + jj : Nat) : Int) = v at at_ v1
      refine ⟨_, gN 9, ?_⟩
      refine s_no (k := !true || !(decide (leastL page crew < v) == decide (leastL page crew < v))) (tW (wO (tNot (tV (dc (call (c_same M 0) (aC (call (c_can_miss M) (aC (va 3) (aC (va 6) (aC (va 9) aN))) ⟨page, crew, v, rfl, ppg, by omega, v1, c8, trail60 (by omega) (by omega), by rw [at_.a]⟩) (aC (cmpE (ltI (dc (va 7)) (dc (va 9)))) aN)) ⟨_, rfl, .bl, rfl⟩)))) fun _ => wO1 (cmpT (neB (dc (call (c_misses M) (aC (va 3) (aC (va 6) (aC (va 9) aN))) ⟨page, crew, v, rfl, ppg, trail60 (by omega) (by omega), by rw [at_.b]⟩)) (dc (cmpE (ltI (dc (va 7)) (dc (va 9))))))))) (by simp) ?_
      refine s_no (k := sure && decide (leastL page crew < v)) (tW (wA (tV (dc (va 2))) fun _ => wA1 (cmpT (ltI (dc (va 7)) (dc (va 9)))))) (by
        cases hs : sure with
        | false => rfl
        | true => simpa using at_.c hs) ?_
      exact s_nil ⟨_, rfl⟩
    · obtain ⟨s9, rfl⟩ := hI
      exact s_nil ⟨_, _, _, rfl⟩
  · obtain ⟨s6, s7, s9, rfl⟩ := hI
    exact s_ret cB rfl
end DL
set_option Elab.async false
set_option linter.all false
set_option maxRecDepth 100000
set_option maxHeartbeats 2000000
namespace DL
open PySem PySem.Spec PyProof.Rows L2
section
variable {G : Gm} {a b : Expr} {rest : List Stmt} {δ δ' : Sto} {P : Po} {d : PyData} {x y : Str} {pos px py pt pt2 : Pos} {kt k2 : Nat} {js : List Nat}
theorem sw_cell2 {env : Env} (hx : env.scope.names.lookup y = some .cell) : swappedStores [.Tuple [.Name x px, .Name y py] kt pt] (.Tuple [a, b] k2 pt2) env = pure none := by
  have kx : env.kindOf y = some .cell := hx
  have no : (some NameKind.cell == some NameKind.local) = false := by decide
  unfold swappedStores
  simp only [Expr.pos, List.head?_cons, Option.map_some, Option.getD_some, List.filterMap_cons, List.filterMap_nil, kx, no, Bool.false_and, Bool.false_eq_true, if_false]
  split
  · rfl
  · split
    · rfl
    · refine if_pos ?_
      split <;> simp
/-- x, y = a, b where y is a cell -/
theorem s_tgtC2 (hx : G.sc.names.lookup y = some .cell) (he : DE G (.Tuple [a, b] k2 pt2) δ d) (hg : DG G (.Tuple [.Name x px, .Name y py] kt pt) js δ d δ') (k : DS G rest δ' P) (hs : ∀ env, swapsWithSole [.Tuple [.Name x px, .Name y py] kt pt] (.Tuple [a, b] k2 pt2) pos.line env = pure false := by intro _; rfl) (h1 : ∀ env, (assignEach [.Tuple [.Name x px, .Name y py] kt pt] env).map (·.2) = [assign (.Tuple [.Name x px, .Name y py] kt pt) env] := by intro _; rfl) :
    DS G (.Assign [.Tuple [.Name x px, .Name y py] kt pt] (.Tuple [a, b] k2 pt2) pos :: rest) δ P :=
  s_cons (ds1_of fun X hX => ⟨_, ps_asg pe_m (pg_g hX) (hs X.env) (sw_cell2 (by rw [hX.sc]; exact hx)) (h1 X.env), fun F0 H0 F H σ S D w => he X hX F0 H0 F H σ S _ fun v F' H' g r =>
    gmg_of hg F0 H0 F' H' σ v (S.grow g) r _ fun σ' S' _ => w.nx _ F' H' σ' k g.ff S'⟩)
end
variable {m : Md}
theorem eqv_lB {a b : List Bool} : PyData.eqv (.list (a.map .bool)) (.list (b.map .bool)) = decide (a = b) := by rw [PyData.eqv, eqv_bools]
theorem lB_sh {a : List Bool} : SeqAt.shaped (.list (a.map .bool)) = true := (nice_lst (k := 0) (nice_map fun _ => nice_bool)).sh
theorem lT_sh {α : Type} {f : α → List (Int × Int)} {xs : List α} : SeqAt.shaped (.list (xs.map fun a => tC (f a))) = true := (nice_lst (k := 2) (nice_map fun _ => nice_tup (nice_map fun _ => nice_tP))).sh
def heirB (s : Sh) : Bool := (heirsL s).isSome
def allB (s : Sh) : Bool := !(allL' s).isEmpty
def loseB (w : Sh) : List Bool := (List.range w.old.length).map fun k => (losL w (1 + k) (w.old.length + 1 - (1 + k))).isSome
/-- what is to be shown of a chain -/
structure RunOk (ss : List Sh) : Prop where
  ch : ChOk ss
  each : ∀ s ∈ ss, heirB s = allB s
  whole : heirB (togL ss) = allB (togL ss)
  sure : (∀ s ∈ ss, heirB s = true) → heirB (togL ss) = true
  told : ∀ l, heirsL (togL ss) = some l → l.map (·.1) = (togL ss).new ∧ (l.map (·.2)).Nodup ∧ ∀ q ∈ l, q.2 ∈ orgL (togL ss) q.1
  org : ∀ j ∈ (togL ss).new, orgL (togL ss) j = ((trail (pgOf (togL ss) 2) [j]).headD []).filter fun k => decide (k ∈ (togL ss).old)
  lose : decide (loseB (togL ss) = List.replicate (togL ss).old.length false) = heirB (togL ss)
  miss : ∀ k, 1 ≤ k → k ≤ (togL ss).old.length → MissOk ss k (ss.all heirB)
  same : ∀ s ∈ ss, s.old.length = (togL ss).old.length
  size : (togL ss).new.length = (togL ss).old.length
theorem tog_sm {ss : List Sh} (C : ChOk ss) : (togL ss).Sm ∧ (togL ss).new.Nodup ∧ (togL ss).cp.length ≤ 6 ∧ (∀ x ∈ (togL ss).new, 0 ≤ x ∧ x < 8) := by
  obtain ⟨h0, hm0⟩ := head_get C.ne s0
  obtain ⟨hz, hmz⟩ := last_get C.ne s0
  have cz : ∀ (ss : List Sh), (∀ s ∈ ss, s.cp.length ≤ 2) → (ss.flatMap fun s => s.cp).length ≤ 2 * ss.length := fun ss => by
    induction ss with
    | nil => intro _; simp
    | cons s r ih =>
      intro h
      have h1 := ih fun t ht => h t (List.mem_cons_of_mem _ ht)
      have h2 := h s List.mem_cons_self
      rw [List.flatMap_cons, List.length_append, List.length_cons]
      omega
  have c1 := cz ss fun s hs => (C.ok s hs).cz
  have c2 := C.le
  have c3 : (togL ss).cp.length ≤ 6 := by
    show (ss.flatMap fun s => s.cp).length ≤ 6
    omega
  exact ⟨⟨(C.ok _ hm0).o.hi, (C.ok _ hmz).n.hi, by omega⟩, lt_nodup (C.ok _ hmz).n.pw, c3, (C.ok _ hmz).n.rg⟩
theorem isNon_oC (o : Option (List (Int × Int))) : isNon (oC o) = o.isNone := by cases o <;> rfl
theorem not_none {α : Type} (o : Option α) : (!o.isNone) = o.isSome := by cases o <;> rfl
theorem eqv_all0 {s : Sh} : (!PyData.eqv (.list ((allL' s).map fun own => tC (s.new.zip own))) (.list [])) = allB s := by
  rw [eqv_l0, isE_map]
  rfl
theorem c_run_right (M : MdF m) : Cal m 11 "_law_run_right" 1 (fun ds d => ∃ ss : List Sh, ds = [.list (ss.map fun s => eS s)] ∧ RunOk ss ∧ d = .bool true) := by
  refine cal_of M (i := 73) (by decide) ["_law_shifts_so", "_law_whole_so", "_law_each_so", "_law_own", "_law_told_so", "_law_sure_so", "_law_leaf", "_law_got", "_law_j", "_law_due", "_law_k", "_law_size_so"] ["_law_shifts_so"] 10 1 _ (by decide +kernel) rfl (fun _ _ _ _ _ _ us hl => match us, hl with | [_], _ => rfl) fun ds d hn h => ?_
  obtain ⟨ss, rfl, R, rfl⟩ := h
  have C := R.ch
  have cle := C.le
  obtain ⟨wm, wn, wc, w8⟩ := tog_sm C
  have sm : ∀ s ∈ ss, s.Sm ∧ s.new.Nodup := fun s hs => by
    have g := C.ok s hs
    exact ⟨⟨g.o.hi, g.n.hi, Nat.le_trans g.cz (by decide)⟩, lt_nodup g.n.pw⟩
  refine s_set 1 (call (c_together M) (aC (va 0) aN) ⟨ss, rfl, C.ne, by omega, fun s hs => Nat.le_trans (C.ok s hs).cz (by decide), rfl⟩) ?_
  refine s_setLc 2 (own := [("_law_own", 3)]) (js := [3]) (xs := ss) (enc := fun s => eS s) (q := fun _ => true) (f := fun s => .bool (heirB s)) ⟨iL (va 0), by kernel_rfl, by decide, fun a _ => gN 3, fun a _ => ts0, fun s hs _ => DP.cast (cmpE (isNotN (dc (call (c_heirs M) (aC (va 3) aN) ⟨s, rfl, (sm s hs).1, (sm s hs).2, rfl⟩)) (dc cN))) (by rw [isNon_oC, not_none]; rfl), by omega⟩ ?_
  rw [show (ss.filter fun _ => true).map (fun s => PyData.bool (heirB s)) = (ss.map heirB).map .bool by
    rw [List.filter_eq_self.mpr (fun _ _ => rfl), List.map_map]
    rfl]
  have cB2 : ss.map allB = ss.map heirB := List.map_congr_left fun s hs => (R.each s hs).symm
  have cmpB : ∀ bs : List Bool, bs.length ≤ 300 → Cmp 1 (.list (bs.map .bool)) := fun bs hb => .lst (by rw [List.length_map]; exact hb) fun d hd => by
    obtain ⟨b, _, rfl⟩ := List.mem_map.mp hd
    exact .bl
  refine s_no (k := !true) (tNot (tV (dc (call (c_same M 1) (aC (va 2) (aC (DP.cast (dne (lc0 (own := [("_law_own", 3)]) (xs := ss) (enc := fun s => eS s) (f := fun s => .bool (allB s)) ⟨iL (va 0), by kernel_rfl, by decide, fun a _ => gN 3, fun a _ => ts0, fun s hs _ => DP.cast (cmpE (neD (dc (call (c_all_heirs M) (aC (va 3) aN) ⟨s, rfl, (sm s hs).1, rfl⟩)) (dnc (dLst aN)) lT_sh l0_sh)) (by rw [eqv_all0]), by omega⟩)) (show PyData.list (ss.map fun s => PyData.bool (allB s)) = .list ((ss.map heirB).map .bool) by rw [← cB2, List.map_map]; rfl)) aN)) ⟨_, rfl, cmpB _ (by rw [List.length_map]; omega), rfl⟩)))) rfl ?_
  have sureE : (!decide (false ∈ ss.map heirB)) = ss.all heirB := by
    rw [Bool.eq_iff_iff]
    simp
  refine s_tgtC2 (js := [4] ++ [5]) rfl (dTup (aC (call (c_heirs M) (aC (va 1) aN) ⟨togL ss, rfl, wm, wn, rfl⟩) (aC (DP.cast (cmpE (niB (dc cB) (dc (va 2)))) (by rw [sureE])) aN))) (gT2 (gN 4) (gN 5)) ?_
  refine s_no (k := !(heirB (togL ss) == allB (togL ss)) || (ss.all heirB && !heirB (togL ss))) (tW (wO (cmpT (neB (dc (DP.cast (cmpE (isNotN (dc (va 4)) (dc cN))) (by rw [isNon_oC, not_none]; rfl))) (dc (DP.cast (cmpE (neD (dc (call (c_all_heirs M) (aC (va 1) aN) ⟨togL ss, rfl, wm, rfl⟩)) (dnc (dLst aN)) lT_sh l0_sh)) (by rw [eqv_all0]))))) fun _ => wO1 (tW (wA (tV (dc (va 5))) fun _ => wA1 (DT.cast (cmpT (isN (dc (va 4)) (dc cN))) (by rw [isNon_oC]; unfold heirB; cases heirsL (togL ss) <;> rfl)))))) (by
    rw [R.whole]
    have := R.sure
    cases h : ss.all heirB with
    | false => simp
    | true =>
      rw [← R.whole, this (List.all_eq_true.mp h)]
      rfl) ?_
  refine s_no (k := heirB (togL ss) && !decide (true = true)) (tW (wA (DT.cast (cmpT (isNotN (dc (va 4)) (dc cN))) (by rw [isNon_oC, not_none]; rfl)) fun e => wA1 (by
    obtain ⟨l, hl⟩ := Option.isSome_iff_exists.mp (show (heirsL (togL ss)).isSome = true from e)
    obtain ⟨t1, t2, t3⟩ := R.told l hl
    exact cmpT (isNotB (dc (call (c_is_heirs M) (aC (va 1) (aC (DP.cast (va 4) (by rw [hl]; rfl)) aN)) ⟨togL ss, l, rfl, wm, t1, t2, t3, rfl⟩)) (dc cB))))) (by simp) ?_
  refine s_set 6 (d := eB (pgOf (togL ss) 2)) (dTup (aC cI (aC cI (aC (call (c_page_of M) (aC (va 1) (aC cI aN)) ⟨togL ss, 2, rfl, by omega, rfl⟩) aN)))) ?_
  have pl : (pgOf (togL ss) 2).length ≤ 6 := by
    unfold pgOf
    rw [List.length_map]
    exact wc
  have pok : PgOk (pgOf (togL ss) 2) := ⟨by omega, fun d hd => by
    obtain ⟨c, _, rfl⟩ := List.mem_map.mp hd
    trivial⟩
  refine s_setLcN 7 (own := [("_law_j", 8)]) (js := [8]) (xs := (togL ss).new) (enc := fun a => .int a) (q := fun _ => true) (f := fun j => tI (orgL (togL ss) j)) ⟨iT (ixT (dc (va 1)) (dc cI) (d := tI (togL ss).new) rfl), by kernel_rfl, by decide, fun a _ => gN 8, fun a _ => ts0, fun j hj _ => call (c_origins M) (aC (va 1) (aC (va 8) aN)) ⟨togL ss, j, rfl, wm, hj, rfl⟩, by have := wm.2.1; omega⟩ ?_
  rw [List.filter_eq_self.mpr (fun _ _ => rfl)]
  have hd0 : ∀ j, ((trail (pgOf (togL ss) 2) [j]).map fun a => tI a)[0]? = some (tI ((trail (pgOf (togL ss) 2) [j]).headD [])) := fun j => by rw [List.getElem?_map, headD_get (trail_ne _ _) []]; rfl
  have t60 := fun j => trail60 (page := pgOf (togL ss) 2) (crew := [j]) (by omega) (by simp)
  refine s_setLc 9 (own := [("_law_j", 8)]) (js := [8]) (xs := (togL ss).new) (enc := fun a => .int a) (q := fun _ => true) (f := fun j => tI (orgL (togL ss) j)) ⟨iT (ixT (dc (va 1)) (dc cI) (d := tI (togL ss).new) rfl), by kernel_rfl, by decide, fun a _ => gN 8, fun a _ => ts0, fun j hj _ => DP.cast (tupL (dnc (lcS (own := [("_law_k", 10)]) (xs := (trail (pgOf (togL ss) 2) [j]).headD []) (p := fun k => decide (k ∈ (togL ss).old)) (enc := fun a => .int a) ⟨iT (ixT (dc (call (c_past M) (aC (va 6) (aC (dTup (aC (va 8) aN)) (aC (DP.cast (lenT (dc (ixT (dc (va 6)) (dc cI) (d := .tuple ((pgOf (togL ss) 2).map eD)) rfl))) (by rw [List.length_map])) aN))) ⟨pgOf (togL ss) 2, [j], rfl, pok, by simp, fun x hx => by rw [List.mem_singleton.mp hx]; exact w8 j hj, t60 j, rfl⟩)) (dc cI) (atI_get (i := 0) (hd0 j))), by kernel_rfl, by decide, fun a _ => gN 10, fun a _ => ts1 (cmpT (inT (dc (va 10)) (dc (ixT (dc (va 1)) (dc cI) (d := tI (togL ss).old) rfl)))), fun a _ _ => va 10, by have := t60 j _ (List.suffix_refl _); omega⟩))) (by rw [R.org j hj]), by have := wm.2.1; omega⟩ ?_
  rw [List.filter_eq_self.mpr (fun _ _ => rfl)]
  refine s_set 11 (d := .int ((togL ss).old.length : Int)) (DP.cast (lenT (ds := (togL ss).old.map .int) (dc (ixT (dc (va 1)) (dc cI) (d := tI (togL ss).old) rfl))) (by rw [List.length_map])) ?_
  have osz : (togL ss).old.length ≤ 3 := wm.1
  refine s_app (ds := (togL ss).new.map fun j => tI (orgL (togL ss) j)) (d := .bool (heirB (togL ss))) 7 (DP.cast (cmpE (eqD (lcB (own := [("_law_k", 10)]) (xs := List.range (togL ss).old.length) (enc := fun (k : Nat) => .int ((1 + k : Nat) : Int)) (g := fun k => (losL (togL ss) (1 + k) ((togL ss).old.length + 1 - (1 + k))).isSome) ⟨iRab (a := 1) (n := (togL ss).old.length) (dc cI) (dc (addI (dc (va 11)) (dc cI))) (by omega) (by omega), by kernel_rfl, by decide, fun a _ => gN 10, fun a _ => ts0, fun k hk _ => call (c_can_lose M) (aC (va 1) (aC (va 10) (aC (DP.cast (subI (dc (addI (dc (va 11)) (dc cI))) (dc (va 10))) (show PyData.int (((togL ss).old.length : Int) + 1 - ((1 + k : Nat) : Int)) = .int (((togL ss).old.length + 1 - (1 + k) : Nat) : Int) by have := List.mem_range.mp hk; rw [show (((togL ss).old.length + 1 - (1 + k) : Nat) : Int) = ((togL ss).old.length : Int) + 1 - ((1 + k : Nat) : Int) by omega])) aN))) ⟨togL ss, 1 + k, _, rfl, wm, by rw [R.size]; omega, rfl⟩, by rw [List.length_range]; omega⟩) (dnc (DN.cast (repL (dnc (dLst (aC cB aN))) (dc (va 11)) (by omega) (by omega) (by simp)) (es := (List.replicate (togL ss).old.length false).map .bool) (by rw [Int.toNat_natCast]; generalize (togL ss).old.length = n; induction n with | zero => rfl | succ n ih => rw [List.replicate_succ, List.flatten_cons, ih]; rfl))) lB_sh lB_sh)) (by rw [eqv_lB, ← R.lose]; rfl)) ?_ (by rw [List.length_map]; have := wm.2.1; omega)
  refine s_frz 7 ?_
  have org_len : ∀ j, (orgL (togL ss) j).length ≤ 300 := fun j => by
    have h1 := List.length_filter_le (fun x => decide (x ∈ ahL (togL ss).cp [j])) (togL ss).old
    unfold orgL
    omega
  have cmpG : Cmp 2 (.list (((togL ss).new.map fun j => tI (orgL (togL ss) j)) ++ [.bool (heirB (togL ss))])) := .lst (by have := wm.2.1; rw [List.length_append, List.length_map]; simp; omega) fun d hd => by
    rcases List.mem_append.mp hd with hd | hd
    · obtain ⟨j, _, rfl⟩ := List.mem_map.mp hd
      exact .tup (by rw [List.length_map]; exact org_len j) fun d hd => by
        obtain ⟨i, _, rfl⟩ := List.mem_map.mp hd
        exact .int
    · rw [List.mem_singleton.mp hd]
      exact .bl
  refine s_no (k := !true) (tNot (tV (dc (call (c_same M 2) (aC (va 7) (aC (dne (catL (dc (va 9)) (dnc (dLst (aC (DP.cast (cmpE (isNotN (dc (va 4)) (dc cN))) (show PyData.bool (!isNon (oC (heirsL (togL ss)))) = .bool (heirB (togL ss)) by rw [isNon_oC, not_none]; rfl)) aN))) (by have := wm.2.1; rw [List.length_map]; simp; omega))) aN)) ⟨_, rfl, cmpG, rfl⟩)))) rfl ?_
  refine s_ret (allL (lcB (own := [("_law_k", 10)]) (xs := List.range (togL ss).old.length) (enc := fun (k : Nat) => .int ((1 + k : Nat) : Int)) (g := fun _ => true) ⟨iRab (a := 1) (n := (togL ss).old.length) (dc cI) (dc (addI (dc (va 11)) (dc cI))) (by omega) (by omega), by kernel_rfl, by decide, fun a _ => gN 10, fun a _ => ts0, fun k hk _ => call (c_misses_right M) (aC (va 0) (aC (va 10) (aC (va 5) aN))) ⟨ss, 1 + k, ss.all heirB, rfl, C, fun s hs => by rw [R.same s hs]; have := List.mem_range.mp hk; omega, R.miss (1 + k) (by omega) (by have := List.mem_range.mp hk; omega), rfl⟩, by rw [List.length_range]; omega⟩)) ?_
  rw [all_true fun _ _ => rfl]
end DL
set_option Elab.async false
set_option linter.all false
set_option maxRecDepth 100000
set_option maxHeartbeats 2000000
namespace DL
open PySem PySem.Spec PyProof.Rows L2
variable {m : Md}
structure Chn (ss : List Sh) : Prop where
  ok : ChOk ss
  lk : ∀ (i : Nat) (a b : Sh), ss[i]? = some a → ss[i + 1]? = some b → b.old = a.new
def AllRun : Prop := ∀ ss, Chn ss → RunOk ss
/-- next(tin, e) -/
theorem xNext {G : Gm} {δ : Sto} {Ps : PsE} {e : Expr} {y : Str} {p p2 pos : Pos} {q : Addr} {a b c : Int} (M : MdF G.m) (i : Nat) (hi : δ[i]? = some (tin q a b c))
    (he : DX G e δ fun δ1 d => ∃ a1 c1 olds, δ1 = δ.set i (tin q a1 b c1) ∧ d = tI olds ∧ OldOk olds ∧ 0 ≤ c1 ∧ c1 ≤ c + 11 ∧ ∀ s a' c', s.old = olds → GoodS s → 0 ≤ c' → c' ≤ c + 61 → Ps (δ.set i (tin q a' b c')) (eS s)) (c0 : 0 ≤ c) (ok : TinOk b (c + 71))
    (hk : 3 ≤ G.k := by exact Nat.le_of_ble_eq_true rfl) (hg : G.sc.names.lookup ("_law_next" : Str) = some .globalImplicit := by rfl) (hN : G.N[i]? = some y := by rfl) (hv : Vis G.sc y := by first | exact Or.inl rfl | exact Or.inr (Or.inl rfl) | exact Or.inr (Or.inr rfl)) (hd : (y == ("__debug__" : Str)) = false := by decide) (hcd : (y == ("__classdict__" : Str)) = false := by decide)
    (hs : ∀ env, starEach [.Name y p2, e] env = (false, eval (.Name y p2) env) :: starEach [e] env := by intro _; rfl) (hse : ∀ env, starEach [e] env = (false, eval e env) :: starEach [] env := by intro _; rfl) (hpl : ∀ env, (backTo pos (starEach [e] env)).any (·.1) = false := by intro _; rfl) : DX G (.Call (.Name "_law_next" p) [.Name y p2, e] [] pos) δ Ps :=
  x_call1 (c_next M) i hi (Pr := fun δ1 ds => ∃ a1 c1 olds, δ1 = δ.set i (tin q a1 b c1) ∧ ds = [tI olds] ∧ OldOk olds ∧ 0 ≤ c1 ∧ c1 ≤ c + 11 ∧ ∀ s a' c', s.old = olds → GoodS s → 0 ≤ c' → c' ≤ c + 61 → Ps (δ.set i (tin q a' b c')) (eS s)) (xaC (he.imp fun δ1 d ⟨a1, c1, olds, h1, h2, h3, h4, h5, h6⟩ => xa0 ⟨a1, c1, olds, h1, by rw [h2], h3, h4, h5, h6⟩) hse) (fun δ1 ds h => by
    obtain ⟨a1, c1, olds, rfl, rfl, oo, z0, z1, h⟩ := h
    refine ⟨_, get_set_at (lt_of_get hi), rfl, ⟨q, a1, b, c1, olds, rfl, ⟨ok.1, ok.2.1, by omega, by have := ok.2.2.2; omega⟩, z0, oo⟩, fun d w' hR => ?_⟩
    obtain ⟨s, a', c', rfl, so, gs, rfl, d0, d1⟩ := RlN.at hR
    rw [List.set_set]
    exact h s a' c' so gs d0 (by omega)) hk hg hN hv (by decide) hd hcd hs hpl
def PrR : List Sl → Prop := fun as => ∃ q a b, as = [tin q a b 0] ∧ 0 ≤ b ∧ b < 2 ^ 63
def RlR : RelO := fun as d as' => d = .bool true
theorem outR {q : Addr} {w w' : Obd} {r : List Sl} : outA [.ob q w] (.ob q w' :: r) [.ob q w'] := by
  refine ⟨⟨rfl, fun i => ?_⟩, fun i p o h => ?_⟩
  · match i with
    | 0 => exact .inl ⟨_, _, _, rfl, rfl⟩
    | i + 1 => exact .inr ⟨fun p o h => (by simp at h), .inr (by simp)⟩
  · match i, h with
    | 0, h => cases h; rfl
    | i + 1, h => simp at h
abbrev r5 : List Int := (List.range 5).map fun (k : Nat) => (k : Int)
theorem r5_old {n : Int} {ms : List Int} (h0 : 2 ≤ n) (h1 : n ≤ 3) (h : Pkd r5 n ms) : OldOk (srt ms) := by
  obtain ⟨r, p, l⟩ := h
  have l5 : (r5.length : Int) = 5 := rfl
  have ml : (ms.length : Int) = n := by rw [l, l5]; split <;> omega
  have nd : (ms ++ r).Nodup := p.nodup_iff.mpr (by decide)
  have sp := srt_perm ms
  have sl := sp.length_eq
  refine ⟨srt_lt (List.nodup_append.mp nd).1, fun x hx => ?_, by omega, by omega⟩
  have := p.mem_iff.mp (List.mem_append_left r (sp.mem_iff.mp hx))
  obtain ⟨k, hk, rfl⟩ := List.mem_map.mp this
  have := List.mem_range.mp hk
  omega
theorem chn_one {s : Sh} (g : GoodS s) : Chn [s] := ⟨⟨by simp, by simp, fun t ht => by rw [List.mem_singleton.mp ht]; exact g⟩, fun i a b h1 h2 => by simp at h2⟩
theorem chn_snoc {ss : List Sh} {s : Sh} (C : Chn ss) (hl : ss.length ≤ 2) (g : GoodS s) (e : s.old = (ss.getLastD s0).new) : Chn (ss ++ [s]) := by
  refine ⟨⟨by simp, by rw [List.length_append]; simp; omega, fun t ht => ?_⟩, fun i a b h1 h2 => ?_⟩
  · rcases List.mem_append.mp ht with ht | ht
    · exact C.ok.ok t ht
    · rw [List.mem_singleton.mp ht]
      exact g
  · have l2 := lt_of_get h2
    rw [List.length_append] at l2
    simp at l2
    by_cases hi : i + 1 < ss.length
    · rw [List.getElem?_append_left (by omega)] at h1
      rw [List.getElem?_append_left hi] at h2
      exact C.lk i a b h1 h2
    · have hi : i + 1 = ss.length := by omega
      rw [List.getElem?_append_left (by omega)] at h1
      rw [List.getElem?_append_right (by omega), hi, Nat.sub_self] at h2
      cases h2
      have z := (last_get C.ok.ne s0).1
      rw [List.getLast?_eq_getElem?, show ss.length - 1 = i by omega, h1] at z
      rw [e, ← Option.some.inj z]
theorem c_right (M : MdF m) (A : AllRun) : CalO m 12 "_law_right" 1 PrR RlR := by
  refine calO_of M (i := 75) (by decide) ["_law_tin", "_law_size_so", "_law_shifts_so", "_law_lap"] ["_law_tin"] 11 1 _ _ (by decide +kernel) rfl (fun _ _ _ _ _ _ us hl => match us, hl with | [_], _ => rfl) fun as hn hP hA => ?_
  obtain ⟨q, a, b, rfl, b0, b1⟩ := hP
  refine s_setX 1 (xAdd (Pa := fun δ1 d => δ1 = [tin q a b 0, .un, .un, .un] ∧ d = .int 2) (x0 cI ⟨rfl, rfl⟩) fun δ1 d1 h => ?_)
  obtain ⟨rfl, rfl⟩ := h
  refine ⟨2, rfl, xTake M 0 rfl cI (by decide) (by decide) ⟨b0, b1, by decide, by decide⟩ fun r a1 c1 r0 r1 z0 z1 => ⟨r, rfl, ?_⟩⟩
  refine s_setX1 2 (xNext M 0 rfl (xTupL (xSortI (xPick M 0 rfl (gs := r5) (DN.cast (listR (dc cI) (by decide)) rfl) (by decide) (x0 (va 1) ⟨a1, c1, 2 + r, set_id rfl, rfl, by omega, z0, by omega, fun ms a2 c2 pk y0 y1 => ⟨ms, rfl, _, rfl, a2, c2, srt ms, rfl, rfl, r5_old (by omega) (by omega) pk, y0, y1, fun s a3 c3 so gs u0 u1 => ?_⟩⟩) z0 ⟨b0, b1, by omega, by omega⟩))) z0 ⟨b0, b1, by omega, by omega⟩)
  refine s_forX (α := Unit) (xs := []) (js := [3]) (j := fun i => (i : Int)) (xAdd (Pa := fun δ1 d => δ1 = [tin q a3 b c3, .va (.int (2 + r)), .ow [eS s], .un] ∧ d = .int 1) (x0 cI ⟨rfl, rfl⟩) fun δ1 d1 h => ?_)
  obtain ⟨rfl, rfl⟩ := h
  refine ⟨1, rfl, xIntB (xEq (xTake M 0 rfl cI (by decide) (by decide) ⟨b0, b1, u0, by omega⟩ fun r2 a4 c4 _ _ w0 w1 => ⟨r2, rfl, x0 cI ⟨0, rfl, decide (r2 = 0), rfl, _, rfl, ?_⟩⟩))⟩
  obtain ⟨n, nn, n2⟩ : ∃ n : Nat, (1 : Int) + (if decide (r2 = 0) = true then 1 else 0) = (n : Int) ∧ n ≤ 2 := by
    cases decide (r2 = 0) with
    | true => exact ⟨2, rfl, Nat.le_refl _⟩
    | false => exact ⟨1, rfl, by decide⟩
  rw [nn]
  refine ⟨n, fun i δ' => ∃ ss a5 c5 lap, δ' = [tin q a5 b c5, .va (.int (2 + r)), .ow (ss.map fun s => eS s), lap] ∧ Chn ss ∧ ss.length = i + 1 ∧ 0 ≤ c5 ∧ c5 ≤ 70 + 61 * i, rfl, by omega, ⟨[s], a4, c4, .un, rfl, chn_one gs, rfl, w0, by omega⟩, fun i δ' hi hI => ?_, fun δ' hI => ?_⟩
  · obtain ⟨ss, a5, c5, lap, rfl, C, hl, v0, v1⟩ := hI
    obtain ⟨hz, hmz⟩ := last_get C.ok.ne s0
    refine ⟨_, gN 3, ?_⟩
    refine s_appX (q := fun _ => True) 2 ⟨_, rfl⟩ (xNext M 0 rfl (x0 (ixT (dc (ixL (vo 2) (dc cM1) (d := eS (ss.getLastD s0)) (atI_last (by rw [List.getLast?_map, hz]; rfl)))) (dc cI) (d := tI (ss.getLastD s0).new) rfl) ⟨a5, c5, (ss.getLastD s0).new, set_id rfl, rfl, (C.ok.ok _ hmz).n, v0, by omega, fun s' a6 c6 so' gs' t0 t1 => ⟨ss.map fun s => eS s, rfl, by rw [List.length_map]; omega, ?_⟩⟩) v0 ⟨b0, b1, by omega, by omega⟩)
    refine s_nil ⟨ss ++ [s'], a6, c6, .va (.int (i : Int)), ?_, chn_snoc C (by omega) gs' so', by rw [List.length_append, hl]; rfl, t0, by omega⟩
    rw [List.map_append]
    rfl
  · obtain ⟨ss, a5, c5, lap, rfl, C, hl, v0, v1⟩ := hI
    refine s_frz 2 ?_
    exact s_ret (call (c_run_right M) (aC (va 2) aN) ⟨ss, rfl, A ss C, rfl⟩) ⟨_, outR, rfl⟩
end DL
set_option Elab.async false
set_option linter.all false
set_option maxRecDepth 100000
set_option maxHeartbeats 2000000
namespace DL
open PySem PySem.Spec PyProof.Rows L2
/-! ### written constants, as deep as n -/
def cstA (f : Expr → Option PyData) : List Expr → Option (List PyData)
  | [] => some []
  | e :: es => match f e with
    | none => none
    | some d => (cstA f es).map fun ds => d :: ds
def cstE : Nat → Expr → Option PyData
  | _, .Constant (.int i) _ _ => some (.int i)
  | _, .Constant (.bool i) _ _ => some (.bool i)
  | _, .Constant .none _ _ => some .none
  | n + 1, .Tuple es _ _ => if es.length ≤ 1000 then (cstA (cstE n) es).map .tuple else none
  | _, _ => none
theorem cst_hs {n : Nat} {e : Expr} {d : PyData} (h : cstE n e = some d) (es : List Expr) (env : Env) : starEach (e :: es) env = (false, eval e env) :: starEach es env := by
  unfold cstE at h
  split at h
  · rfl
  · rfl
  · rfl
  · rfl
  · cases h
theorem dCstA {G : Gm} {δ : Sto} {n : Nat} (ih : ∀ (e : Expr) (d : PyData), cstE n e = some d → DE G e δ d) : ∀ (es : List Expr) (ds : List PyData), cstA (cstE n) es = some ds → DA G es δ ds ∧ ds.length = es.length
  | [], ds, h => by
    cases h
    exact ⟨aN, rfl⟩
  | e :: es, ds, h => by
    unfold cstA at h
    cases q : cstE n e with
    | none =>
      rw [q] at h
      cases h
    | some d =>
      rw [q] at h
      obtain ⟨r, h1, rfl⟩ := Option.map_eq_some_iff.mp h
      obtain ⟨a, b⟩ := dCstA ih es r h1
      exact ⟨aC (ih e d q) a (cst_hs q es), by rw [List.length_cons, List.length_cons, b]⟩
theorem dCst {G : Gm} {δ : Sto} : ∀ (n : Nat) (e : Expr) (d : PyData), cstE n e = some d → DE G e δ d
  | 0, e, d, h => by
    unfold cstE at h
    split at h
    · cases h
      exact cI
    · cases h
      exact cB
    · cases h
      exact cN
    · rename_i z
      cases z
    · cases h
  | n + 1, e, d, h => by
    unfold cstE at h
    split at h
    · cases h
      exact cI
    · cases h
      exact cB
    · cases h
      exact cN
    · rename_i k es _ _ z
      have z : n = k := Nat.succ.inj z
      subst z
      split at h
      · obtain ⟨ds, h1, rfl⟩ := Option.map_eq_some_iff.mp h
        obtain ⟨a, b⟩ := dCstA (dCst n) es ds h1
        exact dTup a (by omega)
      · cases h
    · cases h
section
variable {G : Gm} {a b : Expr} {rest : List Stmt} {δ δ' : Sto} {P : Po} {d : PyData} {x y : Str} {pos px py pt pt2 : Pos} {kt k2 : Nat} {js : List Nat}
theorem sw_const {env : Env} (h : [a, b].all (foldedForSure 8) = true) : swappedStores [.Tuple [.Name x px, .Name y py] kt pt] (.Tuple [a, b] k2 pt2) env = pure none := by
  unfold swappedStores
  simp only [h, if_true]
  split
  · rfl
  · split
    · rfl
    · split <;> rfl
/-- a walk, shut: Lean does not look into it -/
structure DSW (G : Gm) (ss : List Stmt) (δ : Sto) (P : Po) : Prop where
  h : DS G ss δ P
/-- x, y = a, b of constants -/
theorem s_tgtK (n : Nat) (he : cstE n (.Tuple [a, b] k2 pt2) = some d) (hg : DG G (.Tuple [.Name x px, .Name y py] kt pt) js δ d δ') (k : DSW G rest δ' P) (h : [a, b].all (foldedForSure 8) = true) :
    DSW G (.Assign [.Tuple [.Name x px, .Name y py] kt pt] (.Tuple [a, b] k2 pt2) pos :: rest) δ P :=
  ⟨s_cons (ds1_of fun X hX => ⟨_, ps_asg pe_m (pg_g hX) (show swapsWithSole _ _ _ _ = pure false from rfl) (sw_const h) rfl, fun F0 H0 F H σ S D w => dCst n _ _ he X hX F0 H0 F H σ S _ fun v F' H' g r =>
    gmg_of hg F0 H0 F' H' σ v (S.grow g) r _ fun σ' S' _ => w.nx _ F' H' σ' k.h g.ff S'⟩)⟩
/-- x = [a, ..] of constants -/
theorem s_setK (i n : Nat) {es : List Expr} {p : Pos} {ds : List PyData} (he : cstA (cstE n) es = some ds) (hz : ds.length ≤ 1000) (k : DSW G rest (δ.set i (.va (.list ds))) P) (hi : G.N[i]? = some x) (hx : Loc G.sc x) (hf : G.fn x = true ∨ G.sc.names.lookup x = some .local) : DSW G (.Assign [.Name x p] (.List es pt2) pos :: rest) δ P :=
  ⟨s_set i (dne (dLst (dCstA (dCst n) es ds he).1 (by omega))) k.h hi hx (fun _ => rfl) hf⟩
theorem s_setV (i : Nat) {e : Expr} {p : Pos} (he : DE G e δ d) (k : DSW G rest (δ.set i (.va d)) P) (hi : G.N[i]? = some x := by rfl) (hx : Loc G.sc x := by first | exact Or.inl rfl | exact Or.inr rfl) (hs : ∀ env, swapsWith e (some (.Name x p)) pos.line env = pure false := by intro _; rfl) (hf : G.fn x = true ∨ G.sc.names.lookup x = some .local := by first | exact .inl rfl | exact .inr rfl) : DSW G (.Assign [.Name x p] e pos :: rest) δ P :=
  ⟨s_set i he k.h hi hx hs hf⟩
end
variable {m : Md}
abbrev hOne : Sh := ⟨[0, 1], [1, 2], [(0, 2)]⟩
abbrev hTwo : Sh := ⟨[1, 2], [2, 3], [(1, 3)]⟩
abbrev hOdd : Sh := ⟨[0, 1], [1, 2], [(1, 2)]⟩
abbrev hLate : Sh := ⟨[1, 2], [1, 2], [(0, 2)]⟩
theorem srt_two {a b : Int × Int} (h : leP a b = true) : srtP [a, b] = [a, b] := List.mergeSort_of_pairwise (by simp [h])
theorem hr_two {s : Sh} {t : Mp} {a b : Int × Int} (h : hrM (Ws s) s.new [] = some t) (e : t.map (fun q => (q.2, q.1)) = [a, b]) (l : leP a b = true) : heirsL s = some [a, b] := by
  unfold heirsL
  rw [h, Option.map_some, e, srt_two l]
theorem hr1 : heirsL (togL [hOne, hTwo]) = some [(2, 0), (3, 1)] := hr_two (t := [(0, 2), (1, 3)]) (by decide +kernel) rfl (by decide)
theorem hr2 : heirsL (togL [hOdd, hTwo]) = none := by decide +kernel
theorem hr3 : heirsL hOdd = none := by decide +kernel
theorem hr4 : heirsL (togL [hOdd, hLate]) = some [(1, 1), (2, 0)] := hr_two (t := [(1, 1), (0, 2)]) (by decide +kernel) rfl (by decide)
theorem lo1 : (losL hOdd 1 2).isSome = true := by decide +kernel
theorem lo2 : (losL hOdd 2 1).isSome = false := by decide +kernel
theorem old_ok {a b : Int} (h : 0 ≤ a ∧ a < b ∧ b < 8) : OldOk [a, b] := ⟨by simp; omega, fun p hp => by simp at hp; omega, by simp, by simp⟩
theorem g1 : GoodS hOne := ⟨old_ok (by decide), old_ok (by decide), rfl, by decide, by decide⟩
theorem g2 : GoodS hTwo := ⟨old_ok (by decide), old_ok (by decide), rfl, by decide, by decide⟩
theorem g3 : GoodS hOdd := ⟨old_ok (by decide), old_ok (by decide), rfl, by decide, by decide⟩
theorem g4 : GoodS hLate := ⟨old_ok (by decide), old_ok (by decide), rfl, by decide, by decide⟩
theorem ch1 : Chn [hOne, hTwo] := chn_snoc (chn_one g1) (by decide) g2 rfl
theorem ch2 : Chn [hOdd, hTwo] := chn_snoc (chn_one g3) (by decide) g2 rfl
theorem ch3 : Chn [hOne] := chn_one g1
theorem ch4 : Chn [hOdd, hLate] := chn_snoc (chn_one g3) (by decide) g4 rfl
theorem gdSm {s : Sh} (g : GoodS s) : s.Sm ∧ s.new.Nodup := ⟨⟨g.o.hi, g.n.hi, Nat.le_trans g.cz (by decide)⟩, lt_nodup g.n.pw⟩
abbrev gotL : List PyData := [oC (some [(2, 0), (3, 1)]), .none, .none, oC (some [(1, 1), (2, 0)]), .bool true, .bool false]
theorem gotC : Cmp 3 (.list gotL) := .lst (by decide) fun d hd => by
  simp only [gotL, List.mem_cons, List.not_mem_nil, or_false] at hd
  have two : ∀ l : List (Int × Int), l.length ≤ 300 → Cmp 2 (tC l) := fun l hl => .tup (by rw [List.length_map]; exact hl) fun d hd => by
    obtain ⟨p, _, rfl⟩ := List.mem_map.mp hd
    refine .tup (by simp) fun d hd => ?_
    simp only [List.mem_cons, List.not_mem_nil, or_false] at hd
    rcases hd with rfl | rfl <;> exact .int
  rcases hd with rfl | rfl | rfl | rfl | rfl | rfl
  · exact two _ (by decide)
  · exact .non
  · exact .non
  · exact two _ (by decide)
  · exact .bl
  · exact .bl
theorem cal_ofW {m : Md} (M : MdF m) {x : Str} {i : Nat} (hx : (x, i) ∈ DFL) (N ps : List Str) (k n : Nat) (Rl : List PyData → PyData → Prop) (hs : C8.scC N ps (defScope (top i)) = true) (hn : ps.length = n)
    (hb : ∀ (kV doc pm : Value) (an : Option Addr) (cdv ct : Value) (us : List Value), us.length = ps.length → bindArgs (PySem.W.fnOf x x (defArgs (top i)) (defBody (top i)) (defScope (top i)) .none kV doc pm an cdv ct) ⟨us, []⟩ = pure (ps.zip us))
    (h : ∀ ds d, ds.length = n → Rl ds d → DSW ⟨m, N, defScope (top i), fun _ => true, k⟩ (defBody (top i)) (startD N ds) (Po.fn d)) : Cal m (k + 1) x n Rl :=
  cal_of M hx N ps k n Rl hs hn hb fun ds d h1 h2 => (h ds d h1 h2).h
theorem s_wrap {G : Gm} {ss : List Stmt} {δ : Sto} {P : Po} (h : DSW G ss δ P) : DS G ss δ P := h.h
theorem c_by_hand (M : MdF m) (A : AllRun) : Cal m 12 "_law_by_hand_right" 0 (fun ds d => ds = [] ∧ d = .bool true) := by
  refine cal_ofW M (i := 74) (by decide) ["_law_one_so", "_law_two_so", "_law_odd_so", "_law_late_so", "_law_got", "_law_due", "_law_own"] [] 11 0 _ (by decide +kernel) rfl (fun _ _ _ _ _ _ us hl => match us, hl with | [], _ => rfl) fun ds d hn h => ?_
  obtain ⟨rfl, rfl⟩ := h
  refine s_tgtK 4 (js := [0] ++ [1]) (d := .tuple [eS hOne, eS hTwo]) (by kernel_rfl) (gT2 (gN 0) (gN 1)) ?_ (by decide +kernel)
  refine s_tgtK 4 (js := [2] ++ [3]) (d := .tuple [eS hOdd, eS hLate]) (by kernel_rfl) (gT2 (gN 2) (gN 3)) ?_ (by decide +kernel)
  obtain ⟨m1, n1, _, _⟩ := tog_sm ch1.ok
  obtain ⟨m2, n2, _, _⟩ := tog_sm ch2.ok
  obtain ⟨m4, n4, _, _⟩ := tog_sm ch4.ok
  obtain ⟨m3, n3⟩ := gdSm g3
  have tg : ∀ {s t : Sh}, Chn [s, t] → ∃ ss : List Sh, [PyData.list [eS s, eS t]] = [.list (ss.map fun s => eS s)] ∧ ss ≠ [] ∧ ss.length ≤ 100 ∧ (∀ s ∈ ss, s.cp.length ≤ 100) ∧ eS (togL [s, t]) = eS (togL ss) := fun {s t} C => ⟨[s, t], rfl, by simp, by simp, fun u hu => Nat.le_trans (C.ok.ok u hu).cz (by decide), rfl⟩
  refine s_setV 4 (d := .list [oC (heirsL (togL [hOne, hTwo])), oC (heirsL (togL [hOdd, hTwo])), oC (heirsL hOdd)]) (dne (dLst (aC (call (c_heirs M) (aC (call (c_together M) (aC (dne (dLst (aC (va 0) (aC (va 1) aN)))) aN) (tg ch1)) aN) ⟨togL [hOne, hTwo], rfl, m1, n1, rfl⟩) (aC (call (c_heirs M) (aC (call (c_together M) (aC (dne (dLst (aC (va 2) (aC (va 1) aN)))) aN) (tg ch2)) aN) ⟨togL [hOdd, hTwo], rfl, m2, n2, rfl⟩) (aC (call (c_heirs M) (aC (va 2) aN) ⟨hOdd, rfl, m3, n3, rfl⟩) aN))))) ?_
  refine s_setV 4 (d := .list gotL) (DP.cast (dne (catL (dc (va 4)) (dnc (dLst (aC (call (c_heirs M) (aC (call (c_together M) (aC (dne (dLst (aC (va 2) (aC (va 3) aN)))) aN) (tg ch4)) aN) ⟨togL [hOdd, hLate], rfl, m4, n4, rfl⟩) (aC (call (c_can_lose M) (aC (va 2) (aC cI (aC cI aN))) ⟨hOdd, 1, 2, rfl, m3, by decide, rfl⟩) (aC (call (c_can_lose M) (aC (va 2) (aC cI (aC cI aN))) ⟨hOdd, 2, 1, rfl, m3, by decide, rfl⟩) aN))))) (by simp))) (by rw [hr1, hr2, hr3, hr4, lo1, lo2]; rfl)) ?_
  refine s_setK 5 4 (ds := gotL) (by kernel_rfl) (by decide) ?_ rfl (by first | exact Or.inl rfl | exact Or.inr rfl) (by first | exact .inl rfl | exact .inr rfl)
  refine ⟨?_⟩
  refine s_no (k := !true) (tNot (tV (dc (call (c_same M 3) (aC (va 4) (aC (va 5) aN)) ⟨_, rfl, gotC, rfl⟩)))) rfl ?_
  have run : ∀ {ss : List Sh}, Chn ss → ∃ ss' : List Sh, [PyData.list (ss.map fun s => eS s)] = [.list (ss'.map fun s => eS s)] ∧ RunOk ss' ∧ PyData.bool true = .bool true := fun {ss} C => ⟨ss, rfl, A ss C, rfl⟩
  refine s_ret (allL (lcB (own := [("_law_own", 6)]) (xs := [[hOne, hTwo], [hOdd, hTwo], [hOne]]) (enc := fun ss => .list (ss.map fun s => eS s)) (g := fun _ => true) ⟨iT (dTup (aC (dne (dLst (aC (va 0) (aC (va 1) aN)))) (aC (dne (dLst (aC (va 2) (aC (va 1) aN)))) (aC (dne (dLst (aC (va 0) aN))) aN)))), by kernel_rfl, by decide, fun a _ => gN 6, fun a _ => ts0, fun a ha _ => call (c_run_right M) (aC (va 6) aN) (run (by
    simp only [List.mem_cons, List.not_mem_nil, or_false] at ha
    rcases ha with rfl | rfl | rfl
    · exact ch1
    · exact ch2
    · exact ch3)), by decide⟩)) ?_
  rw [all_true fun _ _ => rfl]
end DL
set_option Elab.async false
set_option linter.all false
set_option maxRecDepth 100000
set_option maxHeartbeats 2000000
namespace DL
open PySem PySem.Spec PyProof.Rows L2
variable {m : Md}
theorem boxB_ok (c : Int) (k : Nat) (hk : k ≤ 100) : 0 ≤ boxB c (k : Int) ∧ boxB c (k : Int) < 2 ^ 63 := by
  unfold boxB
  have h1 := fm_lo (i := c) (j := 2305843009213693951) (by decide)
  have h2 := fm_hi (i := c) (j := 2305843009213693951) (by decide)
  omega
abbrev RlL : List PyData → PyData → Prop := fun ds d => ∃ script : List Int, ds = [scrD script] ∧ script.length ≤ 1000 ∧ d = .bool true
theorem ds_law (M : MdF m) (A : AllRun) (ds : List PyData) (d : PyData) (hn : ds.length = 1) (h : RlL ds d) : DS ⟨m, ["_law_script", "_law_cells_so", "_law_k"], defScope (top 76), fun _ => true, 12⟩ (defBody (top 76)) (startD ["_law_script", "_law_cells_so", "_law_k"] ds) (Po.fn d) := by
  obtain ⟨script, rfl, hl, rfl⟩ := h
  refine s_no (k := !true) (tNot (tV (dc (call0 (c_by_hand M A) ⟨rfl, rfl⟩)))) rfl ?_
  obtain ⟨ms, em, ml⟩ := cut_ints script (some 1) (some 63)
  refine s_set 1 (d := lI [sumC ms (script.headD 0)]) (call (c_cells M) (aC (va 0) (aC cI aN)) ⟨script, rfl, hl, ms, ml, em, rfl⟩) ?_
  refine s_ret (allL (lcB (own := [("_law_k", 2)]) (xs := List.range 1) (enc := fun (k : Nat) => .int (k : Int)) (g := fun _ => true) ⟨iRn (n := 1) (dc (DP.cast (lenL (dc (va 1))) rfl)) (by decide), by kernel_rfl, by decide, fun a _ => gN 2, fun a _ => ts0, fun k hk _ => callF (c_right M A) (callN (c_box M) (aC (va 1) (aC (va 2) aN)) ⟨[sumC ms (script.headD 0)], k, sumC ms (script.headD 0), rfl, by have := List.mem_range.mp hk; have e0 : k = 0 := (by omega); rw [e0]; rfl, rfl⟩) (fun z => ⟨z, _, _, rfl, boxB_ok _ k (by have := List.mem_range.mp hk; omega)⟩) (fun z w' d h => h), by decide⟩)) ?_
  rfl
theorem law_ok {f : Addr} {fd : FuncData} (F : FunD m.K "law" "law" (defArgs (top 76)) (defBody (top 76)) (defScope (top 76)) [] [] f fd) (M : MdF m) (A : AllRun) : FnOk m.P m.w m.K m.mg m.base CX0 13 f fd ["_law_script"] (spD m.K 1 RlL) := by
  have S : FnScope ["_law_script", "_law_cells_so", "_law_k"] ["_law_script"] (defScope (top 76)) := C8.fnScope_by (by decide +kernel)
  refine FunD.ok (P := m.P) (w := m.w) (mg := m.mg) (base := m.base) (k := 12) F S (fun vs H Q E q => ?_) (fun cdv A' outer s H vs Q E hr q => ?_)
  · obtain ⟨F1, ds, d, sF, r, hl, _⟩ := q
    rw [r.length, hl]
    rfl
  · obtain ⟨F1, ds, d, sF, r, hl, hR, q⟩ := q
    refine ⟨tmL (cxOf CX0 m.P m.w m.K m.mg m.base ["_law_script", "_law_cells_so", "_law_k"] "law" (defScope (top 76)) f cdv A' outer s H E).nox (defBody (top 76)), PSs.nox pss_m, ?_⟩
    refine ds_law M A ds d hl hR _ ⟨rfl, rfl, rfl, rfl, rfl, rfl, rfl, rfl, hr, rfl, rfl, S.nd⟩ F1 H F1 H (L2.start _ vs) (stt_start sF r) _ ⟨fun δ' F' H' σ' p s' S' => ?_, fun δ' d' v F' H' σ' p s' S' r' => ?_, fun _ _ _ _ p => p.elim, fun _ _ _ _ p => p.elim, fun _ _ _ _ p => p.elim⟩
    · have e : d = .none := p
      subst e
      exact q .non F' H' S'.gr .non
    · have e : d' = d := p
      subst e
      exact q v F' H' S'.gr r'
end DL
set_option linter.all false
set_option maxRecDepth 100000
set_option maxHeartbeats 2000000
namespace DL
/-! ### who hands on to whom -/
theorem mem_stepA {f : List Int} {c : Int × Int} {x : Int} : x ∈ stepA f c ↔ x ∈ f ∨ (x = c.1 ∧ c.2 ∈ f) := by
  unfold stepA
  by_cases h : c.2 ∈ f ∧ ¬ c.1 ∈ f
  · rw [if_pos h, List.mem_append, List.mem_singleton]
    constructor
    · rintro (h1 | h1)
      · exact .inl h1
      · exact .inr ⟨h1, h.1⟩
    · rintro (h1 | ⟨h1, _⟩)
      · exact .inl h1
      · exact .inr h1
  · rw [if_neg h]
    constructor
    · exact .inl
    · rintro (h1 | ⟨h1, h2⟩)
      · exact h1
      · by_cases h3 : c.1 ∈ f
        · rw [h1]; exact h3
        · exact absurd ⟨h2, h3⟩ h
theorem ahL_nil (f : List Int) : ahL [] f = f := rfl
theorem ahL_cons (c : Int × Int) (cp : List (Int × Int)) (f : List Int) : ahL (c :: cp) f = stepA (ahL cp f) c := by
  unfold ahL
  rw [List.reverse_cons, List.foldl_append]
  rfl
theorem mem_ahL_cons {c : Int × Int} {cp : List (Int × Int)} {f : List Int} {x : Int} : x ∈ ahL (c :: cp) f ↔ x ∈ ahL cp f ∨ (x = c.1 ∧ c.2 ∈ ahL cp f) := by
  rw [ahL_cons, mem_stepA]
theorem ahL_app (a b : List (Int × Int)) (f : List Int) : ahL (a ++ b) f = ahL a (ahL b f) := by
  unfold ahL
  rw [List.reverse_append, List.foldl_append]
theorem ahL_one : ∀ {cp : List (Int × Int)} {f : List Int} {x : Int}, x ∈ ahL cp f ↔ ∃ y ∈ f, x ∈ ahL cp [y]
  | [], f, x => by
    constructor
    · intro h
      exact ⟨x, h, List.mem_singleton.mpr rfl⟩
    · rintro ⟨y, hy, h⟩
      rw [List.mem_singleton.mp (show x ∈ [y] from h)]
      exact hy
  | c :: cp, f, x => by
    rw [mem_ahL_cons, ahL_one, ahL_one (x := c.2)]
    constructor
    · rintro (⟨y, hy, h⟩ | ⟨e, y, hy, h⟩)
      · exact ⟨y, hy, mem_ahL_cons.mpr (.inl h)⟩
      · exact ⟨y, hy, mem_ahL_cons.mpr (.inr ⟨e, h⟩)⟩
    · rintro ⟨y, hy, h⟩
      rcases mem_ahL_cons.mp h with h | ⟨e, h⟩
      · exact .inl ⟨y, hy, h⟩
      · exact .inr ⟨e, y, hy, h⟩
theorem mem_stepF {g : List Int} {c : Int × Int} {x : Int} : x ∈ stepF g c ↔ x ∈ g ∨ (x = c.2 ∧ c.1 ∈ g) := by
  unfold stepF
  by_cases h : c.1 ∈ g ∧ ¬ c.2 ∈ g
  · rw [if_pos h, List.mem_append, List.mem_singleton]
    constructor
    · rintro (h1 | h1)
      · exact .inl h1
      · exact .inr ⟨h1, h.1⟩
    · rintro (h1 | ⟨h1, _⟩)
      · exact .inl h1
      · exact .inr h1
  · rw [if_neg h]
    constructor
    · exact .inl
    · rintro (h1 | ⟨h1, h2⟩)
      · exact h1
      · by_cases h3 : c.2 ∈ g
        · rw [h1]; exact h3
        · exact absurd ⟨h2, h3⟩ h
theorem fwd_hits : ∀ {cp : List (Int × Int)} {g crew : List Int}, (∃ k ∈ fwdL cp g, k ∈ crew) ↔ ∃ j ∈ g, j ∈ ahL cp crew
  | [], g, crew => Iff.rfl
  | c :: cp, g, crew => by
    show (∃ k ∈ fwdL cp (stepF g c), k ∈ crew) ↔ _
    rw [fwd_hits]
    constructor
    · rintro ⟨j, hj, h⟩
      rcases mem_stepF.mp hj with hj | ⟨rfl, h1⟩
      · exact ⟨j, hj, mem_ahL_cons.mpr (.inl h)⟩
      · exact ⟨c.1, h1, mem_ahL_cons.mpr (.inr ⟨rfl, h⟩)⟩
    · rintro ⟨j, hj, h⟩
      rcases mem_ahL_cons.mp h with h | ⟨e, h'⟩
      · exact ⟨j, mem_stepF.mpr (.inl hj), h⟩
      · exact ⟨c.2, mem_stepF.mpr (.inr ⟨rfl, e ▸ hj⟩), h'⟩
theorem mem_srcL {cp : List (Int × Int)} {crew : List Int} {x : Int} : x ∈ srcL cp crew ↔ (0 ≤ x ∧ x < 8) ∧ x ∈ ahL cp crew := by
  unfold srcL
  rw [List.mem_map]
  have one : ∀ j : Int, ((fwdL cp [j]).any fun k => decide (k ∈ crew)) = true ↔ j ∈ ahL cp crew := fun j => by
    rw [List.any_eq_true]
    have := fwd_hits (cp := cp) (g := [j]) (crew := crew)
    constructor
    · rintro ⟨k, h1, h2⟩
      obtain ⟨i, hi, h⟩ := this.mp ⟨k, h1, by simpa using h2⟩
      rw [List.mem_singleton.mp hi] at h
      exact h
    · intro h
      obtain ⟨k, h1, h2⟩ := this.mpr ⟨j, List.mem_singleton.mpr rfl, h⟩
      exact ⟨k, h1, by simpa using h2⟩
  constructor
  · rintro ⟨j, hj, rfl⟩
    obtain ⟨h1, h2⟩ := List.mem_filter.mp hj
    have := List.mem_range.mp h1
    exact ⟨⟨by omega, by omega⟩, (one _).mp h2⟩
  · rintro ⟨⟨h1, h2⟩, h⟩
    refine ⟨x.toNat, List.mem_filter.mpr ⟨List.mem_range.mpr (by omega), ?_⟩, by omega⟩
    rw [show ((x.toNat : Nat) : Int) = x by omega]
    exact (one x).mpr h
/-- what is asked of a move, or of several together -/
structure Gd (s : Sh) : Prop where
  o : s.old.Pairwise (· < ·)
  n : s.new.Pairwise (· < ·)
  rg : ∀ p ∈ s.old, 0 ≤ p ∧ p < 8
  e : s.old.length = s.new.length
  hi : s.old.length ≤ 3
theorem mem_orgL {s : Sh} {p x : Int} : x ∈ orgL s p ↔ x ∈ s.old ∧ x ∈ ahL s.cp [p] := by
  unfold orgL
  rw [List.mem_filter, decide_eq_true_iff]
theorem mem_rootsL {s : Sh} (g : Gd s) {p x : Int} : x ∈ rootsL s [p] ↔ x ∈ orgL s p := by
  unfold rootsL
  rw [List.mem_filter, decide_eq_true_iff, mem_srcL, mem_orgL]
  constructor
  · rintro ⟨⟨_, h⟩, h2⟩
    exact ⟨h2, h⟩
  · rintro ⟨h2, h⟩
    exact ⟨⟨g.rg x h2, h⟩, h2⟩
theorem lots_mem {homes : List Int} : ∀ {n : Nat} {l : List Int}, l ∈ lotsL homes n → (∀ x ∈ l, x ∈ homes) ∧ l.Pairwise (· < ·) ∧ l.length = n
  | 0, l, h => by
    have : l = [] := by simpa [lotsL] using h
    subst this
    exact ⟨fun _ h => (nomatch h), .nil, rfl⟩
  | n + 1, l, h => by
    obtain ⟨l0, h0, h1⟩ := List.mem_flatMap.mp (show l ∈ lotStep homes (lotsL homes n) from h)
    obtain ⟨p, hp, rfl⟩ := List.mem_map.mp h1
    obtain ⟨a, b, c⟩ := lots_mem h0
    obtain ⟨hp1, hp2⟩ := List.mem_filter.mp hp
    refine ⟨fun x hx => ?_, ?_, by rw [List.length_append, c]; rfl⟩
    · rcases List.mem_append.mp hx with hx | hx
      · exact a x hx
      · rw [List.mem_singleton.mp hx]; exact hp1
    · rw [List.pairwise_append]
      refine ⟨b, by simp, fun x hx y hy => ?_⟩
      rw [List.mem_singleton.mp hy]
      have hne : l0 ≠ [] := fun e => by rw [e] at hx; cases hx
      have hl : l0.getLastD 0 < p := by simpa [hne] using hp2
      have hd := List.dropLast_concat_getLast hne
      have hgl : l0.getLastD 0 = l0.getLast hne := by rw [List.getLastD_eq_getLast?, List.getLast?_eq_some_getLast hne]; rfl
      rw [hgl] at hl
      rw [← hd] at hx b
      rcases List.mem_append.mp hx with hx | hx
      · have := (List.pairwise_append.mp b).2.2 x hx _ (List.mem_singleton.mpr rfl)
        omega
      · rw [List.mem_singleton.mp hx]; exact hl
theorem mem_lots {homes : List Int} : ∀ {n : Nat} {l : List Int}, (∀ x ∈ l, x ∈ homes) → l.Pairwise (· < ·) → l.length = n → l ∈ lotsL homes n
  | 0, l, _, _, h => by
    rw [List.length_eq_zero_iff.mp h]
    simp [lotsL]
  | n + 1, l, h1, h2, h3 => by
    have hne : l ≠ [] := fun e => by rw [e] at h3; cases h3
    have hd := List.dropLast_concat_getLast hne
    refine List.mem_flatMap.mpr ⟨l.dropLast, mem_lots (fun x hx => h1 x (List.dropLast_subset l hx)) (h2.sublist (List.dropLast_sublist l)) (by rw [List.length_dropLast]; omega), List.mem_map.mpr ⟨l.getLast hne, List.mem_filter.mpr ⟨h1 _ (List.getLast_mem hne), ?_⟩, hd⟩⟩
    by_cases he : l.dropLast = []
    · simp [he]
    · have hgl : l.dropLast.getLastD 0 = l.dropLast.getLast he := by rw [List.getLastD_eq_getLast?, List.getLast?_eq_some_getLast he]; rfl
      rw [← hd] at h2
      have := (List.pairwise_append.mp h2).2.2 _ (List.getLast_mem he) _ (List.mem_singleton.mpr rfl)
      rw [hgl]
      simp [this]
/-- HEIRS, plainly -/
def Heir (s : Sh) : Prop := ∃ σ : Int → Int, (∀ p ∈ s.new, σ p ∈ orgL s p) ∧ ∀ p ∈ s.new, ∀ q ∈ s.new, σ p = σ q → p = q
/-- HEIRS of one move and of the next one are HEIRS of both -/
theorem heir_two {a b c : Sh} (h1 : Heir a) (h2 : Heir b) (l : b.old = a.new) (e1 : c.old = a.old) (e2 : c.new = b.new) (e3 : c.cp = a.cp ++ b.cp) : Heir c := by
  obtain ⟨σ, s1, s2⟩ := h1
  obtain ⟨τ, t1, t2⟩ := h2
  have tn : ∀ p ∈ b.new, τ p ∈ a.new := fun p hp => l ▸ (mem_orgL.mp (t1 p hp)).1
  refine ⟨fun p => σ (τ p), fun p hp => ?_, fun p hp q hq e => ?_⟩
  · rw [e2] at hp
    have o := mem_orgL.mp (s1 _ (tn p hp))
    refine mem_orgL.mpr ⟨by rw [e1]; exact o.1, ?_⟩
    rw [e3, ahL_app]
    exact ahL_one.mpr ⟨τ p, (mem_orgL.mp (t1 p hp)).2, o.2⟩
  · rw [e2] at hp hq
    exact t2 p hp q hq (s2 _ (tn p hp) _ (tn q hq) e)
theorem filter_app_len {l : List Int} (p : Int → Bool) : (l.filter p).length + (l.filter fun x => !p x).length = l.length := by
  induction l with
  | nil => rfl
  | cons x l ih =>
    rw [List.filter_cons, List.filter_cons, List.length_cons]
    cases p x <;> simp <;> omega
/-- the images of a lot -/
theorem img_len {s : Sh} {σ : Int → Int} (h1 : ∀ p ∈ s.new, σ p ∈ orgL s p) (h2 : ∀ p ∈ s.new, ∀ q ∈ s.new, σ p = σ q → p = q) {lot : List Int} (hl : ∀ x ∈ lot, x ∈ s.new) (nd : lot.Nodup) :
    lot.length ≤ (s.old.filter fun x => decide (x ∈ ahL s.cp lot)).length := by
  have e : (lot.map σ).length = lot.length := List.length_map _
  rw [← e]
  refine nodup_sub ?_ fun x hx => ?_
  · rw [List.Nodup, List.pairwise_map]
    refine List.Pairwise.imp_of_mem (fun {a b} ha hb h => fun e => h (h2 a (hl a ha) b (hl b hb) e)) nd
  · obtain ⟨p, hp, rfl⟩ := List.mem_map.mp hx
    have o := mem_orgL.mp (h1 p (hl p hp))
    rw [List.mem_filter, decide_eq_true_iff]
    exact ⟨o.1, ahL_one.mpr ⟨p, hp, o.2⟩⟩
theorem pw_nodup {l : List Int} (h : l.Pairwise (· < ·)) : l.Nodup := h.imp fun h => by omega
/-- with HEIRS nothing is lost -/
theorem heir_no_lose {s : Sh} (g : Gd s) (h : Heir s) {k : Nat} (h1 : 1 ≤ k) (h2 : k ≤ s.old.length) : losL s k (s.old.length + 1 - k) = none := by
  obtain ⟨σ, s1, s2⟩ := h
  unfold losL
  rw [List.find?_eq_none]
  intro lot hl
  obtain ⟨a, b, c⟩ := lots_mem hl
  have i := img_len s1 s2 a (pw_nodup b)
  have f := filter_app_len (l := s.old) fun x => decide (x ∈ ahL s.cp lot)
  have m : missL s.old s.cp lot = (s.old.filter fun x => !decide (x ∈ ahL s.cp lot)).length := rfl
  simp only [decide_eq_true_eq]
  omega
end DL
set_option linter.all false
set_option maxRecDepth 100000
set_option maxHeartbeats 2000000
namespace DL
/-! ### the search for HEIRS: if it ends well -/
abbrev wn (w : Wt) (p : Int) : List Int := (lw w p).getD []
/-- keys unlike, each one wanted -/
structure Mt (w : Wt) (t : Mp) : Prop where
  k : (t.map (·.1)).Nodup
  w : ∀ q ∈ t, q.1 ∈ wn w q.2
theorem lk_none {t : Mp} {k : Int} : lk t k = none ↔ ¬ k ∈ t.map (·.1) := by
  unfold lk
  rw [Option.map_eq_none_iff, List.find?_eq_none, List.mem_map]
  constructor
  · rintro h ⟨q, hq, e⟩
    exact h q hq (by simpa using e)
  · intro h q hq e
    exact h ⟨q, hq, by simpa using e⟩
theorem lk_of_mem : ∀ {t : Mp} {k v : Int}, (t.map (·.1)).Nodup → (k, v) ∈ t → lk t k = some v
  | [], k, v, _, h => nomatch h
  | (a, b) :: t, k, v, nd, h => by
    obtain ⟨n1, n2⟩ := List.nodup_cons.mp (show (a :: t.map (·.1)).Nodup from nd)
    unfold lk
    rcases List.mem_cons.mp h with h | h
    · cases h
      rw [List.find?_cons_of_pos (by simp)]
      rfl
    · have : a ≠ k := fun e => n1 (by rw [e]; exact List.mem_map.mpr ⟨_, h, rfl⟩)
      rw [List.find?_cons_of_neg (by simpa using this)]
      exact lk_of_mem n2 h
theorem pu_free {t : Mp} {o p : Int} (h : lk t o = none) : pu t o p = t ++ [(o, p)] := by
  have h := lk_none.mp h
  unfold pu
  rw [if_neg]
  intro e
  obtain ⟨q, hq, e⟩ := List.any_eq_true.mp e
  exact h (List.mem_map.mpr ⟨q, hq, by simpa using e⟩)
theorem pu_held {t : Mp} {o p p' : Int} (h : lk t o = some p') : pu t o p = t.map (fun q => if q.1 = o then (q.1, p) else q) := by
  have h := lk_mem h
  unfold pu
  rw [if_pos]
  exact List.any_eq_true.mpr ⟨_, h, by simp⟩
theorem pu_keys {t : Mp} {o p : Int} : (t.map (fun q => if q.1 = o then (q.1, p) else q)).map (·.1) = t.map (·.1) := by
  rw [List.map_map]
  refine List.map_congr_left fun q _ => ?_
  show (if q.1 = o then (q.1, p) else q).1 = q.1
  split <;> rfl
theorem upd_same {t : Mp} {o p : Int} (h : ¬ o ∈ t.map (·.1)) : t.map (fun q => if q.1 = o then (q.1, p) else q) = t := by
  have : ∀ q ∈ t, (if q.1 = o then (q.1, p) else q) = q := fun q hq => if_neg fun e => h (List.mem_map.mpr ⟨q, hq, e⟩)
  rw [List.map_congr_left this, List.map_id']
/-- one value becomes another one -/
theorem upd_vals : ∀ {t : Mp} {o p p' : Int} {vs : List Int}, (t.map (·.1)).Nodup → lk t o = some p' → (t.map (·.2)).Perm (p' :: vs) → ((t.map (fun q => if q.1 = o then (q.1, p) else q)).map (·.2)).Perm (p :: vs)
  | [], o, p, p', vs, _, h, _ => nomatch h
  | (a, b) :: t, o, p, p', vs, nd, h, hp => by
    obtain ⟨n1, n2⟩ := List.nodup_cons.mp (show (a :: t.map (·.1)).Nodup from nd)
    by_cases e : a = o
    · subst e
      have eb : b = p' := by
        unfold lk at h
        rw [List.find?_cons_of_pos (by simp)] at h
        exact Option.some.inj h
      subst eb
      rw [List.map_cons, upd_same n1, if_pos rfl]
      exact List.Perm.cons p (List.Perm.cons_inv (show (b :: t.map (·.2)).Perm (b :: vs) from hp))
    · have h' : lk t o = some p' := by
        unfold lk at h ⊢
        rw [List.find?_cons_of_neg (by simpa using e)] at h
        exact h
      rw [List.map_cons, if_neg e, List.map_cons]
      have hm : p' ∈ t.map (·.2) := List.mem_map.mpr ⟨_, lk_mem h', rfl⟩
      have h1 : (t.map (·.2)).Perm (p' :: (t.map (·.2)).erase p') := List.perm_cons_erase hm
      have h2 := upd_vals (p := p) n2 h' h1
      have h3 : (b :: (t.map (·.2)).erase p').Perm vs := by
        refine List.Perm.cons_inv (a := p') (((List.Perm.swap ..).trans (h1.symm.cons b)).trans hp)
      exact ((h2.cons b).trans (List.Perm.swap ..)).trans (h3.cons p)
theorem lk_pu {t : Mp} {o p k : Int} (h : k ≠ o) : lk (pu t o p) k = lk t k := by
  unfold pu
  split
  · unfold lk
    induction t with
    | nil => rfl
    | cons q t ih =>
      rw [List.map_cons]
      by_cases e : q.1 = k
      · have e2 : ¬ q.1 = o := fun z => h (e.symm.trans z)
        rw [if_neg e2, List.find?_cons_of_pos (by simpa using e), List.find?_cons_of_pos (by simpa using e)]
      · rw [List.find?_cons_of_neg (by split <;> simpa using e), List.find?_cons_of_neg (by simpa using e)]
        by_cases h2 : (t.any fun q => decide (q.1 = o)) = true
        · exact ih h2
        · have : ¬ o ∈ t.map (·.1) := fun z => by
            obtain ⟨q, hq, e⟩ := List.mem_map.mp z
            exact h2 (List.any_eq_true.mpr ⟨q, hq, by simpa using e⟩)
          rw [upd_same this]
  · unfold lk
    rw [List.find?_append]
    cases e : t.find? fun q => decide (q.1 = k) with
    | some q => rfl
    | none =>
      rw [List.find?_cons_of_neg (by simpa using fun z : o = k => h z.symm)]
      rfl
/-- the search ends well -/
structure Won (w : Wt) (place : Int) (t : Mp) (tr : List Int) (t' : Mp) : Prop where
  m : Mt w t'
  v : (t'.map (·.2)).Perm (place :: t.map (·.2))
  s : ∀ o ∈ tr, lk t' o = lk t o
theorem won_free {w : Wt} {place o : Int} {t : Mp} {tr : List Int} (m : Mt w t) (hw : o ∈ wn w place) (hn : ¬ o ∈ tr) (hl : lk t o = none) : Won w place t tr (pu t o place) := by
  refine ⟨⟨?_, fun q hq => ?_⟩, ?_, fun x hx => lk_pu (k := x) fun e => hn (by rw [← e]; exact hx)⟩
  · rw [pu_free hl, List.map_append]
    refine List.nodup_append.mpr ⟨m.k, by simp, fun a ha b hb => ?_⟩
    rw [List.mem_singleton.mp (show b ∈ [o] from hb)]
    exact fun e => lk_none.mp hl (e ▸ ha)
  · rcases pu_mem hq with rfl | hq
    · exact hw
    · exact m.w q hq
  · rw [pu_free hl, List.map_append]
    exact List.perm_append_comm
theorem won_held {w : Wt} {place o p : Int} {t t1 : Mp} {tr : List Int} (hw : o ∈ wn w place) (hn : ¬ o ∈ tr) (hl : lk t o = some p) (h : Won w p t (tr ++ [o]) t1) : Won w place t tr (pu t1 o place) := by
  have hl1 : lk t1 o = some p := by rw [h.s o (by simp), hl]
  refine ⟨⟨?_, fun q hq => ?_⟩, ?_, fun x hx => ?_⟩
  · rw [pu_held hl1, pu_keys]
    exact h.m.k
  · rcases pu_mem hq with rfl | hq
    · exact hw
    · exact h.m.w q hq
  · rw [pu_held hl1]
    exact upd_vals h.m.k hl1 h.v
  · rw [lk_pu (k := x) fun e => hn (by rw [← e]; exact hx)]
    exact h.s x (List.mem_append_left _ hx)
theorem loop_won {w : Wt} {rec : Int → Mp → List Int → FR} (hrec : ∀ p t tr, Mt w t → (rec p t tr).1 = true → Won w p t tr (rec p t tr).2.1) (hsame : ∀ p t tr, (rec p t tr).1 = false → (rec p t tr).2.1 = t) (hmore : ∀ p t tr, ∀ o ∈ tr, o ∈ (rec p t tr).2.2) {place : Int} :
    ∀ (os : List Int) (t : Mp) (tr : List Int), (∀ o ∈ os, o ∈ wn w place) → Mt w t → (loopH rec place os t tr).1 = true → Won w place t tr (loopH rec place os t tr).2.1
  | [], t, tr, _, _, h => nomatch h
  | o :: os, t, tr, hw, m, h => by
    have ho := hw o List.mem_cons_self
    have hos : ∀ x ∈ os, x ∈ wn w place := fun x hx => hw x (List.mem_cons_of_mem _ hx)
    by_cases hm : o ∈ tr
    · rw [loopH_skip hm] at h ⊢
      exact loop_won hrec hsame hmore os t tr hos m h
    · cases hl : lk t o with
      | none =>
        rw [loopH_free hm hl]
        exact won_free m ho hm hl
      | some p =>
        cases hr : (rec p t (tr ++ [o])).1 with
        | true =>
          rw [loopH_yes hm hl hr]
          exact won_held ho hm hl (hrec p t _ m hr)
        | false =>
          rw [loopH_no hm hl hr] at h ⊢
          have es := hsame p t _ hr
          rw [es] at h ⊢
          have a := loop_won hrec hsame hmore os t _ hos m h
          exact ⟨a.m, a.v, fun x hx => a.s x (hmore p t _ x (List.mem_append_left _ hx))⟩
theorem loop_same {rec : Int → Mp → List Int → FR} (hsame : ∀ p t tr, (rec p t tr).1 = false → (rec p t tr).2.1 = t) {place : Int} : ∀ (os : List Int) (t : Mp) (tr : List Int), (loopH rec place os t tr).1 = false → (loopH rec place os t tr).2.1 = t
  | [], t, tr, _ => rfl
  | o :: os, t, tr, h => by
    by_cases hm : o ∈ tr
    · rw [loopH_skip hm] at h ⊢
      exact loop_same hsame os t tr h
    · cases hl : lk t o with
      | none =>
        rw [loopH_free hm hl] at h
        cases h
      | some p =>
        cases hr : (rec p t (tr ++ [o])).1 with
        | true =>
          rw [loopH_yes hm hl hr] at h
          cases h
        | false =>
          rw [loopH_no hm hl hr] at h ⊢
          rw [loop_same hsame os _ _ h, hsame p t _ hr]
theorem loop_more {rec : Int → Mp → List Int → FR} (hmore : ∀ p t tr, ∀ o ∈ tr, o ∈ (rec p t tr).2.2) {place : Int} : ∀ (os : List Int) (t : Mp) (tr : List Int), ∀ x ∈ tr, x ∈ (loopH rec place os t tr).2.2
  | [], t, tr, x, hx => hx
  | o :: os, t, tr, x, hx => by
    by_cases hm : o ∈ tr
    · rw [loopH_skip hm]
      exact loop_more hmore os t tr x hx
    · cases hl : lk t o with
      | none =>
        rw [loopH_free hm hl]
        exact List.mem_append_left _ hx
      | some p =>
        have h1 := hmore p t (tr ++ [o]) x (List.mem_append_left _ hx)
        cases hr : (rec p t (tr ++ [o])).1 with
        | true =>
          rw [loopH_yes hm hl hr]
          exact h1
        | false =>
          rw [loopH_no hm hl hr]
          exact loop_more hmore os _ _ x h1
theorem recF_same (w : Wt) : ∀ (n : Nat) (p : Int) (t : Mp) (tr : List Int), (recF w n p t tr).1 = false → (recF w n p t tr).2.1 = t
  | 0, _, _, _, _ => rfl
  | n + 1, p, t, tr, h => by
    rw [recF, findH_eq] at h ⊢
    exact loop_same (recF_same w n) _ t tr h
theorem recF_more (w : Wt) : ∀ (n : Nat) (p : Int) (t : Mp) (tr : List Int), ∀ o ∈ tr, o ∈ (recF w n p t tr).2.2
  | 0, _, _, _, _, h => h
  | n + 1, p, t, tr, o, h => by
    rw [recF, findH_eq]
    exact loop_more (recF_more w n) _ t tr o h
theorem recF_won (w : Wt) : ∀ (n : Nat) (p : Int) (t : Mp) (tr : List Int), Mt w t → (recF w n p t tr).1 = true → Won w p t tr (recF w n p t tr).2.1
  | 0, _, _, _, _, h => nomatch h
  | n + 1, p, t, tr, m, h => by
    rw [recF, findH_eq] at h ⊢
    exact loop_won (recF_won w n) (recF_same w n) (recF_more w n) _ t tr (fun _ h => h) m h
/-! ### if it ends badly -/
structure Lost (w : Wt) (os : List Int) (t : Mp) (tr tr' : List Int) : Prop where
  m : ∀ o ∈ tr, o ∈ tr'
  o : ∀ o ∈ os, o ∈ tr'
  c : ∀ o ∈ tr', ¬ o ∈ tr → ∃ p, lk t o = some p ∧ ∀ x ∈ wn w p, x ∈ tr'
theorem loop_lost {w : Wt} {U : List Int} {n : Nat} (hrec : ∀ k, n = k + 1 → ∀ p t tr, FhOk w U k t tr → (∃ l, lw w p = some l) → (findH w k p t tr).1 = false → Lost w (wn w p) t tr (findH w k p t tr).2.2) {place : Int} (hp : ∃ l, lw w place = some l) :
    ∀ (os : List Int) (t : Mp) (tr : List Int), (∀ o ∈ os, o ∈ U) → FhOk w U n t tr → (loopH (recF w n) place os t tr).1 = false → Lost w os t tr (loopH (recF w n) place os t tr).2.2
  | [], t, tr, _, _, _ => ⟨fun _ h => h, fun _ h => (nomatch h), fun _ h h2 => absurd h h2⟩
  | o :: os, t, tr, hu, h, hf => by
    have ho := hu o List.mem_cons_self
    have hos : ∀ x ∈ os, x ∈ U := fun x hx => hu x (List.mem_cons_of_mem _ hx)
    by_cases hm : o ∈ tr
    · rw [loopH_skip hm] at hf ⊢
      have a := loop_lost hrec hp os t tr hos h hf
      exact ⟨a.m, fun x hx => by
        rcases List.mem_cons.mp hx with rfl | hx
        · exact a.m _ hm
        · exact a.o x hx, a.c⟩
    · cases n with
      | zero => exact absurd (h.full ho) hm
      | succ k =>
        have d := h.down ho hm
        cases hl : lk t o with
        | none =>
          rw [loopH_free hm hl] at hf
          cases hf
        | some p =>
          have hv := h.val _ (lk_mem hl)
          have af := find_ok k p t (tr ++ [o]) d hv
          cases hr : (recF w (k + 1) p t (tr ++ [o])).1 with
          | true =>
            rw [loopH_yes hm hl hr] at hf
            cases hf
          | false =>
            have b := hrec k rfl p t (tr ++ [o]) d hv hr
            have on := h.on af hr
            have es := af.same hr
            rw [loopH_no hm hl hr] at hf ⊢
            rw [show (recF w (k + 1) p t (tr ++ [o])).2.1 = t from es] at hf ⊢
            rw [es] at on
            have a := loop_lost hrec hp os t _ hos on hf
            have up : ∀ x ∈ (findH w k p t (tr ++ [o])).2.2, x ∈ (loopH (recF w (k + 1)) place os t (recF w (k + 1) p t (tr ++ [o])).2.2).2.2 := a.m
            refine ⟨fun x hx => up x (b.m x (List.mem_append_left _ hx)), fun x hx => ?_, fun x hx hn => ?_⟩
            · rcases List.mem_cons.mp hx with rfl | hx
              · exact up _ (b.m _ (by simp))
              · exact a.o x hx
            · by_cases h1 : x ∈ (findH w k p t (tr ++ [o])).2.2
              · by_cases h2 : x = o
                · subst h2
                  exact ⟨p, hl, fun y hy => up y (b.o y hy)⟩
                · obtain ⟨p2, e2, c2⟩ := b.c x h1 (fun z => by
                    rcases List.mem_append.mp z with z | z
                    · exact hn z
                    · exact h2 (List.mem_singleton.mp z))
                  exact ⟨p2, e2, fun y hy => up y (c2 y hy)⟩
              · exact a.c x hx h1
theorem find_lost {w : Wt} {U : List Int} : ∀ (n : Nat) (p : Int) (t : Mp) (tr : List Int), FhOk w U n t tr → (∃ l, lw w p = some l) → (findH w n p t tr).1 = false → Lost w (wn w p) t tr (findH w n p t tr).2.2
  | n, p, t, tr, h, hp, hf => by
    rw [findH_eq] at hf ⊢
    obtain ⟨l, hl⟩ := id hp
    refine loop_lost (fun k e p t tr h' hp' hf' => ?_) hp _ t tr (fun o ho => ?_) h hf
    · subst e
      exact find_lost k p t tr h' hp' hf'
    · unfold wn at ho
      rw [hl] at ho
      exact h.u _ (lw_mem hl) o ho
end DL
set_option linter.all false
set_option maxRecDepth 100000
set_option maxHeartbeats 2000000
namespace DL
/-! ### HEIRS by the search, by all rows, by what is lost -/
theorem wn_Ws {s : Sh} {p : Int} (h : p ∈ s.new) : wn (Ws s) p = orgL s p := by
  obtain ⟨l, hl⟩ := lw_Ws h
  have := lw_mem hl
  obtain ⟨x, _, e⟩ := List.mem_map.mp this
  cases e
  unfold wn
  rw [hl]
  rfl
theorem wn_in {s : Sh} {p x : Int} (h : x ∈ wn (Ws s) p) : x ∈ orgL s p := by
  unfold wn at h
  cases hl : lw (Ws s) p with
  | none => rw [hl] at h; cases h
  | some l =>
    rw [hl] at h
    obtain ⟨y, _, e⟩ := List.mem_map.mp (lw_mem hl)
    cases e
    exact h
/-- what the search has so far -/
structure Sof (s : Sh) (done : List Int) (t : Mp) : Prop where
  m : Mt (Ws s) t
  v : (t.map (·.2)).Perm done
theorem Sof.ok {s : Sh} (g : Gd s) {done : List Int} {t : Mp} (h : Sof s done t) (hd : ∀ x ∈ done, x ∈ s.new) (nd : done.Nodup) : FhOk (Ws s) s.old 3 t [] where
  u := fun r hr o ho => by
    obtain ⟨x, _, rfl⟩ := List.mem_map.mp hr
    exact (List.mem_filter.mp ho).1
  nd := List.nodup_nil
  sub := fun o h => (nomatch h)
  few := by have := g.hi; simpa using this
  uz := by have := g.hi; omega
  val := fun q hq => lw_Ws (hd _ (h.v.mem_iff.mp (List.mem_map.mpr ⟨q, hq, rfl⟩)))
  tz := by
    have h1 := nodup_sub nd hd
    have h2 := h.v.length_eq
    rw [List.length_map] at h2
    have := g.e
    have := g.hi
    omega
/-- some new PLACES that have too few origins -/
def Bad (s : Sh) : Prop := ∃ S T : List Int, S.Nodup ∧ (∀ x ∈ S, x ∈ s.new) ∧ S.length = T.length + 1 ∧ ∀ x ∈ S, ∀ y ∈ orgL s x, y ∈ T
theorem hr_run {s : Sh} (g : Gd s) : ∀ (ps done : List Int) (t : Mp), Sof s done t → (done ++ ps).Nodup → (∀ x ∈ done ++ ps, x ∈ s.new) → (∃ t', hrM (Ws s) ps t = some t' ∧ Sof s (done ++ ps) t') ∨ hrM (Ws s) ps t = none ∧ Bad s
  | [], done, t, h, _, _ => .inl ⟨t, rfl, by rw [List.append_nil]; exact h⟩
  | p :: ps, done, t, h, nd, hin => by
    have hp : p ∈ s.new := hin p (by simp)
    have hd : ∀ x ∈ done, x ∈ s.new := fun x hx => hin x (List.mem_append_left _ hx)
    have ndd := (List.nodup_append.mp nd).1
    have pd : ¬ p ∈ done := fun e => (List.nodup_append.mp nd).2.2 p e p List.mem_cons_self rfl
    have ok := h.ok g hd ndd
    have lwp := lw_Ws hp
    have es : done ++ p :: ps = (done ++ [p]) ++ ps := by simp
    cases hr : (findH (Ws s) 3 p t []).1 with
    | true =>
      have won : Won (Ws s) p t [] (findH (Ws s) 3 p t []).2.1 := recF_won (Ws s) 4 p t [] h.m hr
      rw [hrM, if_pos hr, es]
      refine hr_run g ps (done ++ [p]) _ ⟨won.m, won.v.trans ?_⟩ (es ▸ nd) (es ▸ hin)
      exact (h.v.cons p).trans (List.perm_append_comm (l₁ := [p]))
    | false =>
      rw [hrM, if_neg (by rw [hr]; exact Bool.false_ne_true)]
      refine .inr ⟨rfl, ?_⟩
      have lost := find_lost 3 p t [] ok lwp hr
      have ndT := (find_ok 3 p t [] ok lwp).nd
      generalize (findH (Ws s) 3 p t []).2.2 = T at lost ndT
      have vn : (t.map (·.2)).Nodup := h.v.nodup_iff.mpr ndd
      have held : ∀ o ∈ T, ∃ q, lk t o = some q ∧ ∀ x ∈ wn (Ws s) q, x ∈ T := fun o ho => lost.c o ho (fun z => nomatch z)
      refine ⟨p :: T.map (fun o => (lk t o).getD 0), T, List.nodup_cons.mpr ⟨fun e => ?_, ?_⟩, fun x hx => ?_, by rw [List.length_cons, List.length_map], fun x hx y hy => ?_⟩
      · obtain ⟨o, ho, e⟩ := List.mem_map.mp e
        obtain ⟨q, hq, _⟩ := held o ho
        rw [hq] at e
        have e : q = p := e
        subst e
        exact pd (h.v.mem_iff.mp (List.mem_map.mpr ⟨_, lk_mem hq, rfl⟩))
      · rw [List.Nodup, List.pairwise_map]
        refine List.Pairwise.imp_of_mem (fun {a b} ha hb hne => fun e => hne ?_) ndT
        obtain ⟨qa, ea, _⟩ := held a ha
        obtain ⟨qb, eb, _⟩ := held b hb
        rw [ea, eb] at e
        have e : qa = qb := e
        subst e
        exact vals_inj vn (lk_mem ea) (lk_mem eb)
      · rcases List.mem_cons.mp hx with rfl | hx
        · exact hp
        · obtain ⟨o, ho, rfl⟩ := List.mem_map.mp hx
          obtain ⟨q, hq, _⟩ := held o ho
          rw [hq]
          exact hd _ (h.v.mem_iff.mp (List.mem_map.mpr ⟨_, lk_mem hq, rfl⟩))
      · rcases List.mem_cons.mp hx with rfl | hx
        · exact lost.o y (by rw [wn_Ws hp]; exact hy)
        · obtain ⟨o, ho, rfl⟩ := List.mem_map.mp hx
          obtain ⟨q, hq, c⟩ := held o ho
          rw [hq] at hy
          have hqn : q ∈ s.new := hd _ (h.v.mem_iff.mp (List.mem_map.mpr ⟨_, lk_mem hq, rfl⟩))
          exact c y (by rw [wn_Ws hqn]; exact hy)
where
  vals_inj {t : Mp} {a b v : Int} (h : (t.map (·.2)).Nodup) (h1 : (a, v) ∈ t) (h2 : (b, v) ∈ t) : a = b := by
    induction t with
    | nil => cases h1
    | cons q t ih =>
      obtain ⟨n1, n2⟩ := List.nodup_cons.mp (show (q.2 :: t.map (·.2)).Nodup from h)
      rcases List.mem_cons.mp h1 with e1 | h1
      · rcases List.mem_cons.mp h2 with e2 | h2
        · rw [← e1] at e2
          exact (Prod.mk.inj e2).1.symm
        · exact absurd (List.mem_map.mpr ⟨_, h2, rfl⟩) (by rw [← e1] at n1; exact n1)
      · rcases List.mem_cons.mp h2 with e2 | h2
        · exact absurd (List.mem_map.mpr ⟨_, h1, rfl⟩) (by rw [← e2] at n1; exact n1)
        · exact ih n2 h1 h2
theorem hr_all {s : Sh} (g : Gd s) : (∃ t, hrM (Ws s) s.new [] = some t ∧ Sof s s.new t) ∨ hrM (Ws s) s.new [] = none ∧ Bad s := by
  have := hr_run g s.new [] [] ⟨⟨by simp, fun q hq => nomatch hq⟩, by simp⟩ (by simpa using pw_nodup g.n) (fun x hx => by simpa using hx)
  simpa using this
theorem Sof.heir {s : Sh} {t : Mp} (h : Sof s s.new t) : Heir s := by
  have key : ∀ p ∈ s.new, ∃ o, (o, p) ∈ t := fun p hp => by
    obtain ⟨q, hq, e⟩ := List.mem_map.mp (h.v.mem_iff.mpr hp)
    exact ⟨q.1, by rw [← e]; exact hq⟩
  have key : ∀ p, ∃ o, p ∈ s.new → (o, p) ∈ t := fun p => by
    by_cases hp : p ∈ s.new
    · obtain ⟨o, ho⟩ := key p hp
      exact ⟨o, fun _ => ho⟩
    · exact ⟨0, fun e => absurd e hp⟩
  refine ⟨fun p => Classical.choose (key p), fun p hp => ?_, fun p hp q hq e => ?_⟩
  · exact wn_in (h.m.w _ (Classical.choose_spec (key p) hp))
  · have a := Classical.choose_spec (key p) hp
    have b := Classical.choose_spec (key q) hq
    have e : Classical.choose (key p) = Classical.choose (key q) := e
    rw [e] at a
    have x := lk_of_mem h.m.k a
    rw [lk_of_mem h.m.k b] at x
    exact (Option.some.inj x).symm
/-- too few origins: something is lost -/
theorem Bad.lose {s : Sh} (g : Gd s) (h : Bad s) : ∃ k, 1 ≤ k ∧ k ≤ s.old.length ∧ (losL s k (s.old.length + 1 - k)).isSome = true := by
  obtain ⟨S, T, nd, hS, hl, ho⟩ := h
  have lS : S.length ≤ s.old.length := by
    have := nodup_sub nd hS
    have := g.e
    omega
  refine ⟨s.old.length + 1 - S.length, by omega, by omega, ?_⟩
  rw [show s.old.length + 1 - (s.old.length + 1 - S.length) = S.length by omega]
  have lf : (s.new.filter fun x => decide (x ∈ S)).length = S.length := by
    have a : S.length ≤ (s.new.filter fun x => decide (x ∈ S)).length := nodup_sub nd fun x hx => List.mem_filter.mpr ⟨hS x hx, by simpa using hx⟩
    have b := nodup_sub ((pw_nodup g.n).filter fun x => decide (x ∈ S)) (U := S) fun x hx => by simpa using (List.mem_filter.mp hx).2
    omega
  have inS : ∀ x ∈ s.new.filter fun x => decide (x ∈ S), x ∈ S := fun x hx => by simpa using (List.mem_filter.mp hx).2
  have hlot : (s.new.filter fun x => decide (x ∈ S)) ∈ lotsL s.new S.length := mem_lots (fun x hx => (List.mem_filter.mp hx).1) (g.n.filter _) lf
  unfold losL
  rw [List.find?_isSome]
  refine ⟨_, hlot, ?_⟩
  generalize (s.new.filter fun x => decide (x ∈ S)) = lot at lf inS
  have f := filter_app_len (l := s.old) fun x => decide (x ∈ ahL s.cp lot)
  have m : missL s.old s.cp lot = (s.old.filter fun x => !decide (x ∈ ahL s.cp lot)).length := rfl
  have hT : (s.old.filter fun x => decide (x ∈ ahL s.cp lot)).length ≤ T.length := nodup_sub ((pw_nodup g.o).filter _) fun x hx => by
    obtain ⟨h1, h2⟩ := List.mem_filter.mp hx
    obtain ⟨y, hy, h3⟩ := ahL_one.mp (show x ∈ ahL s.cp lot by simpa using h2)
    exact ho y (inS y hy) x (mem_orgL.mpr ⟨h1, h3⟩)
  rw [decide_eq_true_eq, m]
  omega
theorem heirB_iff {s : Sh} (g : Gd s) : heirB s = true ↔ Heir s := by
  unfold heirB heirsL
  rcases hr_all g with ⟨t, e, h⟩ | ⟨e, h⟩
  · rw [e]
    exact ⟨fun _ => h.heir, fun _ => rfl⟩
  · rw [e]
    constructor
    · intro z
      cases z
    · intro hh
      obtain ⟨k, k1, k2, k3⟩ := h.lose g
      rw [heir_no_lose g hh k1 k2] at k3
      cases k3
theorem lose_iff {s : Sh} (g : Gd s) : decide (loseB s = List.replicate s.old.length false) = heirB s := by
  rw [Bool.eq_iff_iff, decide_eq_true_iff]
  have all : loseB s = List.replicate s.old.length false ↔ ∀ k, 1 ≤ k → k ≤ s.old.length → (losL s k (s.old.length + 1 - k)).isSome = false := by
    unfold loseB
    rw [List.eq_replicate_iff, List.length_map, List.length_range]
    constructor
    · rintro ⟨_, h⟩ k k1 k2
      have := h _ (List.mem_map.mpr ⟨k - 1, List.mem_range.mpr (by omega), rfl⟩)
      rw [show 1 + (k - 1) = k by omega] at this
      exact this
    · intro h
      refine ⟨rfl, fun b hb => ?_⟩
      obtain ⟨k, hk, rfl⟩ := List.mem_map.mp hb
      have := List.mem_range.mp hk
      exact h (1 + k) (by omega) (by omega)
  rw [all]
  rcases hr_all g with ⟨t, e, h⟩ | ⟨e, h⟩
  · have hh := h.heir
    exact ⟨fun _ => (heirB_iff g).mpr hh, fun _ k k1 k2 => by rw [heir_no_lose g hh k1 k2]; rfl⟩
  · constructor
    · intro z
      obtain ⟨k, k1, k2, k3⟩ := h.lose g
      rw [z k k1 k2] at k3
      cases k3
    · intro z
      unfold heirB heirsL at z
      rw [e] at z
      cases z
/-! ### all rows -/
def Rows (s : Sh) : List Int → List Int → List Int → Prop
  | [], _, e => e = []
  | j :: js, own, e => ∃ k e', e = k :: e' ∧ k ∈ rootsL s [j] ∧ ¬ k ∈ own ∧ Rows s js (own ++ [k]) e'
theorem ahs_ne {s : Sh} : ∀ {js : List Int} {f : List (List Int)}, ahsL s js f ≠ [] ↔ ∃ own ∈ f, ∃ e, Rows s js own e
  | [], f => by
    rw [ahsL]
    constructor
    · intro h
      obtain ⟨x, hx⟩ := List.exists_mem_of_ne_nil f h
      exact ⟨x, hx, [], rfl⟩
    · rintro ⟨x, hx, _⟩ e
      rw [e] at hx
      cases hx
  | j :: js, f => by
    rw [ahsL, ahs_ne]
    constructor
    · rintro ⟨own, h, e, he⟩
      obtain ⟨o, ho, h1⟩ := List.mem_flatMap.mp (show own ∈ f.flatMap _ from h)
      obtain ⟨k, hk, rfl⟩ := List.mem_map.mp h1
      obtain ⟨k1, k2⟩ := List.mem_filter.mp hk
      exact ⟨o, ho, k :: e, k, e, rfl, k1, by simpa using k2, he⟩
    · rintro ⟨o, ho, _, k, e, rfl, k1, k2, he⟩
      exact ⟨o ++ [k], List.mem_flatMap.mpr ⟨o, ho, List.mem_map.mpr ⟨k, List.mem_filter.mpr ⟨k1, by simpa using k2⟩, rfl⟩⟩, e, he⟩
theorem rows_of {s : Sh} (g : Gd s) {σ : Int → Int} (h1 : ∀ p ∈ s.new, σ p ∈ orgL s p) (h2 : ∀ p ∈ s.new, ∀ q ∈ s.new, σ p = σ q → p = q) : ∀ (js done : List Int), (∀ x ∈ done ++ js, x ∈ s.new) → (done ++ js).Nodup → Rows s js (done.map σ) (js.map σ)
  | [], _, _, _ => rfl
  | j :: js, done, hi, nd => by
    have hj := hi j (by simp)
    refine ⟨σ j, js.map σ, rfl, (mem_rootsL g).mpr (h1 j hj), fun e => ?_, ?_⟩
    · obtain ⟨x, hx, e⟩ := List.mem_map.mp e
      have := h2 x (hi x (List.mem_append_left _ hx)) j hj e
      subst this
      exact (List.nodup_append.mp nd).2.2 x hx x List.mem_cons_self rfl
    · have := rows_of g h1 h2 js (done ++ [j]) (by simpa using hi) (by simpa using nd)
      rw [List.map_append] at this
      exact this
theorem rows_heir {s : Sh} (g : Gd s) : ∀ (js own e : List Int), js.Nodup → Rows s js own e → ∃ σ : Int → Int, (∀ p ∈ js, σ p ∈ orgL s p ∧ ¬ σ p ∈ own) ∧ ∀ p ∈ js, ∀ q ∈ js, σ p = σ q → p = q
  | [], own, e, _, _ => ⟨fun _ => 0, fun _ h => (nomatch h), fun _ h => (nomatch h)⟩
  | j :: js, own, _, nd, ⟨k, e, _, k1, k2, hr⟩ => by
    obtain ⟨n1, n2⟩ := List.nodup_cons.mp nd
    obtain ⟨σ, a, b⟩ := rows_heir g js (own ++ [k]) e n2 hr
    have ne : ∀ p ∈ js, p ≠ j := fun p hp z => n1 (z ▸ hp)
    have nk : ∀ p ∈ js, σ p ≠ k := fun p hp z => (a p hp).2 (by rw [z]; simp)
    refine ⟨fun p => if p = j then k else σ p, fun p hp => ?_, fun p hp q hq z => ?_⟩
    · rcases List.mem_cons.mp hp with rfl | hp
      · simp only [if_true]
        exact ⟨(mem_rootsL g).mp k1, k2⟩
      · simp only [if_neg (ne p hp)]
        exact ⟨(a p hp).1, fun z => (a p hp).2 (List.mem_append_left _ z)⟩
    · simp only at z
      rcases List.mem_cons.mp hp with e1 | hp <;> rcases List.mem_cons.mp hq with e2 | hq
      · rw [e1, e2]
      · rw [if_pos e1, if_neg (ne q hq)] at z
        exact absurd z.symm (nk q hq)
      · rw [if_neg (ne p hp), if_pos e2] at z
        exact absurd z (nk p hp)
      · rw [if_neg (ne p hp), if_neg (ne q hq)] at z
        exact b p hp q hq z
theorem allB_iff {s : Sh} (g : Gd s) : allB s = true ↔ Heir s := by
  have e : allB s = true ↔ allL' s ≠ [] := by
    unfold allB
    cases allL' s <;> simp
  rw [e]
  unfold allL'
  rw [ahs_ne]
  constructor
  · rintro ⟨own, _, e, h⟩
    obtain ⟨σ, a, b⟩ := rows_heir g _ _ _ (pw_nodup g.n) h
    exact ⟨σ, fun p hp => (a p hp).1, b⟩
  · rintro ⟨σ, a, b⟩
    exact ⟨[], by simp, _, rows_of g a b s.new [] (by simp) (by simpa using pw_nodup g.n)⟩
theorem heir_all {s : Sh} (g : Gd s) : heirB s = allB s := by
  rw [Bool.eq_iff_iff, heirB_iff g, allB_iff g]
/-! ### what is told -/
theorem leP_tot (a b : Int × Int) : (leP a b || leP b a) = true := by
  unfold leP
  rw [Bool.or_eq_true, decide_eq_true_iff, decide_eq_true_iff]
  omega
theorem leP_tr (a b c : Int × Int) (h1 : leP a b = true) (h2 : leP b c = true) : leP a c = true := by
  unfold leP at *
  rw [decide_eq_true_iff] at *
  omega
theorem le_nd_lt {l : List Int} (h : l.Pairwise (· ≤ ·)) (nd : l.Nodup) : l.Pairwise (· < ·) := by
  refine List.Pairwise.imp (fun {a b} h => ?_) (List.Pairwise.and h nd)
  have := h.1
  have := h.2
  omega
theorem told_ok {s : Sh} (g : Gd s) {l : List (Int × Int)} (h : heirsL s = some l) : l.map (·.1) = s.new ∧ (l.map (·.2)).Nodup ∧ ∀ q ∈ l, q.2 ∈ orgL s q.1 := by
  unfold heirsL at h
  rcases hr_all g with ⟨t, e, so⟩ | ⟨e, _⟩
  · rw [e] at h
    cases Option.some.inj h
    have pm : (srtP (t.map fun q => (q.2, q.1))).Perm (t.map fun q => (q.2, q.1)) := List.mergeSort_perm _ _
    have p1 : ((srtP (t.map fun q => (q.2, q.1))).map (·.1)).Perm s.new := (pm.map _).trans (by
      rw [List.map_map]
      exact so.v)
    have p2 : ((srtP (t.map fun q => (q.2, q.1))).map (·.2)).Perm (t.map (·.1)) := (pm.map _).trans (by
      rw [List.map_map]
      exact .refl _)
    have nd1 := p1.nodup_iff.mpr (pw_nodup g.n)
    refine ⟨?_, p2.nodup_iff.mpr so.m.k, fun q hq => ?_⟩
    · refine lt_ext (le_nd_lt ?_ nd1) g.n fun x => p1.mem_iff
      have sp : (srtP (t.map fun q => (q.2, q.1))).Pairwise (fun a b => leP a b = true) := List.pairwise_mergeSort leP_tr leP_tot _
      rw [List.pairwise_map]
      refine sp.imp fun {a b} h => ?_
      unfold leP at h
      rw [decide_eq_true_iff] at h
      omega
    · obtain ⟨r, hr, rfl⟩ := List.mem_map.mp (pm.mem_iff.mp hq)
      exact wn_in (so.m.w r hr)
  · rw [e] at h
    cases h
end DL
set_option linter.all false
set_option maxRecDepth 100000
set_option maxHeartbeats 2000000
namespace DL
/-! ### PASTS and WORLDS without letters -/
abbrev hd (ds : List Dd) (crew : List Int) : List Int := (trail ds crew).headD []
theorem hd_cons (d : Dd) (ds : List Dd) (crew : List Int) : hd (d :: ds) crew = ahd d (hd ds crew) := rfl
theorem mem_ahd_cp {t a b x : Int} {l : List Int} : x ∈ ahd (.cp t a b) l ↔ x ∈ l ∨ (x = a ∧ b ∈ l) := by
  show x ∈ (if b ∈ l then uq (l ++ [a]) else l) ↔ _
  by_cases h : b ∈ l
  · rw [if_pos h, mem_uq, List.mem_append, List.mem_singleton]
    constructor
    · rintro (h1 | h1)
      · exact .inl h1
      · exact .inr ⟨h1, h⟩
    · rintro (h1 | ⟨h1, _⟩)
      · exact .inl h1
      · exact .inr h1
  · rw [if_neg h]
    exact ⟨.inl, fun z => z.elim id fun z => absurd z.2 h⟩
theorem mem_hd_pg {t : Int} : ∀ {cp : List (Int × Int)} {crew : List Int} {x : Int}, x ∈ hd (cp.map fun c => Dd.cp t c.1 c.2) crew ↔ x ∈ ahL cp crew
  | [], crew, x => Iff.rfl
  | c :: cp, crew, x => by
    rw [List.map_cons, hd_cons, mem_ahd_cp, mem_hd_pg, mem_hd_pg, mem_ahL_cons]
theorem hd_pw : ∀ {ds : List Dd} {crew : List Int}, crew.Pairwise (· < ·) → (hd ds crew).Pairwise (· < ·)
  | [], crew, h => h
  | d :: ds, crew, h => by
    rw [hd_cons]
    have ih := hd_pw (ds := ds) h
    cases d with
    | cp t a b =>
      show (if b ∈ hd ds crew then uq (hd ds crew ++ [a]) else hd ds crew).Pairwise (· < ·)
      split
      · exact uq_lt _
      · exact ih
    | pt t v o k => exact ih
def In08 (l : List Int) : Prop := ∀ j ∈ l, 0 ≤ j ∧ j < 8
theorem hd_in : ∀ {ds : List Dd} {crew : List Int}, (∀ d ∈ ds, d.In8) → In08 crew → In08 (hd ds crew)
  | [], crew, _, h => h
  | d :: ds, crew, hi, h => by
    have ih := hd_in (ds := ds) (fun e he => hi e (List.mem_cons_of_mem _ he)) h
    rw [hd_cons]
    cases d with
    | cp t a b =>
      intro j hj
      rcases mem_ahd_cp.mp hj with hj | ⟨rfl, _⟩
      · exact ih j hj
      · have := hi _ List.mem_cons_self
        exact ⟨this.1, this.2.1⟩
    | pt t v o k => exact ih
/-! ### cells -/
theorem mx_le {i j v : Int} : v ≤ mx i j ↔ v ≤ i ∨ v ≤ j := by
  unfold mx
  split <;> omega
theorem set_at {h : List Int} (hl : h.length = 8) {i j v : Int} (hi : 0 ≤ i ∧ i < 8) (hj : 0 ≤ j ∧ j < 8) : (h.set i.toNat v).getD j.toNat 0 = if j = i then v else h.getD j.toNat 0 := by
  rw [List.getD_eq_getElem?_getD, List.getElem?_set, List.getD_eq_getElem?_getD]
  by_cases e : j = i
  · subst e
    rw [if_pos rfl, if_pos rfl, if_pos (by omega)]
    rfl
  · rw [if_neg (by omega), if_neg e]
theorem set_le {h : List Int} (hl : h.length = 8) {i j u v : Int} (hi : 0 ≤ i ∧ i < 8) (hj : 0 ≤ j ∧ j < 8) : v ≤ (h.set i.toNat (mx (h.getD i.toNat 0) u)).getD j.toNat 0 ↔ v ≤ h.getD j.toNat 0 ∨ (j = i ∧ v ≤ u) := by
  rw [set_at hl hi hj]
  by_cases e : j = i
  · subst e
    rw [if_pos rfl, mx_le]
    exact ⟨fun z => z.elim .inl fun z => .inr ⟨rfl, z⟩, fun z => z.elim .inl fun z => .inr z.2⟩
  · rw [if_neg e]
    exact ⟨.inl, fun z => z.elim id fun z => absurd z.1 e⟩
theorem fold_le {u v j : Int} (hj : 0 ≤ j ∧ j < 8) : ∀ {tk h : List Int}, h.length = 8 → In08 tk → (v ≤ (tk.foldl (fun h i => setJ h i u) h).getD j.toNat 0 ↔ v ≤ h.getD j.toNat 0 ∨ (j ∈ tk ∧ v ≤ u))
  | [], h, _, _ => ⟨.inl, fun z => z.elim id fun z => nomatch z.1⟩
  | i :: tk, h, hl, ht => by
    rw [List.foldl_cons, fold_le hj (by rw [setJ_len]; exact hl) (fun x hx => ht x (List.mem_cons_of_mem _ hx))]
    unfold setJ
    rw [set_le hl (ht i List.mem_cons_self) hj, List.mem_cons]
    constructor
    · rintro ((z | z) | z)
      · exact .inl z
      · exact .inr ⟨.inl z.1, z.2⟩
      · exact .inr ⟨.inr z.1, z.2⟩
    · rintro (z | ⟨z | z, y⟩)
      · exact .inl (.inl z)
      · exact .inl (.inr ⟨z, y⟩)
      · exact .inr ⟨z, y⟩
/-- a write from a VERSION on comes to a LOT -/
def HitAt (d : Dd) (tk l : List Int) (v : Int) : Prop := d.isPt = true ∧ v ≤ d.ver ∧ ∃ j ∈ tk, j ∈ l
def Hit : List Dd → List Fe → List Int → Int → Prop
  | [], _, _, _ => False
  | d :: ds, fs, crew, v => HitAt d ((fs.headD none).getD []) (hd ds crew) v ∨ Hit ds fs.tail crew v
theorem end_hits {crew : List Int} (hc : In08 crew) {v : Int} : ∀ {ds : List Dd} {fs : List Fe} {h : List Int}, (∀ d ∈ ds, d.In8) → QtM ds fs → h.length = 8 → ((∃ j ∈ crew, v ≤ (endA ds fs h).getD j.toNat 0) ↔ (∃ j ∈ hd ds crew, v ≤ h.getD j.toNat 0) ∨ Hit ds fs crew v)
  | [], fs, h, _, _, _ => ⟨.inl, fun z => z.elim id fun z => z.elim⟩
  | d :: ds, [], h, _, q, _ => (show False from q).elim
  | d :: ds, g :: fs, h, hi, q, hl => by
    have hi' : ∀ e ∈ ds, e.In8 := fun e he => hi e (List.mem_cons_of_mem _ he)
    have hL := hd_in hi' hc
    have i0 := hi d List.mem_cons_self
    show (∃ j ∈ crew, v ≤ (endA ds fs (doneL h d (g.getD []))).getD j.toNat 0) ↔ (∃ j ∈ ahd d (hd ds crew), v ≤ h.getD j.toNat 0) ∨ HitAt d (g.getD []) (hd ds crew) v ∨ Hit ds fs crew v
    rw [end_hits hc hi' q.2 (by rw [doneL_len]; exact hl), ← or_assoc]
    refine or_congr ?_ Iff.rfl
    cases d with
    | cp t a b =>
      obtain ⟨a0, a8, b0, b8⟩ := i0
      constructor
      · rintro ⟨j, hj, z⟩
        rcases (set_le hl ⟨b0, b8⟩ (hL j hj)).mp z with z' | ⟨e, z'⟩
        · exact .inl ⟨j, mem_ahd_cp.mpr (.inl hj), z'⟩
        · exact .inl ⟨a, mem_ahd_cp.mpr (.inr ⟨rfl, e ▸ hj⟩), z'⟩
      · rintro (⟨j, hj, z⟩ | ⟨z, _⟩)
        · rcases mem_ahd_cp.mp hj with hj' | ⟨e, hj'⟩
          · exact ⟨j, hj', (set_le hl ⟨b0, b8⟩ (hL j hj')).mpr (.inl z)⟩
          · exact ⟨b, hj', (set_le hl ⟨b0, b8⟩ ⟨b0, b8⟩).mpr (.inr ⟨rfl, e ▸ z⟩)⟩
        · cases z
    | pt t u o k =>
      have tk : In08 (g.getD []) := by
        obtain ⟨l, hl, rfl⟩ := List.mem_map.mp (show g ∈ k.map some from q.1)
        exact i0 l hl
      constructor
      · rintro ⟨j, hj, z⟩
        rcases (fold_le (hL j hj) hl tk).mp z with z | ⟨h1, z⟩
        · exact .inl ⟨j, hj, z⟩
        · exact .inr ⟨rfl, z, j, h1, hj⟩
      · rintro (⟨j, hj, z⟩ | ⟨_, z, j, h1, hj⟩)
        · exact ⟨j, hj, (fold_le (hL j hj) hl tk).mpr (.inl z)⟩
        · exact ⟨j, hj, (fold_le (hL j hj) hl tk).mpr (.inr ⟨h1, z⟩)⟩
/-- a write has room -/
def RoomAt (d : Dd) (l : List Int) (v : Int) : Prop := d.isPt = true → v ≤ d.ver → ∃ lot ∈ d.kin, ∀ j ∈ lot, ¬ j ∈ l
def Rooms : List Dd → List Int → Int → Prop
  | [], _, _ => True
  | d :: ds, crew, v => RoomAt d (hd ds crew) v ∧ Rooms ds crew v
theorem rooms_hit {crew : List Int} {v : Int} : ∀ {ds : List Dd}, (∀ d ∈ ds, goods d ≠ []) → ((∃ f, QtM ds f ∧ ¬ Hit ds f crew v) ↔ Rooms ds crew v)
  | [], _ => ⟨fun _ => trivial, fun _ => ⟨[], trivial, fun z => z⟩⟩
  | d :: ds, hg => by
    have ih := rooms_hit (crew := crew) (v := v) (ds := ds) fun e he => hg e (List.mem_cons_of_mem _ he)
    constructor
    · rintro ⟨f, q, h⟩
      cases f with
      | nil => exact (show False from q).elim
      | cons g f =>
        refine ⟨fun p1 p2 => ?_, ih.mp ⟨f, q.2, fun z => h (.inr z)⟩⟩
        cases d with
        | cp t a b => cases p1
        | pt t u o k =>
          obtain ⟨l, hl, rfl⟩ := List.mem_map.mp (show g ∈ k.map some from q.1)
          exact ⟨l, hl, fun j hj z => h (.inl ⟨rfl, p2, j, hj, z⟩)⟩
    · rintro ⟨r, rs⟩
      obtain ⟨f, q, h⟩ := ih.mpr rs
      cases d with
      | cp t a b =>
        refine ⟨none :: f, ⟨List.mem_singleton.mpr rfl, q⟩, ?_⟩
        rintro (⟨z, _⟩ | z)
        · cases z
        · exact h z
      | pt t u o k =>
        by_cases hv : v ≤ u
        · obtain ⟨l, hl, hj⟩ := r rfl hv
          refine ⟨some l :: f, ⟨List.mem_map.mpr ⟨l, hl, rfl⟩, q⟩, ?_⟩
          rintro (⟨_, _, j, j1, j2⟩ | z)
          · exact hj j j1 j2
          · exact h z
        · obtain ⟨g, hgm⟩ := List.exists_mem_of_ne_nil _ (hg _ List.mem_cons_self)
          refine ⟨g :: f, ⟨hgm, q⟩, ?_⟩
          rintro (⟨_, z, _⟩ | z)
          · exact hv z
          · exact h z
theorem rooms_app {crew : List Int} {v : Int} : ∀ {a b : List Dd}, Rooms (a ++ b) crew v → Rooms b crew v
  | [], b, h => h
  | d :: a, b, h => rooms_app (a := a) h.2
/-! ### by place in the page -/
theorem rooms_at {crew : List Int} {v : Int} : ∀ {ds : List Dd}, Rooms ds crew v ↔ ∀ (i : Nat) (d : Dd), ds[i]? = some d → RoomAt d ((trail ds crew).getD (i + 1) []) v
  | [] => ⟨fun _ i d h => (by simp at h), fun _ => trivial⟩
  | d :: ds => by
    have ih := rooms_at (crew := crew) (v := v) (ds := ds)
    have z0 : (trail (d :: ds) crew).getD 1 [] = hd ds crew := by
      show (trail ds crew).getD 0 [] = (trail ds crew).headD []
      cases trail ds crew <;> rfl
    constructor
    · rintro ⟨r, rs⟩ i e he
      cases i with
      | zero =>
        cases he
        rw [z0]
        exact r
      | succ i => exact ih.mp rs i e he
    · intro h
      refine ⟨?_, ih.mpr fun i e he => h (i + 1) e he⟩
      have := h 0 d rfl
      rw [z0] at this
      exact this
theorem roomL_some {kin : List (List Int)} {l : List Int} : (roomL kin l).isSome = true ↔ ∃ lot ∈ kin, ∀ j ∈ lot, ¬ j ∈ l := by
  unfold roomL
  rw [List.find?_isSome]
  constructor
  · rintro ⟨x, hx, h⟩
    exact ⟨x, hx, by simpa using h⟩
  · rintro ⟨x, hx, h⟩
    exact ⟨x, hx, by simpa using h⟩
theorem lroomL_iff {kin : List (List Int)} {l : List Int} : lroomL kin l = true ↔ ∃ lot ∈ kin, ∀ j ∈ lot, ¬ j ∈ l := by
  have ap : ∀ a, apartL a l = true ↔ ∀ j ∈ a, ¬ j ∈ l := fun a => by
    unfold apartL
    rw [List.isEmpty_iff, List.filter_eq_nil_iff]
    constructor
    · intro h j hj
      simpa using h j hj
    · intro h j hj
      simpa using h j hj
  unfold lroomL
  rw [Bool.not_eq_true', List.isEmpty_eq_false_iff]
  constructor
  · intro h
    obtain ⟨x, hx⟩ := List.exists_mem_of_ne_nil _ h
    obtain ⟨h1, h2⟩ := List.mem_filter.mp hx
    exact ⟨x, h1, (ap x).mp h2⟩
  · rintro ⟨x, h1, h2⟩ e
    have : x ∈ kin.filter fun a => apartL a l := List.mem_filter.mpr ⟨h1, (ap x).mpr h2⟩
    rw [e] at this
    cases this
theorem mem_writesL {page : List Dd} {n : Int} : n ∈ writesL page ↔ ∃ (i : Nat) (d : Dd), n = (i : Int) ∧ page[i]? = some d ∧ d.isPt = true := by
  unfold writesL
  rw [List.mem_map]
  constructor
  · rintro ⟨q, h1, rfl⟩
    obtain ⟨h2, h3⟩ := List.mem_filter.mp h1
    exact ⟨q.2, q.1, rfl, List.mem_zipIdx_iff_getElem?.mp h2, h3⟩
  · rintro ⟨i, d, rfl, h1, h2⟩
    exact ⟨(d, i), List.mem_filter.mpr ⟨List.mem_zipIdx_iff_getElem?.mpr h1, h2⟩, rfl⟩
theorem getD_at {page : List Dd} {i : Nat} {d : Dd} (h : page[i]? = some d) : page.getD (Int.toNat (i : Int)) (.cp 0 0 0) = d := by
  rw [Int.toNat_natCast, List.getD_eq_getElem?_getD, h]
  rfl
theorem canMiss_iff {page : List Dd} {crew : List Int} {v : Int} : canMissL page crew v = true ↔ Rooms page crew v := by
  rw [rooms_at]
  unfold canMissL fwrL
  rw [Option.isNone_iff_eq_none, List.find?_eq_none]
  constructor
  · intro h i d hd p1 p2
    have := h i (mem_writesL.mpr ⟨i, d, rfl, hd, p1⟩)
    rw [getD_at hd, Int.toNat_natCast] at this
    rw [← roomL_some]
    cases e : roomL d.kin ((trail page crew).getD (i + 1) []) with
    | some x => rfl
    | none =>
      rw [e] at this
      simp [p2] at this
  · intro h n hn
    obtain ⟨i, d, rfl, hd, p1⟩ := mem_writesL.mp hn
    rw [getD_at hd, Int.toNat_natCast]
    intro z
    rw [Bool.and_eq_true, decide_eq_true_iff] at z
    have := roomL_some.mpr (h i d hd p1 z.1)
    rw [← Option.not_isNone, z.2] at this
    cases this
theorem lmiss_iff {page : List Dd} {crew : List Int} {v : Int} : lmissL page crew v = true ↔ Rooms page crew v := by
  rw [rooms_at]
  unfold lmissL
  rw [List.isEmpty_iff, List.filter_eq_nil_iff]
  constructor
  · intro h i d hd p1 p2
    have := h i (List.mem_filter.mpr ⟨mem_writesL.mpr ⟨i, d, rfl, hd, p1⟩, by rw [getD_at hd]; simpa using p2⟩)
    rw [getD_at hd, Int.toNat_natCast] at this
    exact lroomL_iff.mp (by simpa using this)
  · intro h n hn
    obtain ⟨h1, h2⟩ := List.mem_filter.mp hn
    obtain ⟨i, d, rfl, hd, p1⟩ := mem_writesL.mp h1
    rw [getD_at hd, decide_eq_true_iff] at h2
    rw [getD_at hd, Int.toNat_natCast, lroomL_iff.mpr (h i d hd p1 h2)]
    simp
theorem readL_le {cells crew : List Int} {v : Int} (h : 1 ≤ v) : v ≤ readL cells crew ↔ ∃ j ∈ crew, v ≤ cells.getD j.toNat 0 := by
  unfold readL
  obtain ⟨a, b⟩ := lmax_spec ((crew.map fun j => cells.getD j.toNat 0) ++ [0]) (by simp)
  constructor
  · intro z
    rcases List.mem_append.mp a with a | a
    · obtain ⟨j, hj, e⟩ := List.mem_map.mp a
      exact ⟨j, hj, by have e : cells.getD j.toNat 0 = _ := e; rw [e]; exact z⟩
    · have := List.mem_singleton.mp a
      omega
  · rintro ⟨j, hj, z⟩
    have := b _ (List.mem_append_left _ (List.mem_map.mpr ⟨j, hj, rfl⟩))
    exact Int.le_trans z this
theorem least_iff {page : List Dd} {crew : List Int} {v : Int} (h : 1 ≤ v) (hc : In08 crew) (hi : ∀ d ∈ page, d.In8) (hg : ∀ d ∈ page, goods d ≠ []) : leastL page crew < v ↔ Rooms page crew v := by
  rw [← rooms_hit hg]
  have ne : ((endsL page).map fun h => readL h crew) ≠ [] := by
    obtain ⟨f, hf⟩ := QtM.ex hg
    have := mem_qt.mpr hf
    unfold endsL
    intro e
    rw [List.map_eq_nil_iff, List.map_eq_nil_iff] at e
    rw [e] at this
    cases this
  have one : ∀ f, QtM page f → (readL (endA page f zeros) crew < v ↔ ¬ Hit page f crew v) := fun f hf => by
    rw [← Int.not_le, readL_le h, end_hits hc hi hf (by rfl)]
    have z0 : ¬ ∃ j ∈ hd page crew, v ≤ zeros.getD j.toNat 0 := by
      rintro ⟨j, _, z⟩
      have : zeros.getD j.toNat 0 = 0 := by
        rw [List.getD_eq_getElem?_getD, List.getElem?_replicate]
        split <;> rfl
      rw [this] at z
      omega
    constructor
    · intro a b
      exact a (.inr b)
    · rintro a (b | b)
      · exact z0 b
      · exact a b
  obtain ⟨a, b⟩ := lmin_spec _ ne
  unfold leastL
  constructor
  · intro z
    obtain ⟨c, hc', e⟩ := List.mem_map.mp a
    obtain ⟨f, hf, rfl⟩ := List.mem_map.mp hc'
    have q := mem_qt.mp hf
    exact ⟨f, q, (one f q).mp (by have e : readL _ crew = _ := e; rw [e]; exact z)⟩
  · rintro ⟨f, q, nh⟩
    have := (one f q).mpr nh
    have m := b _ (List.mem_map.mpr ⟨_, List.mem_map.mpr ⟨f, mem_qt.mpr q, rfl⟩, rfl⟩)
    exact Int.lt_of_le_of_lt m this
end DL
set_option linter.all false
set_option maxRecDepth 100000
set_option maxHeartbeats 2000000
namespace DL
/-! ### all of a chain -/
theorem GoodS.gd {s : Sh} (g : GoodS s) : Gd s := ⟨g.o.pw, g.n.pw, g.o.rg, g.e, g.o.hi⟩
/-- each one goes on where the one ahead ends -/
def Lnk : List Sh → Prop
  | [] => True
  | [_] => True
  | a :: b :: r => b.old = a.new ∧ Lnk (b :: r)
theorem Chn.lnk : ∀ {ss : List Sh}, (∀ (i : Nat) (a b : Sh), ss[i]? = some a → ss[i + 1]? = some b → b.old = a.new) → Lnk ss
  | [], _ => trivial
  | [_], _ => trivial
  | a :: b :: r, h => ⟨h 0 a b rfl rfl, Chn.lnk (ss := b :: r) fun i x y h1 h2 => h (i + 1) x y h1 h2⟩
theorem lnk_len : ∀ {ss : List Sh}, Lnk ss → (∀ s ∈ ss, GoodS s) → ∀ s ∈ ss, s.old.length = (ss.headD s0).old.length
  | [], _, _, s, h => nomatch h
  | [a], _, _, s, h => by rw [List.mem_singleton.mp h]; rfl
  | a :: b :: r, ⟨e, l⟩, g, s, h => by
    show s.old.length = a.old.length
    rcases List.mem_cons.mp h with rfl | h
    · rfl
    · have ih : s.old.length = b.old.length := lnk_len (ss := b :: r) l (fun s hs => g s (List.mem_cons_of_mem _ hs)) s h
      rw [ih, e, (g a List.mem_cons_self).e]
theorem lnk_heir : ∀ {ss : List Sh}, ss ≠ [] → Lnk ss → (∀ s ∈ ss, Heir s) → Heir (togL ss)
  | [], ne, _, _ => absurd rfl ne
  | [a], _, _, h => by
    have : togL [a] = a := by
      unfold togL
      simp
    rw [this]
    exact h a List.mem_cons_self
  | a :: b :: r, _, ⟨e, l⟩, h => heir_two (h a List.mem_cons_self) (lnk_heir (ss := b :: r) (by simp) l fun s hs => h s (List.mem_cons_of_mem _ hs)) e rfl (by simp [togL]) (by simp [togL])
theorem all_run : AllRun := fun ss C => by
  have L := Chn.lnk C.lk
  have ok := C.ok
  obtain ⟨h0, hm0⟩ := head_get ok.ne s0
  obtain ⟨hz, hmz⟩ := last_get ok.ne s0
  have len := lnk_len L ok.ok
  have g0 := ok.ok _ hm0
  have gz := ok.ok _ hmz
  have eo : (togL ss).old = (ss.headD s0).old := rfl
  have en : (togL ss).new = (ss.getLastD s0).new := rfl
  have G : Gd (togL ss) := ⟨g0.o.pw, gz.n.pw, g0.o.rg, by rw [eo, en, ← gz.e, len _ hmz], g0.o.hi⟩
  have sure : (∀ s ∈ ss, heirB s = true) → heirB (togL ss) = true := fun h => (heirB_iff G).mpr (lnk_heir ok.ne L fun s hs => (heirB_iff (ok.ok s hs).gd).mp (h s hs))
  refine ⟨ok, fun s hs => heir_all (ok.ok s hs).gd, heir_all G, sure, fun l hl => told_ok G hl, fun j hj => ?_, lose_iff G, fun k k1 k2 => ?_, fun s hs => len s hs, G.e.symm⟩
  · refine lt_ext (G.o.filter _) ((hd_pw (List.pairwise_singleton _ _)).filter _) fun x => ?_
    rw [List.mem_filter, decide_eq_true_iff, mem_orgL]
    unfold pgOf
    rw [mem_hd_pg]
    exact And.comm
  · intro crew hc v v1 v2
    obtain ⟨m1, m2⟩ := mem_cntL.mp hc
    have c8 : In08 crew := fun j hj => gz.n.rg j (m1.mem hj)
    have gne : ∀ d ∈ leafP k 0 ss, goods d ≠ [] := fun d hd => by
      obtain ⟨s, hs, ⟨t, v, rfl⟩ | ⟨t, c, hc, rfl⟩⟩ := mem_leafP hd
      · intro e
        have : (s.old.take k) ∈ cntL s.old k := mem_cntL.mpr ⟨List.take_sublist _ _, by rw [List.length_take, len s hs]; have : k ≤ (ss.headD s0).old.length := k2; omega⟩
        have e : (cntL s.old k).map some = [] := e
        rw [List.map_eq_nil_iff] at e
        rw [e] at this
        cases this
      · exact fun e => nomatch e
    have li := least_iff (page := leafP k 0 ss) (crew := crew) (v := (v : Int)) (by omega) c8 (ok.in8 k) gne
    refine ⟨?_, ?_, fun sr z => ?_⟩
    · rw [Bool.eq_iff_iff, canMiss_iff, decide_eq_true_iff, li]
    · rw [Bool.eq_iff_iff, lmiss_iff, decide_eq_true_iff, li]
    · have R := li.mp z
      have hh := (heirB_iff gz.gd).mp (List.all_eq_true.mp sr _ hmz)
      generalize ss.getLastD s0 = a at hz hmz gz hh m1 en
      obtain ⟨r, rfl⟩ : ∃ r, ss = r ++ [a] := by
        obtain ⟨r, e⟩ := List.getLast?_eq_some_iff.mp hz
        exact ⟨r, e⟩
      rw [leafP_app] at R
      have R := rooms_app R
      have lr : v ≤ r.length + 1 := by simpa using v2
      obtain ⟨R, _⟩ := (show RoomAt (.pt (3 * ((0 + r.length : Nat) : Int)) (((0 + r.length : Nat) : Int) + 1) a.old (cntL a.old k)) (hd (pgOf a (3 * ((0 + r.length : Nat) : Int) + 1) ++ []) crew) v ∧ _ from R)
      obtain ⟨lot, hl, dj⟩ := R rfl (show (v : Int) ≤ ((0 + r.length : Nat) : Int) + 1 by omega)
      rw [List.append_nil] at dj
      obtain ⟨l1, l2⟩ := mem_cntL.mp hl
      obtain ⟨σ, s1, s2⟩ := hh
      have i := img_len s1 s2 (fun x hx => m1.mem hx) ((pw_nodup gz.n.pw).sublist m1)
      have f := filter_app_len (l := a.old) fun x => decide (x ∈ ahL a.cp crew)
      have j := nodup_sub ((pw_nodup gz.o.pw).sublist l1) (U := a.old.filter fun x => !decide (x ∈ ahL a.cp crew)) fun x hx => by
        refine List.mem_filter.mpr ⟨l1.mem hx, ?_⟩
        have := dj x hx
        unfold pgOf at this
        rw [mem_hd_pg] at this
        simpa using this
      have la := len a (by simp)
      have k3 : k ≤ ((r ++ [a]).headD s0).old.length := k2
      omega
end DL
set_option Elab.async false
set_option linter.all false
set_option maxRecDepth 100000
set_option maxHeartbeats 0
namespace DL
open PySem PySem.Spec PyProof.Rows L2
/-! ### the head: what the top leaves -/
def dOf (p : Str × Nat) : He.DefD := ⟨(p.1, none), p.1, p.1, defArgs (top p.2), defBody (top p.2), defScope (top p.2), [], []⟩
def hFn : List He.DefD := DFL.map dOf
def hFa : List He.Fa := DFL.map (fun p => .glo p.1) ++ (BI.map .free ++ (CI.map (fun p => .int p.1 p.2) ++ [.glo "WRITES"]))
def hNm0 : List PySem.Str := ["NoPlace", "NoMoment", "NoVersion", "Unfit", "WRITES", "MANY", "DEEDS", "WORD", "PAIR", "VERSION_AT", "FAMILY_AT"]
def hNames : List PySem.Str := hNm0 ++ (DFL.map (·.1)).filter fun x => !(x == ("law" : Str))
def hEx (K : PySem.W.Frag) : Bool := He.tupB K "WRITES" [.str "put", .str "strike"]
abbrev hR : PySem.W.OpenRow := PySem.W.OpenLaw.row PySem.Challenge.rw_hintring_k72_whole_moves_behind_one_anot
abbrev hHk : PySem.W.Hook := He.hookX 3 hFa hFn [] [] hEx
def hOb (s : PySem.W.SharedT) : He.AlX := He.obsX 3 hFa hFn [] [] hEx (HandSHeadRun.getT s)
theorem hOb_eq (s : PySem.W.SharedT) : hOb s = hHk.obs s.abs := He.obsX_eq (HandSHeadRun.getT_eq s)
theorem hRun (w : World) : HandSHeadRun.RunEq hR (PySem.W.view hR.prog [76]) hHk hOb 6000 hNames w := by
  intro os
  kernel_rfl
end DL
set_option Elab.async false
set_option linter.all false
set_option maxRecDepth 100000
set_option maxHeartbeats 0
namespace DL
open PySem PySem.Spec PyProof.Rows L2
theorem h_facts {P : Program} {w : World} {K : PySem.W.Frag} {h : Heap} {mg : Str → Option Value} {f : Addr} (X : K.In h) (G : h.Ns mainGlobals mg) (hfa : mg ("law" : Str) = some (.ref f)) (c : He.SaysX hFa hFn [] [] hEx w h K) :
    ∃ fd : FuncData, (∀ (s : Shared) (v : Value), BindsTo s fd ⟨[v], []⟩ [("_law_script", v)]) ∧ ∀ base : Heap, K.In base → base.Ns mainGlobals mg → FnOk P w K mg base CX0 13 f fd ["_law_script"] (spD K 1 RlL) := by
  have D : He.SaysD hFa hFn K := c.t.d
  have fact : ∀ {g : He.Fa}, g ∈ hFa → g.ok K = true := fun hg => D.facts hg
  have inF : ∀ p ∈ DFL, He.Fa.glo p.1 ∈ hFa := fun p hp => List.mem_append_left _ (List.mem_map.mpr ⟨p, hp, rfl⟩)
  have inB : ∀ x ∈ BI, He.Fa.free x ∈ hFa := fun x hx => List.mem_append_right _ (List.mem_append_left _ (List.mem_map.mpr ⟨x, hx, rfl⟩))
  have inC : ∀ p ∈ CI, He.Fa.int p.1 p.2 ∈ hFa := fun p hp => List.mem_append_right _ (List.mem_append_right _ (List.mem_append_left _ (List.mem_map.mpr ⟨p, hp, rfl⟩)))
  have inW : He.Fa.glo "WRITES" ∈ hFa := List.mem_append_right _ (List.mem_append_right _ (List.mem_append_right _ (List.mem_singleton.mpr rfl)))
  have dfs : ∀ p ∈ DFL, ∃ fd : FuncData, FunD K p.1 p.1 (defArgs (top p.2)) (defBody (top p.2)) (defScope (top p.2)) [] [] (He.ga K p.1) fd := fun p hp => D.defs (d := dOf p) (List.mem_map.mpr ⟨p, hp, rfl⟩)
  have gl : ∀ p ∈ DFL, mg p.1 = some (.ref (He.ga K p.1)) := fun p hp => He.glo_ok X G (fact (inF p hp))
  have lawIn : (("law" : Str), 76) ∈ DFL := by decide
  obtain ⟨fd, F⟩ := dfs _ lawIn
  have e := hfa.symm.trans (gl _ lawIn)
  cases e
  have b := FunD.bindsA (ps := ["_law_script"]) F fun _ _ _ _ _ _ us hl => match us, hl with | [_], _ => rfl
  refine ⟨fd, fun s v => b s [v] rfl, fun base _ _ => ?_⟩
  let m : Md := ⟨P, w, K, mg, base, fun x hx => He.free_ok X G (fact (inB x hx)), fun p hp => He.int_ok X G (fact (inC p hp)), ⟨He.ga K "WRITES", He.glo_ok X G (fact inW), fun H => He.tupB_ok c.more H⟩⟩
  exact law_ok (m := m) F ⟨fun p hp => by
    obtain ⟨fd, F⟩ := dfs p hp
    exact ⟨_, fd, F, gl p hp⟩⟩ all_run
end DL
open PySem PySem.W PySem.Calls PyProof.Rows
theorem PySem.Challenge.cw_hintring_k72_whole_moves_behind_one_anot_holds : PySem.Challenge.rw_hintring_k72_whole_moves_behind_one_anot.Holds := by
  w_on; o_law
  refine HandSHeadRun.head_any (r := OpenLaw.row PySem.Challenge.rw_hintring_k72_whole_moves_behind_one_anot) (q := view (OpenLaw.row PySem.Challenge.rw_hintring_k72_whole_moves_behind_one_anot).prog [76]) (H := DL.hHk) (ob := DL.hOb) (M := 6000) (loose := DL.hNames) (d := HandSHeadRun.topDef (OpenLaw.row PySem.Challenge.rw_hintring_k72_whole_moves_behind_one_anot).prog 76) (kwd := []) DL.hOb_eq
    (by kernel_rfl) (fun s => by kernel_rfl) DL.hRun (by kernel_rfl) (by kernel_rfl) (by kernel_rfl) (by rfl) (by first | assumption | decide +kernel) (by decide +kernel) ⟨rfl, rfl, rfl, rfl, rfl, by decide +kernel⟩ ?hw ?hc
  case hw => w_witness2
  case hc =>
    refine L2.walk_ofE (l := PySem.Challenge.rw_hintring_k72_whole_moves_behind_one_anot) (n := 63) (k := 13) (x := "_law_script") (CX := L2.CX0) rfl (by decide) (by kernel_rfl) ⟨rfl, by decide, by decide⟩ ?F (fun _ _ _ _ z => z)
    intro w mg fa h Y G hmg0
    obtain ⟨K, KX, c⟩ := Y
    have hmg : mg ("law" : PySem.Str) = some (.ref fa) := by
      have e : (HandSHeadRun.topDef (OpenLaw.row PySem.Challenge.rw_hintring_k72_whole_moves_behind_one_anot).prog 76).name = ("law" : PySem.Str) := by kernel_rfl
      rw [← e]
      exact hmg0
    obtain ⟨fd, hb, hF⟩ := DL.h_facts (P := (PySem.Challenge.rw_hintring_k72_whole_moves_behind_one_anot).prog) (w := w) KX G hmg c
    exact ⟨K, fd, DL.spD K 1 DL.RlL, KX, hb, fun H a ns hl _ hS => ⟨H, [DL.scrD ns], .bool true, L2.Same.refl H, .cons (.scr rfl hS) .nil, rfl, ⟨ns, rfl, by omega, rfl⟩, fun v F' H' g r => by cases r; rfl⟩, hF⟩
